import PyProof.Rows.All
import Wide.All
import OpenK.AllK
import Wide.FinOn
import PySem.Challenge.RW_np0293_01
open PySem PySem.W PyProof.Rows PySem.Calls PySem.Spec
set_option Elab.async false
set_option compiler.extract_closed false
set_option maxRecDepth 100000
set_option maxHeartbeats 8000000
namespace Mine
theorem sd0 : sreFenced Challenge.rw_np0293_01.row.prog.main = true := by kernel_rfl
theorem sd1 : ((moduleNames Challenge.rw_np0293_01.row.prog.main.body).isEmpty || lookedIntoSs (moduleNames Challenge.rw_np0293_01.row.prog.main.body) Challenge.rw_np0293_01.row.prog.main.body) = true := by kernel_rfl
theorem sd2 : namesResolve Challenge.rw_np0293_01.row.prog = true := by kernel_rfl
theorem sd3 : (Challenge.rw_np0293_01.row.prog.boundNames.all fun n => !worldNames.contains n) = true := by kernel_rfl
theorem sd4 : noRoadLSs { strict := !(importedModules Challenge.rw_np0293_01.row.prog.main.body).all cThrough.contains, foot := none, bare := List.filter (readsOut Challenge.rw_np0293_01.row.prog Challenge.rw_np0293_01.row.prog.main.body) [Str.ofString "vars", Str.ofString "dir", Str.ofString "locals"] } Challenge.rw_np0293_01.row.prog.main.body = true := by kernel_rfl
theorem sd5 : (namesMeet Challenge.rw_np0293_01.row.prog Challenge.rw_np0293_01.row.prog.main.body fun x n => attrL n) = true := by kernel_rfl
theorem sd6 : Challenge.rw_np0293_01.row.loose.isEmpty = true := by kernel_rfl
theorem sd7 : Challenge.rw_np0293_01.row.makers.isEmpty = true := by kernel_rfl
theorem sd8 : (List.isEmpty Challenge.rw_np0293_01.row.records || Challenge.rw_np0293_01.row.raises.all fun ct => ct.fst != ExcName.builtin "AttributeError" && ct.fst != ExcName.builtin "TypeError") = true := by kernel_rfl
theorem sd11 : (List.all Challenge.rw_np0293_01.row.records fun x => !x.fst.opensWith (Str.ofString "__") && !builtinNamed x.fst && Challenge.rw_np0293_01.row.prog.boundNames.contains x.fst && x.snd.all fun f => !f.fst.opensWith (Str.ofString "__")) = true := by kernel_rfl
theorem sd12 : Challenge.rw_np0293_01.row.solid = true := by kernel_rfl
theorem sd13 : Challenge.rw_np0293_01.row.pre.litsOk = true := by kernel_rfl
theorem sd14 : Challenge.rw_np0293_01.row.post.litsOk = true := by kernel_rfl
theorem sd15 : (Challenge.rw_np0293_01.row.raises.all fun x => x.snd.litsOk) = true := by kernel_rfl
theorem sd17 : (Challenge.rw_np0293_01.row.within.all fun i => decide (i < Challenge.rw_np0293_01.row.args.length)) = true := by kernel_rfl
theorem sd18 : Option.all (fun i => decide (i < Challenge.rw_np0293_01.row.args.length)) Challenge.rw_np0293_01.row.same = true := by kernel_rfl
theorem sd19 : Challenge.rw_np0293_01.row.prog.boundNames.contains Challenge.rw_np0293_01.row.name = true := by kernel_rfl
theorem sd20 : (!startupNames.contains Challenge.rw_np0293_01.row.name) = true := by kernel_rfl
theorem sd21 : decide (Challenge.rw_np0293_01.foot ≤ (behindTheImports Challenge.rw_np0293_01.prog).length) = true := by kernel_rfl
theorem sd22 : Challenge.rw_np0293_01.footing.all footLine = true := by kernel_rfl
theorem sd23 : noClassBlock Challenge.rw_np0293_01.prog Challenge.rw_np0293_01.footing = true := by kernel_rfl
theorem sd24 : Option.all (fun n => decide (63 ≤ n)) Challenge.rw_np0293_01.most = true := by kernel_rfl
theorem sd25 : Option.all (fun n => decide (2 ^ 63 ≤ n)) Challenge.rw_np0293_01.bound = true := by kernel_rfl
theorem sd26 : noRoadLSs { strict := true, foot := some Challenge.rw_np0293_01.bound', writes := Challenge.rw_np0293_01.writes, may := Challenge.rw_np0293_01.may } Challenge.rw_np0293_01.footing = true := by kernel_rfl
theorem sd27 : defStands Challenge.rw_np0293_01.about Challenge.rw_np0293_01.above = true := by kernel_rfl
theorem sd28 : Challenge.rw_np0293_01.namesIt = true := by kernel_rfl
theorem sd29 : ([Str.ofString "type", Str.ofString "isinstance", Str.ofString "issubclass", Str.ofString "getattr", Str.ofString "hasattr"].all fun n => Challenge.rw_np0293_01.about != [n]) = true := by kernel_rfl
theorem sd30 : (Challenge.rw_np0293_01.bound'.all fun n => !builtinNamed n || Challenge.rw_np0293_01.about == [n] || !Challenge.rw_np0293_01.reads n) = true := by kernel_rfl
theorem sd31 : (!Challenge.rw_np0293_01.writes || (List.flatMap importedNames Challenge.rw_np0293_01.prog.main.body).all fun n => !Challenge.rw_np0293_01.reads n) = true := by kernel_rfl
theorem sd32 : ((List.flatMap importedNames Challenge.rw_np0293_01.prog.main.body).all fun n => !Challenge.rw_np0293_01.reads n || (drawsOf n Challenge.rw_np0293_01.prog.main.body).all fun mn => mn.snd != Str.ofString "attrgetter" && mn.snd != Str.ofString "methodcaller") = true := by kernel_rfl
theorem sd33 : (namesMeet Challenge.rw_np0293_01.prog Challenge.rw_np0293_01.footing fun sc n => (![Str.ofString "type", Str.ofString "isinstance", Str.ofString "issubclass", Str.ofString "getattr", Str.ofString "hasattr"].contains n || List.lookup n sc.names == some NameKind.globalImplicit) && (Challenge.rw_np0293_01.may != some n || sc.kind == ScopeKind.module || List.lookup n sc.names == some NameKind.globalImplicit)) = true := by kernel_rfl
theorem sd34 : Challenge.rw_np0293_01.own.contains Challenge.rw_np0293_01.name = true := by kernel_rfl
theorem sd35 : (Challenge.rw_np0293_01.own.eraseDups.length == Challenge.rw_np0293_01.own.length) = true := by kernel_rfl
theorem sd36 : (Challenge.rw_np0293_01.own.all fun n => !builtinNamed n) = true := by kernel_rfl
theorem sd37 : (namesMeet Challenge.rw_np0293_01.prog Challenge.rw_np0293_01.above fun x n => !Challenge.rw_np0293_01.own.contains n) = true := by kernel_rfl
theorem sd38 : (namesMeet Challenge.rw_np0293_01.prog Challenge.rw_np0293_01.footing fun sc n => sc.kind == ScopeKind.module || List.lookup n sc.names != some NameKind.globalExplicit) = true := by kernel_rfl
theorem said0 : PySem.Challenge.rw_np0293_01.wellSaid = true := by
  unfold OpenLaw.wellSaid OpenRow.wellSaid OpenRow.partSaid looksOpen
  repeat' (with_reducible refine look_both ?_ ?_)
  all_goals (with_reducible first | exact sd0 | exact sd1 | exact sd2 | exact sd3 | exact sd4 | exact sd5 | exact sd6 | exact sd7 | exact sd8 | exact sd11 | exact sd12 | exact sd13 | exact sd14 | exact sd15 | exact sd17 | exact sd18 | exact sd19 | exact sd20 | exact sd21 | exact sd22 | exact sd23 | exact sd24 | exact sd25 | exact sd26 | exact sd27 | exact sd28 | exact sd29 | exact sd30 | exact sd31 | exact sd32 | exact sd33 | exact sd34 | exact sd35 | exact sd36 | exact sd37 | exact sd38 | kernel_rfl)
theorem lawOf0 (h : PySem.Challenge.rw_np0293_01.row.wellSaid = true → PySem.Challenge.rw_np0293_01.row.Holds) : PySem.Challenge.rw_np0293_01.Holds := holds_law said0 h

inductive Val where
  | none
  | bool (b : Bool)
  | int (i : Int)
  | str (s : Str)
  | tup (vs : List Val)
  | ref (a : Addr)

inductive Cell where
  | list (vs : List Val) (o : Obj)
  | inst (C dx : Addr) (fs : List (Str × Val))
  | raw (o : Obj)

noncomputable abbrev Led := List (Addr × Obj)
noncomputable abbrev Store := Addr → Option Cell
noncomputable abbrev LEnv := List (Str × Val)

noncomputable def Store.set (σ : Store) (a : Addr) (c : Cell) : Store := fun b => if b = a then some c else σ b
theorem Store.set_same {σ : Store} {a : Addr} {c : Cell} : σ.set a c a = some c := by simp [Store.set]
theorem Store.set_ne {σ : Store} {a b : Addr} {c : Cell} (h : b ≠ a) : σ.set a c b = σ b := by simp [Store.set, h]

noncomputable def tupObj (arr : Array Value) (n : Nat) : Obj := { cls := .type "tuple", data := .seq arr n }

mutual
inductive VRel (N : Led) : Value → Val → Prop
  | none : VRel N .none .none
  | bool (b : Bool) : VRel N (.bool b) (.bool b)
  | int (i : Int) (t : Tok) : VRel N (.int i t) (.int i)
  | str (s : Str) (t : Tok) : VRel N (.str s t) (.str s)
  | tup {a : Addr} {arr : List Value} {n : Nat} {vs : List Val} : (a, tupObj arr.toArray n) ∈ N → VRels N arr vs → VRel N (.ref a) (.tup vs)
  | ref (a : Addr) : VRel N (.ref a) (.ref a)
inductive VRels (N : Led) : List Value → List Val → Prop
  | nil : VRels N [] []
  | cons {r : Value} {v : Val} {rs : List Value} {vs : List Val} : VRel N r v → VRels N rs vs → VRels N (r :: rs) (v :: vs)
end

noncomputable def Stab (o : Obj) : Prop := ¬ (o.cls = .type "list" ∧ ∃ arr n, o.data = .seq arr n) ∧ ¬ ∃ es n, o.data = .dict es n
noncomputable def Ext (N N' : Led) : Prop := ∀ p ∈ N, Stab p.2 → p ∈ N'
theorem Ext.refl (N : Led) : Ext N N := fun _ h _ => h
theorem Ext.trans {N₁ N₂ N₃ : Led} (h : Ext N₁ N₂) (k : Ext N₂ N₃) : Ext N₁ N₃ := fun p hp hs => k p (h p hp hs) hs
theorem Ext.of_sub {N N' : Led} (h : ∀ p ∈ N, p ∈ N') : Ext N N' := fun p hp _ => h p hp
theorem stab_tup (arr : Array Value) (n : Nat) : Stab (tupObj arr n) := by
  constructor <;> (intro h; simp [tupObj] at h)
theorem stab_cell {o : Obj} {v : Option Value} (h : o.data = .cell v) : Stab o := by
  constructor <;> (intro q; simp [h] at q)
theorem stab_fields {o : Obj} {v : Array Value} (h : o.data = .fields v) : Stab o := by
  constructor <;> (intro q; simp [h] at q)

mutual
theorem VRel.ext {N N' : Led} (x : Ext N N') : ∀ {r : Value} {v : Val}, VRel N r v → VRel N' r v
  | _, _, .none => .none
  | _, _, .bool b => .bool b
  | _, _, .int i t => .int i t
  | _, _, .str s t => .str s t
  | _, _, .tup h r => .tup (x _ h (stab_tup _ _)) (VRels.ext x r)
  | _, _, .ref a => .ref a
theorem VRels.ext {N N' : Led} (x : Ext N N') : ∀ {rs : List Value} {vs : List Val}, VRels N rs vs → VRels N' rs vs
  | _, _, .nil => .nil
  | _, _, .cons h r => .cons (VRel.ext x h) (VRels.ext x r)
end
theorem VRels.length {N : Led} : ∀ {rs : List Value} {vs : List Val}, VRels N rs vs → rs.length = vs.length
  | _, _, .nil => rfl
  | _, _, .cons _ r => by simp [VRels.length r]
theorem VRels.get {N : Led} : ∀ {rs : List Value} {vs : List Val} {i : Nat} {v : Val}, VRels N rs vs → vs[i]? = some v → ∃ r, rs[i]? = some r ∧ VRel N r v
  | _, _, i, v, .nil, h => by simp at h
  | _, _, 0, v, .cons h _, e => by simp at e; subst e; exact ⟨_, rfl, h⟩
  | _, _, i+1, v, .cons _ r, e => by simp at e; simpa using VRels.get r e
theorem VRels.get' {N : Led} : ∀ {rs : List Value} {vs : List Val} {i : Nat} {r : Value}, VRels N rs vs → rs[i]? = some r → ∃ v, vs[i]? = some v ∧ VRel N r v
  | _, _, i, v, .nil, h => by simp at h
  | _, _, 0, v, .cons h _, e => by simp at e; subst e; exact ⟨_, rfl, h⟩
  | _, _, i+1, v, .cons _ r, e => by simp at e; simpa using VRels.get' r e
theorem VRels.append {N : Led} : ∀ {rs rs' : List Value} {vs vs' : List Val}, VRels N rs vs → VRels N rs' vs' → VRels N (rs ++ rs') (vs ++ vs')
  | _, _, _, _, .nil, k => k
  | _, _, _, _, .cons h r, k => .cons h (VRels.append r k)
theorem VRels.take {N : Led} : ∀ {rs : List Value} {vs : List Val} (n : Nat), VRels N rs vs → VRels N (rs.take n) (vs.take n)
  | _, _, 0, _ => by simpa using VRels.nil
  | _, _, n+1, .nil => by simpa using VRels.nil
  | _, _, n+1, .cons h r => by simpa using VRels.cons h (VRels.take n r)
theorem VRels.drop {N : Led} : ∀ {rs : List Value} {vs : List Val} (n : Nat), VRels N rs vs → VRels N (rs.drop n) (vs.drop n)
  | _, _, 0, h => by simpa using h
  | _, _, n+1, .nil => by simpa using VRels.nil
  | _, _, n+1, .cons h r => by simpa using VRels.drop n r

/-- the fields of an object's dict -/
inductive FRel (N : Led) : List DictEntry → List (Str × Val) → Prop
  | nil : FRel N [] []
  | cons {hh : Int} {x : Str} {t : Tok} {r : Value} {v : Val} {es : List DictEntry} {fs : List (Str × Val)} : VRel N r v → FRel N es fs → FRel N (⟨hh, .str x t, r⟩ :: es) ((x, v) :: fs)
theorem FRel.ext {N N' : Led} (x : Ext N N') : ∀ {es : List DictEntry} {fs : List (Str × Val)}, FRel N es fs → FRel N' es fs
  | _, _, .nil => .nil
  | _, _, .cons h r => .cons (h.ext x) (FRel.ext x r)

noncomputable def CRel (N : Led) (a : Addr) : Cell → Prop
  | .list vs o => ∃ arr n, o = W.listOf (List.toArray arr) n ∧ (a, o) ∈ N ∧ VRels N arr vs
  | .inst C dx fs => ∃ es n, (a, instObj C dx) ∈ N ∧ (dx, dictOf es n) ∈ N ∧ FRel N es fs
  | .raw o => (a, o) ∈ N ∧ ∀ vs, o.data ≠ .fields vs

structure StRel (N : Led) (σ : Store) : Prop where
  cell : ∀ a c, σ a = some c → CRel N a c
  inj : ∀ a b C C' dx fs fs', σ a = some (.inst C dx fs) → σ b = some (.inst C' dx fs') → a = b
  off : ∀ a C dx fs o, σ a = some (.inst C dx fs) → σ dx ≠ some (.raw o)

/-- what is fixed for the whole proof -/
structure Cx where
  prog : Program
  w : World
  K : Frag
  p : Program
  loose : List Str
  mean : ExcName → Option Value
  mg : Str → Option Value
  mb : Str → Option Value
  sa : Addr
  svs : List Value
  sns : List Int

/-- a frame -/
structure Fm where
  dp : Nat
  un : Nat
  cn : Str
  cs : Scope
  L : Addr
  a : Addr
  ccd : Value
  cl : List (Str × Addr)
  outer : List Env
  A₀ : Around
  base : Heap
  h₀ : Heap

noncomputable abbrev Fm.env (f : Fm) : Env := envX f.cn f.cs f.L f.a f.ccd f.cl
noncomputable abbrev Fm.around (f : Fm) : Around := ktrTop f.dp f.un (some []) f.cn f.cs f.L f.a f.ccd f.cl f.outer

structure Fm.Ok (f : Fm) (c : Cx) (d : Nat) (cs : Scope) : Prop where
  B : Below f.A₀ f.base f.outer f.h₀
  X : c.K.In f.h₀
  T : Top c.p c.loose c.mean c.mg c.mb f.h₀
  hcs : f.cs = cs
  kind : cs.kind = .function
  room : f.dp + d < recursionLimit
  units : f.un + 8 * d + 200 < cLine
  scr : f.h₀.IsList c.sa c.svs.toArray
  sin : IntsAre c.svs c.sns

structure Inv (f : Fm) (m : Str → Option Value) (N : Led) (h : Heap) (σ : Store) : Prop where
  fr : Fr f.h₀ f.L h m
  nw : News f.h₀ f.L h N
  st : StRel N σ

inductive NRel (f : Fm) (m : Str → Option Value) (N : Led) (x : Str) (v : Val) : Prop
  | loc {r : Value} : f.cs.names.lookup x = some .local → m x = some r → VRel N r v → NRel f m N x v
  | cell {ca : Addr} {o : Obj} {r : Value} : f.cs.names.lookup x = some .cell → f.cl.lookup x = some ca → (ca, o) ∈ N → Stab o → o.data = .cell (some r) → VRel N r v → NRel f m N x v
noncomputable def LRel (f : Fm) (m : Str → Option Value) (N : Led) (ρ : LEnv) : Prop := ∀ x v, ρ.lookup x = some v → NRel f m N x v
theorem LRel.ext {f : Fm} {m : Str → Option Value} {N N' : Led} {ρ : LEnv} (h : LRel f m N ρ) (x : Ext N N') : LRel f m N' ρ := fun y v e => by
  cases h y v e with
  | loc a b c => exact .loc a b (c.ext x)
  | cell a b c d e g => exact .cell a b (x _ c d) d e (g.ext x)

/-- what holds behind an expression -/
noncomputable def Then (f : Fm) (m : Str → Option Value) (N : Led) (s : Shared) (Q : Val → Store → Prop) (QC : Value → Shared → Prop) : Prop :=
  ∀ r v σ' h' N' tk', Q v σ' → VRel N' r v → Ext N N' → Inv f m N' h' σ' → QC r { s with heap := h', toks := tk' }
noncomputable def ThenB (f : Fm) (m : Str → Option Value) (N : Led) (s : Shared) (Q : Bool → Store → Prop) (QC : Bool → Shared → Prop) : Prop :=
  ∀ b σ' h' N' tk', Q b σ' → Ext N N' → Inv f m N' h' σ' → QC b { s with heap := h', toks := tk' }
noncomputable def ThenU (f : Fm) (m : Str → Option Value) (N : Led) (s : Shared) (Q : Store → Prop) (QC : Unit → Shared → Prop) : Prop :=
  ∀ σ' h' N' tk', Q σ' → Ext N N' → Inv f m N' h' σ' → QC () { s with heap := h', toks := tk' }
noncomputable def ThenL (f : Fm) (m : Str → Option Value) (N : Led) (s : Shared) (Q : List Val → Store → Prop) (QC : List Value → Shared → Prop) : Prop :=
  ∀ rs vs σ' h' N' tk', Q vs σ' → VRels N' rs vs → Ext N N' → Inv f m N' h' σ' → QC rs { s with heap := h', toks := tk' }

inductive Fl where
  | next | cont
  | ret (v : Val)
inductive FlRel (N : Led) : Flow → Fl → Prop
  | next : FlRel N .next .next
  | cont : FlRel N .cont .cont
  | ret {r : Value} {v : Val} : VRel N r v → FlRel N (.ret r) (.ret v)
noncomputable def ThenS (f : Fm) (N : Led) (s : Shared) (Q : Fl → LEnv → Store → Prop) (QC : Flow → Shared → Prop) : Prop :=
  ∀ g fl ρ' σ' m' h' N' tk', Q fl ρ' σ' → FlRel N' g fl → Ext N N' → Inv f m' N' h' σ' → LRel f m' N' ρ' → QC g { s with heap := h', toks := tk' }

noncomputable abbrev noE : Value → Shared → Prop := fun _ _ => False

variable (c : Cx) (d : Nat) (cs : Scope)

noncomputable def WE (e : Expr) (ρ : LEnv) (σ : Store) (Q : Val → Store → Prop) : Prop :=
  ∀ f m N s QC, Fm.Ok f c d cs → Inv f m N s.heap σ → LRel f m N ρ → Then f m N s Q QC → wpAny (model c.prog c.w) f.around (eval e f.env) QC noE s
noncomputable def WT (e : Expr) (ρ : LEnv) (σ : Store) (Q : Bool → Store → Prop) : Prop :=
  ∀ f m N s QC, Fm.Ok f c d cs → Inv f m N s.heap σ → LRel f m N ρ → ThenB f m N s Q QC → wpAny (model c.prog c.w) f.around (isTrue e f.env (eval e f.env)) QC noE s
noncomputable def WL (pos : Pos) (es : List Expr) (ρ : LEnv) (σ : Store) (Q : List Val → Store → Prop) : Prop :=
  ∀ f m N s QC, Fm.Ok f c d cs → Inv f m N s.heap σ → LRel f m N ρ → ThenL f m N s Q QC → wpAny (model c.prog c.w) f.around (spliced (backTo pos (starEach es f.env))) QC noE s
/-- a step over values that stand already -/
noncomputable def G1 (t : Value → Sem Value) (v : Val) (σ : Store) (Q : Val → Store → Prop) : Prop :=
  ∀ f m N s QC r, Fm.Ok f c d cs → Inv f m N s.heap σ → VRel N r v → Then f m N s Q QC → wpAny (model c.prog c.w) f.around (t r) QC noE s
noncomputable def G2 (t : Value → Value → Sem Value) (v v' : Val) (σ : Store) (Q : Val → Store → Prop) : Prop :=
  ∀ f m N s QC r r', Fm.Ok f c d cs → Inv f m N s.heap σ → VRel N r v → VRel N r' v' → Then f m N s Q QC → wpAny (model c.prog c.w) f.around (t r r') QC noE s
noncomputable def GL (t : List Value → Sem Value) (vs : List Val) (σ : Store) (Q : Val → Store → Prop) : Prop :=
  ∀ f m N s QC rs, Fm.Ok f c d cs → Inv f m N s.heap σ → VRels N rs vs → Then f m N s Q QC → wpAny (model c.prog c.w) f.around (t rs) QC noE s
noncomputable def GB (t : Value → Sem Bool) (v : Val) (σ : Store) (Q : Bool → Store → Prop) : Prop :=
  ∀ f m N s QC r, Fm.Ok f c d cs → Inv f m N s.heap σ → VRel N r v → ThenB f m N s Q QC → wpAny (model c.prog c.w) f.around (t r) QC noE s
noncomputable def WS (b : List Stmt) (ρ : LEnv) (σ : Store) (Q : Fl → LEnv → Store → Prop) : Prop :=
  ∀ f m N s QC, Fm.Ok f c d cs → Inv f m N s.heap σ → LRel f m N ρ → ThenS f N s Q QC → wpAny (model c.prog c.w) f.around (execs b f.env) QC noE s
noncomputable def WX (b : Stmt) (ρ : LEnv) (σ : Store) (Q : Fl → LEnv → Store → Prop) : Prop :=
  ∀ f m N s QC, Fm.Ok f c d cs → Inv f m N s.heap σ → LRel f m N ρ → ThenS f N s Q QC → wpAny (model c.prog c.w) f.around (exec b f.env) QC noE s
/-- a call of a def of the text: whatever the caller's scope -/
noncomputable def WC (fa : Addr) (vs : List Val) (σ : Store) (Q : Val → Store → Prop) : Prop :=
  ∀ cs, GL c d cs (fun rs => call (.ref fa) rs) vs σ Q

section
variable {c d cs}
theorem Inv.led {f : Fm} {m : Str → Option Value} {N : Led} {h : Heap} {σ : Store} (I : Inv f m N h σ) {a : Addr} {o o' : Obj} (h1 : (a, o) ∈ N) (h2 : (a, o') ∈ N) : o = o' := by
  have q := (I.nw _ h1).1
  rw [(I.nw _ h2).1] at q
  exact (Option.some.inj q).symm

theorem StRel.sup {N N' : Led} {σ : Store} (h : StRel N σ) (x : ∀ p ∈ N, p ∈ N') : StRel N' σ := by
  refine ⟨fun a c e => ?_, h.inj, h.off⟩
  cases c with
  | list vs o =>
    obtain ⟨arr, n, ho, hm, hr⟩ := h.cell a _ e
    exact ⟨arr, n, ho, x _ hm, hr.ext (Ext.of_sub x)⟩
  | inst C dx fs =>
    obtain ⟨es, n, h1, h2, hr⟩ := h.cell a _ e
    exact ⟨es, n, x _ h1, x _ h2, hr.ext (Ext.of_sub x)⟩
  | raw o => exact ⟨x _ (h.cell a _ e).1, (h.cell a _ e).2⟩

/-- the tokens alone turn -/
theorem Inv.same {f : Fm} {m : Str → Option Value} {N : Led} {h h' : Heap} {σ : Store} (I : Inv f m N h σ) (F : Fr f.h₀ f.L h' m) (N' : News f.h₀ f.L h' N) : Inv f m N h' σ := ⟨F, N', I.st⟩

/-- one list of the ledger turned -/
theorem led_upd {h₀ h h' : Heap} {L a : Addr} {m : Str → Option Value} {N : Led} {o o' : Obj} (F : Fr h₀ L h m) (nw : News h₀ L h N) (hm : (a, o) ∈ N) (hs : Heap.SameBut a h h') (hg : h'.get? a = some o') :
    Fr h₀ L h' m ∧ News h₀ L h' ((a, o') :: N.filter (fun p => decide (p.1 ≠ a))) := by
  obtain ⟨g1, g2, g3⟩ := nw _ hm
  refine ⟨F.change hs g2 g3, fun p hp => ?_⟩
  rcases List.mem_cons.mp hp with rfl | hp
  · exact ⟨hg, g2, g3⟩
  · obtain ⟨hp1, hp2⟩ := List.mem_filter.mp hp
    have hne : p.1 ≠ a := by simpa using hp2
    exact ⟨(hs.2 _ hne).trans (nw _ hp1).1, (nw _ hp1).2⟩
theorem ext_upd {h₀ h : Heap} {L a : Addr} {N : Led} {o o' : Obj} (nw : News h₀ L h N) (hm : (a, o) ∈ N) (hs : ¬ Stab o) : Ext N ((a, o') :: N.filter (fun p => decide (p.1 ≠ a))) := by
  intro p hp hst
  refine List.mem_cons_of_mem _ (List.mem_filter.mpr ⟨hp, ?_⟩)
  have : p.1 ≠ a := fun e => hs (by
    have q := (nw _ hp).1
    rw [e, (nw _ hm).1] at q
    have q' : o = p.2 := Option.some.inj q
    rw [q']; exact hst)
  simpa using this
theorem not_stab_list (arr : Array Value) (n : Nat) : ¬ Stab (W.listOf arr n) := fun h => h.1 ⟨rfl, _, _, rfl⟩
theorem not_stab_dict (es : List DictEntry) (n : Nat) : ¬ Stab (dictOf es n) := fun h => h.2 ⟨_, _, rfl⟩
theorem stab_inst (C dx : Addr) : Stab (instObj C dx) := by
  constructor <;> (intro h; simp at h)

theorem set_list_inj {N : Led} {σ : Store} (_S : StRel N σ) {a : Addr} {vs : List Val} {o : Obj} :
    (∀ z C dx fs, σ.set a (.list vs o) z = some (.inst C dx fs) → σ z = some (.inst C dx fs)) ∧ (∀ z o', σ.set a (.list vs o) z = some (.raw o') → σ z = some (.raw o')) := by
  constructor
  · intro z C dx fs q
    by_cases hz : z = a
    · subst hz; rw [Store.set_same] at q; cases q
    · rwa [Store.set_ne hz] at q
  · intro z o' q
    by_cases hz : z = a
    · subst hz; rw [Store.set_same] at q; cases q
    · rwa [Store.set_ne hz] at q
/-- a list's cell turned: the store behind -/
theorem st_list {f : Fm} {m : Str → Option Value} {N : Led} {h h' : Heap} {σ : Store} {a : Addr} {vs vs' : List Val} {o : Obj} {arr' : List Value} {n' : Nat} (I : Inv f m N h σ) (hc : σ a = some (.list vs o))
    (hs : Heap.SameBut a h h') (hg : h'.get? a = some (W.listOf arr'.toArray n')) (hr : VRels N arr' vs') :
    ∃ N', Ext N N' ∧ Inv f m N' h' (σ.set a (.list vs' (W.listOf arr'.toArray n'))) := by
  obtain ⟨arr, n, ho, hm, _⟩ := I.st.cell a _ hc
  subst ho
  obtain ⟨F', N'⟩ := led_upd I.fr I.nw hm hs hg
  have X := ext_upd (o' := W.listOf arr'.toArray n') I.nw hm (not_stab_list _ _)
  obtain ⟨g, gr⟩ := set_list_inj I.st (a := a) (vs := vs') (o := W.listOf arr'.toArray n')
  refine ⟨_, X, F', N', ⟨fun b c e => ?_, fun b b' C C' dx fs fs' e e' => I.st.inj _ _ _ _ _ _ _ (g _ _ _ _ e) (g _ _ _ _ e'), fun b C dx fs o e e' => I.st.off _ _ _ _ _ (g _ _ _ _ e) (gr _ _ e')⟩⟩
  · by_cases hb : b = a
    · subst hb
      rw [Store.set_same] at e
      cases e
      exact ⟨arr', n', rfl, List.mem_cons_self, hr.ext X⟩
    · rw [Store.set_ne hb] at e
      cases c with
      | list us o₂ =>
        obtain ⟨arr₂, n₂, ho₂, hm₂, hr₂⟩ := I.st.cell b _ e
        exact ⟨arr₂, n₂, ho₂, List.mem_cons_of_mem _ (List.mem_filter.mpr ⟨hm₂, by simpa using hb⟩), hr₂.ext X⟩
      | inst C dx fs =>
        obtain ⟨es, n₂, h1, h2, hr₂⟩ := I.st.cell b _ e
        refine ⟨es, n₂, List.mem_cons_of_mem _ (List.mem_filter.mpr ⟨h1, by simpa using hb⟩), List.mem_cons_of_mem _ (List.mem_filter.mpr ⟨h2, ?_⟩), hr₂.ext X⟩
        have : dx ≠ a := fun q => by
          subst q
          have := I.led h2 hm
          simp [W.listOf] at this
        simpa using this
      | raw o => exact ⟨List.mem_cons_of_mem _ (List.mem_filter.mpr ⟨(I.st.cell b _ e).1, by simpa using hb⟩), (I.st.cell b _ e).2⟩

theorem Inv.on {f : Fm} {m : Str → Option Value} {N : Led} {h : Heap} {σ : Store} (I : Inv f m N h σ) {a : Addr} {c : Cell} (e : σ a = some c) : ∃ o, (a, o) ∈ N := by
  cases c with
  | list vs o => obtain ⟨arr, n, ho, hm, _⟩ := I.st.cell a _ e; exact ⟨_, hm⟩
  | inst C dx fs => obtain ⟨es, n, h1, h2, hr⟩ := I.st.cell a _ e; exact ⟨_, h1⟩
  | raw o => exact ⟨_, (I.st.cell a _ e).1⟩
theorem Inv.fresh {f : Fm} {m : Str → Option Value} {N : Led} {h : Heap} {σ : Store} (I : Inv f m N h σ) : ∀ a, h.objs.size ≤ a → σ a = none := by
  intro a ha
  cases e : σ a with
  | none => rfl
  | some c =>
    exfalso
    have : ∃ o, (a, o) ∈ N := by
      cases c with
      | list vs o => obtain ⟨arr, n, ho, hm, _⟩ := I.st.cell a _ e; exact ⟨_, hm⟩
      | inst C dx fs => obtain ⟨es, n, h1, h2, hr⟩ := I.st.cell a _ e; exact ⟨_, h1⟩
      | raw o => exact ⟨_, (I.st.cell a _ e).1⟩
    obtain ⟨o, ho⟩ := this
    exact absurd (Heap.lt_size (I.nw _ ho).1) (Nat.not_lt.mpr ha)

/-- a new list on the ledger -/
theorem st_new {f : Fm} {m : Str → Option Value} {N : Led} {h h' : Heap} {σ : Store} {a : Addr} {vs : List Val} {arr : List Value} {n : Nat} (I : Inv f m N h σ) (ha : h.objs.size ≤ a)
    (F : Fr f.h₀ f.L h' m) (N' : News f.h₀ f.L h' ((a, W.listOf arr.toArray n) :: N)) (hr : VRels N arr vs) :
    σ a = none ∧ Ext N ((a, W.listOf arr.toArray n) :: N) ∧ Inv f m ((a, W.listOf arr.toArray n) :: N) h' (σ.set a (.list vs (W.listOf arr.toArray n))) := by
  have h0 := I.fresh a ha
  have sub : ∀ p ∈ N, p ∈ (a, W.listOf arr.toArray n) :: N := fun p hp => List.mem_cons_of_mem _ hp
  have S := I.st.sup sub
  obtain ⟨g, gr⟩ := set_list_inj I.st (a := a) (vs := vs) (o := W.listOf arr.toArray n)
  refine ⟨h0, Ext.of_sub sub, F, N', ⟨fun b c e => ?_, fun b b' C C' dx fs fs' e e' => I.st.inj _ _ _ _ _ _ _ (g _ _ _ _ e) (g _ _ _ _ e'), fun b C dx fs o e e' => I.st.off _ _ _ _ _ (g _ _ _ _ e) (gr _ _ e')⟩⟩
  · by_cases hb : b = a
    · subst hb
      rw [Store.set_same] at e
      cases e
      exact ⟨arr, n, rfl, List.mem_cons_self, hr.ext (Ext.of_sub sub)⟩
    · rw [Store.set_ne hb] at e
      exact S.cell b c e
end

/-- the two ways of a test -/
noncomputable def Ways (b : Bool) (t e : Prop) : Prop := (b = true → t) ∧ (b = false → e)
/- what is still to be done once a part is worked out: named, so that a walk's text does not write it out anew at every step -/
noncomputable abbrev KNot (Q : Bool → Store → Prop) : Bool → Store → Prop := fun b σ₁ => Q (!b) σ₁
noncomputable abbrev KCons (Q : List Val → Store → Prop) (v : Val) : List Val → Store → Prop := fun vs σ₂ => Q (v :: vs) σ₂
noncomputable abbrev KRet (ρ : LEnv) (Q : Fl → LEnv → Store → Prop) : Val → Store → Prop := fun v σ₁ => Q (.ret v) ρ σ₁
noncomputable abbrev KDrop (ρ : LEnv) (Q : Fl → LEnv → Store → Prop) : Val → Store → Prop := fun _ σ₁ => Q .next ρ σ₁
noncomputable abbrev KSet (x : Str) (ρ : LEnv) (Q : Fl → LEnv → Store → Prop) : Val → Store → Prop := fun v σ₁ => Q .next ((x, v) :: ρ) σ₁
noncomputable abbrev KNext (ρ : LEnv) (Q : Fl → LEnv → Store → Prop) : Store → Prop := fun σ₁ => Q .next ρ σ₁
section
variable (c : Cx) (d : Nat) (cs : Scope)
noncomputable abbrev K1 (t : Value → Sem Value) (Q : Val → Store → Prop) : Val → Store → Prop := fun a σ₁ => G1 c d cs t a σ₁ Q
noncomputable abbrev K2 (t : Value → Value → Sem Value) (Q : Val → Store → Prop) (a : Val) : Val → Store → Prop := fun b σ₂ => G2 c d cs t a b σ₂ Q
noncomputable abbrev KR (r : Expr) (t : Value → Value → Sem Value) (ρ : LEnv) (Q : Val → Store → Prop) : Val → Store → Prop := fun a σ₁ => WE c d cs r ρ σ₁ (K2 c d cs t Q a)
noncomputable abbrev KB (Q : Bool → Store → Prop) : Val → Store → Prop := fun v σ₃ => GB c d cs truthy v σ₃ Q
noncomputable abbrev KAnd (e : Expr) (ρ : LEnv) (Q : Bool → Store → Prop) : Bool → Store → Prop := fun b σ₁ => Ways b (WT c d cs e ρ σ₁ Q) (Q false σ₁)
noncomputable abbrev KOr (e : Expr) (ρ : LEnv) (Q : Bool → Store → Prop) : Bool → Store → Prop := fun b σ₁ => Ways b (Q true σ₁) (WT c d cs e ρ σ₁ Q)
noncomputable abbrev KIf (b o : Expr) (ρ : LEnv) (Q : Val → Store → Prop) : Bool → Store → Prop := fun x σ₁ => Ways x (WE c d cs b ρ σ₁ Q) (WE c d cs o ρ σ₁ Q)
noncomputable abbrev KAndV (e : Expr) (ρ : LEnv) (Q : Val → Store → Prop) (v : Val) : Bool → Store → Prop := fun b σ₂ => Ways b (WE c d cs e ρ σ₂ Q) (Q v σ₂)
noncomputable abbrev KOrV (e : Expr) (ρ : LEnv) (Q : Val → Store → Prop) (v : Val) : Bool → Store → Prop := fun b σ₂ => Ways b (Q v σ₂) (WE c d cs e ρ σ₂ Q)
noncomputable abbrev KAndE (e : Expr) (ρ : LEnv) (Q : Val → Store → Prop) : Val → Store → Prop := fun v σ₁ => GB c d cs truthy v σ₁ (KAndV c d cs e ρ Q v)
noncomputable abbrev KOrE (e : Expr) (ρ : LEnv) (Q : Val → Store → Prop) : Val → Store → Prop := fun v σ₁ => GB c d cs truthy v σ₁ (KOrV c d cs e ρ Q v)
noncomputable abbrev KArgs (p : Pos) (es : List Expr) (ρ : LEnv) (Q : List Val → Store → Prop) : Val → Store → Prop := fun v σ₁ => WL c d cs p es ρ σ₁ (KCons Q v)
noncomputable abbrev KL (t : List Value → Sem Value) (Q : Val → Store → Prop) : List Val → Store → Prop := fun vs σ₁ => GL c d cs t vs σ₁ Q
noncomputable abbrev KCall (fa : Addr) (Q : Val → Store → Prop) : List Val → Store → Prop := fun vs σ₁ => WC c d fa vs σ₁ Q
noncomputable abbrev KM (t : List Value → Sem Value) (u : Val) (Q : Val → Store → Prop) : List Val → Store → Prop := fun vs σ₁ => GL c d cs t (u :: vs) σ₁ Q
noncomputable abbrev KIfS (b o : List Stmt) (ρ : LEnv) (Q : Fl → LEnv → Store → Prop) : Bool → Store → Prop := fun x σ₁ => Ways x (WS c d cs b ρ σ₁ Q) (WS c d cs o ρ σ₁ Q)
noncomputable abbrev KAug (x : Str) (op : Operator) (v₀ : Val) (ρ : LEnv) (Q : Fl → LEnv → Store → Prop) : Val → Store → Prop := fun v σ₁ => G2 c d cs (inplaceOp op) v₀ v σ₁ (KSet x ρ Q)
end
section
variable {c : Cx} {d : Nat} {cs : Scope}
variable {ρ : LEnv} {σ : Store} {Q : Val → Store → Prop}

theorem Then.now {f : Fm} {m : Str → Option Value} {N : Led} {s : Shared} {QC : Value → Shared → Prop} {r : Value} {v : Val} {σ : Store} {Q : Val → Store → Prop} (k : Then f m N s Q QC) (q : Q v σ) (V : VRel N r v) (I : Inv f m N s.heap σ) {tk : Nat} :
    QC r { s with toks := tk } := k r v σ s.heap N tk q V (Ext.refl N) I
theorem Then.at {f : Fm} {m : Str → Option Value} {N N' : Led} {s : Shared} {QC : Value → Shared → Prop} {h' : Heap} {tk' : Nat} {Q : Val → Store → Prop} (k : Then f m N s Q QC) (x : Ext N N') : Then f m N' { s with heap := h', toks := tk' } Q QC :=
  fun r v σ₂ h₂ N₂ tk₂ q V X I => k r v σ₂ h₂ N₂ tk₂ q V (x.trans X) I
theorem ThenB.at {f : Fm} {m : Str → Option Value} {N N' : Led} {s : Shared} {QC : Bool → Shared → Prop} {h' : Heap} {tk' : Nat} {Q : Bool → Store → Prop} (k : ThenB f m N s Q QC) (x : Ext N N') : ThenB f m N' { s with heap := h', toks := tk' } Q QC :=
  fun b σ₂ h₂ N₂ tk₂ q X I => k b σ₂ h₂ N₂ tk₂ q (x.trans X) I
theorem ThenL.at {f : Fm} {m : Str → Option Value} {N N' : Led} {s : Shared} {QC : List Value → Shared → Prop} {h' : Heap} {tk' : Nat} {Q : List Val → Store → Prop} (k : ThenL f m N s Q QC) (x : Ext N N') : ThenL f m N' { s with heap := h', toks := tk' } Q QC :=
  fun r v σ₂ h₂ N₂ tk₂ q V X I => k r v σ₂ h₂ N₂ tk₂ q V (x.trans X) I
theorem ThenU.at {f : Fm} {m : Str → Option Value} {N N' : Led} {s : Shared} {QC : Unit → Shared → Prop} {h' : Heap} {tk' : Nat} {Q : Store → Prop} (k : ThenU f m N s Q QC) (x : Ext N N') : ThenU f m N' { s with heap := h', toks := tk' } Q QC :=
  fun σ₂ h₂ N₂ tk₂ q X I => k σ₂ h₂ N₂ tk₂ q (x.trans X) I
theorem ThenS.at {f : Fm} {N N' : Led} {s : Shared} {QC : Flow → Shared → Prop} {h' : Heap} {tk' : Nat} {Q : Fl → LEnv → Store → Prop} (k : ThenS f N s Q QC) (x : Ext N N') : ThenS f N' { s with heap := h', toks := tk' } Q QC :=
  fun g fl ρ₂ σ₂ m₂ h₂ N₂ tk₂ q V X I R => k g fl ρ₂ σ₂ m₂ h₂ N₂ tk₂ q V (x.trans X) I R

/- names -/
theorem WE_name {x : Str} {p : Pos} {v : Val} (h : ρ.lookup x = some v) (q : Q v σ) (hd : (x == ("__debug__" : Str)) = false := by decide) : WE c d cs (.Name x p) ρ σ Q := by
  intro f m N s QC ok I R k
  have hk : f.cs.kind = .function := by rw [ok.hcs]; exact ok.kind
  cases R x v h with
  | loc a b V =>
    refine nameX_L I.fr b ?_ hk (by simpa [Env.kindOf] using a) hd
    exact k.now q V I (tk := s.toks)
  | cell a b e _ g V =>
    refine nameX_C I.nw b e g ?_ hk (by simpa [Env.kindOf] using a) hd
    exact k.now q V I (tk := s.toks)
/- constants -/
theorem WE_int {i : Int} {k : Nat} {p : Pos} (q : Q (.int i) σ) : WE c d cs (.Constant (.int i) k p) ρ σ Q := fun _ _ _ _ _ _ I _ k => wpAny_Constant_int (k.now q (.int _ _) I)
theorem WE_str {x : Str} {k : Nat} {p : Pos} (q : Q (.str x) σ) : WE c d cs (.Constant (.str x) k p) ρ σ Q := fun _ _ _ _ _ _ I _ k => Calls.Constant_str (k.now q (.str _ _) I)
theorem WE_none {k : Nat} {p : Pos} (q : Q .none σ) : WE c d cs (.Constant .none k p) ρ σ Q := fun _ _ _ s _ _ I _ k => wpAny_Constant_none (k.now q .none I (tk := s.toks))
theorem WE_bool {b : Bool} {k : Nat} {p : Pos} (q : Q (.bool b) σ) : WE c d cs (.Constant (.bool b) k p) ρ σ Q := fun _ _ _ s _ _ I _ k => Constant_bool (k.now q (.bool _) I (tk := s.toks))
/- operators -/
theorem WE_bin {l r : Expr} {op : Operator} {p : Pos} (h : WE c d cs l ρ σ (KR c d cs r (binaryOp op) ρ Q)) : WE c d cs (.BinOp l op r p) ρ σ Q := by
  intro f m N s QC ok I R k
  refine wpAny_BinOp (h f m N s _ ok I R ?_)
  intro r₁ v₁ σ₁ h₁ N₁ t₁ q₁ V₁ X₁ I₁
  refine q₁ f m N₁ _ _ ok I₁ (R.ext X₁) ?_
  intro r₂ v₂ σ₂ h₂ N₂ t₂ q₂ V₂ X₂ I₂
  exact q₂ f m N₂ _ _ r₁ r₂ ok I₂ (V₁.ext X₂) V₂ (k.at (X₁.trans X₂))
theorem WE_cmp {l r : Expr} {op : CmpOp} {p : Pos} (h : WE c d cs l ρ σ (KR c d cs r (compareOp op) ρ Q)) (hb : behindInMarks op r = false := by rfl) : WE c d cs (.Compare l [op] [r] p) ρ σ Q := by
  intro f m N s QC ok I R k
  refine wpAny_Compare1 (h f m N s _ ok I R ?_) hb
  intro r₁ v₁ σ₁ h₁ N₁ t₁ q₁ V₁ X₁ I₁
  refine q₁ f m N₁ _ _ ok I₁ (R.ext X₁) ?_
  intro r₂ v₂ σ₂ h₂ N₂ t₂ q₂ V₂ X₂ I₂
  exact q₂ f m N₂ _ _ r₁ r₂ ok I₂ (V₁.ext X₂) V₂ (k.at (X₁.trans X₂))
theorem WE_un {e : Expr} {op : UnaryOp} {p : Pos} (h : WE c d cs e ρ σ (K1 c d cs (unaryOp op) Q)) : WE c d cs (.UnaryOp op e p) ρ σ Q := by
  intro f m N s QC ok I R k
  refine wpAny_UnaryOp (h f m N s _ ok I R ?_)
  intro r₁ v₁ σ₁ h₁ N₁ t₁ q₁ V₁ X₁ I₁
  exact q₁ f m N₁ _ _ r₁ ok I₁ V₁ (k.at X₁)
/- tests -/
theorem WT_cmp {l r : Expr} {op : CmpOp} {p : Pos} {Q : Bool → Store → Prop} (h : WE c d cs l ρ σ (KR c d cs r (compareOp op) ρ (KB c d cs Q))) (hb : behindInMarks op r = false := by rfl) : WT c d cs (.Compare l [op] [r] p) ρ σ Q := by
  intro f m N s QC ok I R k
  refine wpAny_isTrue_Compare1 (h f m N s _ ok I R ?_) hb
  intro r₁ v₁ σ₁ h₁ N₁ t₁ q₁ V₁ X₁ I₁
  refine q₁ f m N₁ _ _ ok I₁ (R.ext X₁) ?_
  intro r₂ v₂ σ₂ h₂ N₂ t₂ q₂ V₂ X₂ I₂
  refine q₂ f m N₂ _ _ r₁ r₂ ok I₂ (V₁.ext X₂) V₂ ?_
  intro r₃ v₃ σ₃ h₃ N₃ t₃ q₃ V₃ X₃ I₃
  exact q₃ f m N₃ _ _ r₃ ok I₃ V₃ (k.at ((X₁.trans X₂).trans X₃))
theorem WT_not {e : Expr} {p : Pos} {Q : Bool → Store → Prop} (h : WT c d cs e ρ σ (KNot Q)) : WT c d cs (.UnaryOp .Not e p) ρ σ Q := by
  intro f m N s QC ok I R k
  exact isTrue_not (h f m N s _ ok I R fun b σ₁ h₁ N₁ t₁ q X₁ I₁ => k _ σ₁ h₁ N₁ t₁ q X₁ I₁)
theorem WT_and0 {p : Pos} {Q : Bool → Store → Prop} (q : Q true σ) : WT c d cs (.BoolOp .And [] p) ρ σ Q := fun _ _ N s _ _ I _ k => isTrue_and_nil (k true σ s.heap N s.toks q (Ext.refl N) I)
theorem WT_or0 {p : Pos} {Q : Bool → Store → Prop} (q : Q false σ) : WT c d cs (.BoolOp .Or [] p) ρ σ Q := fun _ _ N s _ _ I _ k => isTrue_or_nil (k false σ s.heap N s.toks q (Ext.refl N) I)
theorem WT_and {e : Expr} {es : List Expr} {p : Pos} {Q : Bool → Store → Prop} (h : WT c d cs e ρ σ (KAnd c d cs (.BoolOp .And es p) ρ Q)) : WT c d cs (.BoolOp .And (e :: es) p) ρ σ Q := by
  intro f m N s QC ok I R k
  refine isTrue_and (h f m N s _ ok I R ?_)
  intro b σ₁ h₁ N₁ t₁ q X₁ I₁
  cases b with
  | true => exact q.1 rfl f m N₁ _ _ ok I₁ (R.ext X₁) (k.at X₁)
  | false => exact k false σ₁ h₁ N₁ t₁ (q.2 rfl) X₁ I₁
theorem WT_or {e : Expr} {es : List Expr} {p : Pos} {Q : Bool → Store → Prop} (h : WT c d cs e ρ σ (KOr c d cs (.BoolOp .Or es p) ρ Q)) : WT c d cs (.BoolOp .Or (e :: es) p) ρ σ Q := by
  intro f m N s QC ok I R k
  refine isTrue_or (h f m N s _ ok I R ?_)
  intro b σ₁ h₁ N₁ t₁ q X₁ I₁
  cases b with
  | true => exact k true σ₁ h₁ N₁ t₁ (q.1 rfl) X₁ I₁
  | false => exact q.2 rfl f m N₁ _ _ ok I₁ (R.ext X₁) (k.at X₁)
theorem WT_plain {e : Expr} {Q : Bool → Store → Prop} (h : WE c d cs e ρ σ (KB c d cs Q)) (hp : ∀ env whole, isTrue e env whole = (do let v ← whole; standAt e.pos; holding [v] (truthy v)) := by intro _ _; rfl) : WT c d cs e ρ σ Q := by
  intro f m N s QC ok I R k
  refine isTrue_plain (h f m N s _ ok I R ?_) (hp _ _)
  intro r₁ v₁ σ₁ h₁ N₁ t₁ q₁ V₁ X₁ I₁
  exact q₁ f m N₁ _ _ r₁ ok I₁ V₁ (k.at X₁)
theorem WE_if {t b o : Expr} {p : Pos} (h : WT c d cs t ρ σ (KIf c d cs b o ρ Q)) : WE c d cs (.IfExp t b o p) ρ σ Q := by
  intro f m N s QC ok I R k
  refine wpAny_IfExp (h f m N s _ ok I R ?_)
  intro b σ₁ h₁ N₁ t₁ q X₁ I₁
  cases b with
  | true => exact q.1 rfl f m N₁ _ _ ok I₁ (R.ext X₁) (k.at X₁)
  | false => exact q.2 rfl f m N₁ _ _ ok I₁ (R.ext X₁) (k.at X₁)
/- BoolOp as a value -/
theorem WE_and1 {e : Expr} {p : Pos} (h : WE c d cs e ρ σ Q) : WE c d cs (.BoolOp .And [e] p) ρ σ Q := fun f m N s QC ok I R k => BoolOp_one (h f m N s QC ok I R k)
theorem WE_or1 {e : Expr} {p : Pos} (h : WE c d cs e ρ σ Q) : WE c d cs (.BoolOp .Or [e] p) ρ σ Q := fun f m N s QC ok I R k => BoolOp_one (h f m N s QC ok I R k)
theorem WE_and {e₁ e₂ : Expr} {es : List Expr} {p : Pos} (h : WE c d cs e₁ ρ σ (KAndE c d cs (.BoolOp .And (e₂ :: es) p) ρ Q)) : WE c d cs (.BoolOp .And (e₁ :: e₂ :: es) p) ρ σ Q := by
  intro f m N s QC ok I R k
  refine BoolOp_and (h f m N s _ ok I R ?_)
  intro r₁ v₁ σ₁ h₁ N₁ t₁ q₁ V₁ X₁ I₁
  refine q₁ f m N₁ _ _ r₁ ok I₁ V₁ ?_
  intro b σ₂ h₂ N₂ t₂ q X₂ I₂
  cases b with
  | true => exact q.1 rfl f m N₂ _ _ ok I₂ (R.ext (X₁.trans X₂)) (k.at (X₁.trans X₂))
  | false => exact k _ _ _ _ _ _ (q.2 rfl) (V₁.ext X₂) (X₁.trans X₂) I₂
theorem WE_or {e₁ e₂ : Expr} {es : List Expr} {p : Pos} (h : WE c d cs e₁ ρ σ (KOrE c d cs (.BoolOp .Or (e₂ :: es) p) ρ Q)) : WE c d cs (.BoolOp .Or (e₁ :: e₂ :: es) p) ρ σ Q := by
  intro f m N s QC ok I R k
  refine BoolOp_or (h f m N s _ ok I R ?_)
  intro r₁ v₁ σ₁ h₁ N₁ t₁ q₁ V₁ X₁ I₁
  refine q₁ f m N₁ _ _ r₁ ok I₁ V₁ ?_
  intro b σ₂ h₂ N₂ t₂ q X₂ I₂
  cases b with
  | true => exact k _ _ _ _ _ _ (q.1 rfl) (V₁.ext X₂) (X₁.trans X₂) I₂
  | false => exact q.2 rfl f m N₂ _ _ ok I₂ (R.ext (X₁.trans X₂)) (k.at (X₁.trans X₂))
/- lists of expressions -/
theorem WL_nil {p : Pos} {Q : List Val → Store → Prop} (q : Q [] σ) : WL c d cs p [] ρ σ Q := fun _ _ N s _ _ I _ k => spliced_none (k [] [] σ s.heap N s.toks q .nil (Ext.refl N) I)
theorem WL_cons {p : Pos} {e : Expr} {es : List Expr} {Q : List Val → Store → Prop} (h : WE c d cs e ρ σ (KArgs c d cs p es ρ Q)) (he : ∀ env, starEach (e :: es) env = (false, eval e env) :: starEach es env := by intro _; rfl) :
    WL c d cs p (e :: es) ρ σ Q := by
  intro f m N s QC ok I R k
  refine spliced_more (h f m N s _ ok I R ?_) (he _)
  intro r₁ v₁ σ₁ h₁ N₁ t₁ q₁ V₁ X₁ I₁
  refine q₁ f m N₁ _ _ ok I₁ (R.ext X₁) ?_
  intro rs vs σ₂ h₂ N₂ t₂ q₂ V₂ X₂ I₂
  exact k (r₁ :: rs) (v₁ :: vs) σ₂ h₂ N₂ t₂ q₂ (.cons (V₁.ext X₂) V₂) (X₁.trans X₂) I₂
theorem GL_newTuple {vs : List Val} (q : Q (.tup vs) σ) (hz : vs.length ≤ sizeLine := by decide) : GL c d cs newTuple vs σ Q := by
  intro f m N s QC rs ok I V k
  refine newTuple_N I.fr I.nw (fun h' F' N' => ?_) (by rw [V.length]; exact hz)
  have sub : ∀ p ∈ N, p ∈ (s.heap.objs.size, ({ cls := .type "tuple", data := .seq rs.toArray } : Obj)) :: N := fun p hp => List.mem_cons_of_mem _ hp
  exact k _ _ σ h' _ s.toks q (.tup (n := 0) List.mem_cons_self (V.ext (Ext.of_sub sub))) (Ext.of_sub sub) ⟨F', N', I.st.sup sub⟩
theorem GL_newList {vs : List Val} (q : ∀ a o, σ a = none → Q (.ref a) (σ.set a (.list vs o))) (hz : vs.length ≤ sizeLine := by decide) : GL c d cs newList vs σ Q := by
  intro f m N s QC rs ok I V k
  refine newList_N I.fr I.nw (fun h' F' N' => ?_) (by rw [V.length]; exact hz)
  obtain ⟨h0, X, I'⟩ := st_new (n := 0) I (Nat.le_refl _) F' N' V
  exact k _ _ _ h' _ s.toks (q _ _ h0) (.ref _) X I'
theorem WE_tuple {es : List Expr} {k : Nat} {p : Pos} (h : WL c d cs p es ρ σ (KL c d cs newTuple Q)) : WE c d cs (.Tuple es k p) ρ σ Q := by
  intro f m N s QC ok I R k
  refine Tuple_ (h f m N s _ ok I R ?_)
  intro rs vs σ₂ h₂ N₂ t₂ q₂ V₂ X₂ I₂
  exact q₂ f m N₂ _ _ rs ok I₂ V₂ (k.at X₂)
theorem WE_list {es : List Expr} {p : Pos} (h : WL c d cs p es ρ σ (KL c d cs newList Q)) : WE c d cs (.List es p) ρ σ Q := by
  intro f m N s QC ok I R k
  refine List_ (h f m N s _ ok I R ?_)
  intro rs vs σ₂ h₂ N₂ t₂ q₂ V₂ X₂ I₂
  exact q₂ f m N₂ _ _ rs ok I₂ V₂ (k.at X₂)
/- subscripts that are no slice; attributes -/
theorem WE_sub {v i : Expr} {p : Pos} (h : WE c d cs v ρ σ (KR c d cs i (subscriptTail v i) ρ Q)) : WE c d cs (.Subscript v i p) ρ σ Q := by
  intro f m N s QC ok I R k
  refine Subscript_ (h f m N s _ ok I R ?_)
  intro r₁ v₁ σ₁ h₁ N₁ t₁ q₁ V₁ X₁ I₁
  refine q₁ f m N₁ _ _ ok I₁ (R.ext X₁) ?_
  intro r₂ v₂ σ₂ h₂ N₂ t₂ q₂ V₂ X₂ I₂
  exact q₂ f m N₂ _ _ r₁ r₂ ok I₂ (V₁.ext X₂) V₂ (k.at (X₁.trans X₂))
theorem WE_attr {x attr : Str} {xp p : Pos} (h : WE c d cs (.Name x xp) ρ σ (K1 c d cs (fun r => getAttr r attr true) Q)) : WE c d cs (.Attribute (.Name x xp) attr p) ρ σ Q := by
  intro f m N s QC ok I R k
  refine Attribute_name (h f m N s _ ok I R ?_)
  intro r₁ v₁ σ₁ h₁ N₁ t₁ q₁ V₁ X₁ I₁
  exact q₁ f m N₁ _ _ r₁ ok I₁ V₁ (k.at X₁)
end

/- what lies on the ledger and is of use -/
noncomputable def Useful (o : Obj) : Prop := ∀ vs, o.data ≠ .fields vs
noncomputable def USub (N N' : Led) : Prop := ∀ p ∈ N, Useful p.2 → p ∈ N'
theorem useful_tup (arr : Array Value) (n : Nat) : Useful (tupObj arr n) := fun vs h => by simp [tupObj] at h
theorem useful_list (arr : Array Value) (n : Nat) : Useful (W.listOf arr n) := fun vs h => by simp at h
theorem useful_dict (es : List DictEntry) (n : Nat) : Useful (dictOf es n) := fun vs h => by simp at h
theorem useful_inst (C dx : Addr) : Useful (instObj C dx) := fun vs h => by simp at h
mutual
theorem VRel.us {N N' : Led} (x : USub N N') : ∀ {r : Value} {v : Val}, VRel N r v → VRel N' r v
  | _, _, .none => .none
  | _, _, .bool b => .bool b
  | _, _, .int i t => .int i t
  | _, _, .str s t => .str s t
  | _, _, .tup h r => .tup (x _ h (useful_tup _ _)) (VRels.us x r)
  | _, _, .ref a => .ref a
theorem VRels.us {N N' : Led} (x : USub N N') : ∀ {rs : List Value} {vs : List Val}, VRels N rs vs → VRels N' rs vs
  | _, _, .nil => .nil
  | _, _, .cons h r => .cons (VRel.us x h) (VRels.us x r)
end
theorem FRel.us {N N' : Led} (x : USub N N') : ∀ {es : List DictEntry} {fs : List (Str × Val)}, FRel N es fs → FRel N' es fs
  | _, _, .nil => .nil
  | _, _, .cons h r => .cons (h.us x) (FRel.us x r)
theorem LRel.us {f : Fm} {m : Str → Option Value} {N N' : Led} {ρ : LEnv} (h : LRel f m N ρ) (x : USub N N') : LRel f m N' ρ := fun y v e => by
  cases h y v e with
  | loc a b c => exact .loc a b (c.us x)
  | cell a b c d e g => exact .cell a b (x _ c fun vs q => by dsimp only at q; rw [e] at q; cases q) d e (g.us x)
theorem StRel.us {N N' : Led} {σ : Store} (h : StRel N σ) (x : USub N N') : StRel N' σ := by
  refine ⟨fun a c e => ?_, h.inj, h.off⟩
  cases c with
  | list vs o =>
    obtain ⟨arr, n, ho, hm, hr⟩ := h.cell a _ e
    exact ⟨arr, n, ho, x _ hm (ho ▸ useful_list _ _), hr.us x⟩
  | inst C dx fs =>
    obtain ⟨es, n, h1, h2, hr⟩ := h.cell a _ e
    exact ⟨es, n, x _ h1 (useful_inst _ _), x _ h2 (useful_dict _ _), hr.us x⟩
  | raw o => exact ⟨x _ (h.cell a _ e).1 (h.cell a _ e).2, (h.cell a _ e).2⟩
theorem LRel.set {f : Fm} {m : Str → Option Value} {N : Led} {ρ : LEnv} (h : LRel f m N ρ) {x : Str} {r : Value} {v : Val} (hx : f.cs.names.lookup x = some .local) (V : VRel N r v) :
    LRel f (fun y => if y = x then some r else m y) N ((x, v) :: ρ) := fun y u e => by
  by_cases hy : y = x
  · subst hy
    rw [List.lookup_cons_self] at e
    cases e
    exact .loc hx (by simp) V
  · rw [List.lookup_cons] at e
    have hb : (y == x) = false := by simpa using hy
    rw [hb] at e
    cases h y u e with
    | loc a b c => exact .loc a (by simp [hy, b]) c
    | cell a b c d e g => exact .cell a b c d e g

section
variable {c : Cx} {d : Nat} {cs : Scope}
variable {ρ : LEnv} {σ : Store} {Q : Fl → LEnv → Store → Prop}

theorem passes_noE {M : Model} {A : Around} {env : Env} : PassesOwn M A env noE := fun _ _ h => h.elim

theorem WS_nil (q : Q .next ρ σ) : WS c d cs [] ρ σ Q := fun _ m N s _ _ I R k => wpAny_execs_nil (k _ _ ρ σ m s.heap N s.toks q .next (Ext.refl N) I R)
/-- what a statement hands on to the rest -/
noncomputable def Seq (c : Cx) (d : Nat) (cs : Scope) (rest : List Stmt) (Q : Fl → LEnv → Store → Prop) : Fl → LEnv → Store → Prop
  | .next, ρ, σ => WS c d cs rest ρ σ Q
  | f, ρ, σ => Q f ρ σ
theorem WS_cons {st : Stmt} {rest : List Stmt} (h : WX c d cs st ρ σ (Seq c d cs rest Q)) : WS c d cs (st :: rest) ρ σ Q := by
  intro f m N s QC ok I R k
  refine wpAny_execs_cons (h f m N s _ ok I R ?_)
  intro g fl ρ' σ' m' h' N' tk' q V X I' R'
  cases V with
  | next => exact q f m' N' _ _ ok I' R' (k.at X)
  | cont => exact k _ _ _ _ _ _ _ _ q .cont X I' R'
  | ret V => exact k _ _ _ _ _ _ _ _ q (.ret V) X I' R'
theorem WX_ret {e : Expr} {p : Pos} (h : WE c d cs e ρ σ (KRet ρ Q)) : WX c d cs (.Return (some e) p) ρ σ Q := by
  intro f m N s QC ok I R k
  refine wpAny_Return_some (h f m N s _ ok I R ?_)
  intro r v σ' h' N' tk' q V X I'
  exact k _ _ ρ σ' m h' N' tk' q (.ret V) X I' (R.ext X)
theorem WX_cont {p : Pos} (q : Q .cont ρ σ) : WX c d cs (.Continue p) ρ σ Q := fun _ m N s _ _ I R k => wpAny_Continue (k _ _ ρ σ m s.heap N s.toks q .cont (Ext.refl N) I R)
theorem WX_expr {e : Expr} {p : Pos} (h : WE c d cs e ρ σ (KDrop ρ Q)) (hi : ∀ f : Fm, f.cs = cs → interactive f.env = false := by intro f h; cases f; cases h; rfl) (hs : ∀ f : Fm, f.cs = cs → swapsWith e none p.line f.env = pure false := by intro f h; cases f; cases h; rfl) :
    WX c d cs (.Expr e p) ρ σ Q := by
  intro f m N s QC ok I R k
  refine wpAny_Expr_any (h f m N s _ ok I R ?_) (hi f ok.hcs) (hs f ok.hcs)
  intro r v σ' h' N' tk' q V X I'
  exact k _ _ ρ σ' m h' N' tk' q .next X I' (R.ext X)
theorem WX_if {t : Expr} {b o : List Stmt} {p : Pos} (h : WT c d cs t ρ σ (KIfS c d cs b o ρ Q)) : WX c d cs (.If t b o p) ρ σ Q := by
  intro f m N s QC ok I R k
  refine wpAny_If (h f m N s _ ok I R ?_)
  intro b σ₁ h₁ N₁ t₁ q X₁ I₁
  cases b with
  | true => exact q.1 rfl f m N₁ _ _ ok I₁ (R.ext X₁) (k.at X₁)
  | false => exact q.2 rfl f m N₁ _ _ ok I₁ (R.ext X₁) (k.at X₁)

/-- a name's store -/
theorem store_name {f : Fm} {m : Str → Option Value} {N : Led} {s : Shared} {QC : Unit → Shared → Prop} {x : Str} {r : Value} {v : Val} (ok : Fm.Ok f c d cs) (I : Inv f m N s.heap σ) (R : LRel f m N ρ) (V : VRel N r v) (hx : cs.names.lookup x = some .local)
    (k : ∀ h' tk', Inv f (fun y => if y = x then some r else m y) N h' σ → LRel f (fun y => if y = x then some r else m y) N ((x, v) :: ρ) → QC () { s with heap := h', toks := tk' }) :
    wpAny (model c.prog c.w) f.around (storeName f.env x r) QC noE s := by
  have hx' : f.cs.names.lookup x = some .local := by rw [ok.hcs]; exact hx
  exact storeX_L I.fr I.nw (fun h' F' N' => k h' _ ⟨F', N', I.st⟩ (R.set hx' V)) (by rw [ok.hcs]; exact ok.kind) (by simpa [Env.kindOf] using hx')
theorem WX_set {x : Str} {xp p : Pos} {e : Expr} (h : WE c d cs e ρ σ (KSet x ρ Q)) (hx : cs.names.lookup x = some .local := by rfl)
    (hs : ∀ f : Fm, f.cs = cs → swapsWith e (some (.Name x xp)) p.line f.env = pure false := by intro f h; cases f; cases h; rfl) : WX c d cs (.Assign [.Name x xp] e p) ρ σ Q := by
  intro f m N s QC ok I R k
  refine wpAny_Assign_Name (h f m N s _ ok I R ?_) (hs f ok.hcs)
  intro r v σ' h' N' tk' q V X I'
  exact store_name ok I' (R.ext X) V hx fun h₂ tk₂ I₂ R₂ => k _ _ _ _ _ h₂ N' tk₂ q .next X I₂ R₂
theorem WX_aug {x : Str} {xp p : Pos} {op : Operator} {e : Expr} {v₀ : Val} (hx₀ : ρ.lookup x = some v₀) (h : WE c d cs e ρ σ (KAug c d cs x op v₀ ρ Q)) (hx : cs.names.lookup x = some .local := by rfl) :
    WX c d cs (.AugAssign (.Name x xp) op e p) ρ σ Q := by
  intro f m N s QC ok I R k
  have hk : f.cs.kind = .function := by rw [ok.hcs]; exact ok.kind
  cases R x v₀ hx₀ with
  | cell a b _ _ _ _ => rw [ok.hcs, hx] at a; cases a
  | loc a b V₀ =>
    refine wpAny_AugAssign_Name (wpAny_loadName_local hk (by simpa [Env.kindOf] using a) I.fr.ns b ?_)
    refine h f m N s _ ok I R ?_
    intro r v σ' h' N' tk' q V X I'
    refine q f m N' _ _ _ r ok I' (V₀.ext X) V ?_
    intro r₂ v₂ σ₂ h₂ N₂ tk₂ q₂ V₂ X₂ I₂
    exact store_name ok I₂ (R.ext (X.trans X₂)) V₂ hx fun h₃ tk₃ I₃ R₃ => k _ _ _ _ _ h₃ N₂ tk₃ q₂ .next (X.trans X₂) I₃ R₃
/- two or three names at once, by a written tuple -/
theorem unpack_tup {f : Fm} {m : Str → Option Value} {N : Led} {s : Shared} {QC : List Value → Shared → Prop} {t : Addr} {arr : List Value} {n k : Nat} (I : Inv f m N s.heap σ) (hm : (t, tupObj arr.toArray k) ∈ N) (hn : n = arr.length)
    (q : ∀ h' tk', Inv f m N h' σ → QC arr { s with heap := h', toks := tk' }) : wpAny (model c.prog c.w) f.around (unpackItems (.ref t) n none) QC noE s :=
  unpackItemsN_ I.fr I.nw (items := arr.toArray) ⟨_, (I.nw _ hm).1, rfl, _, rfl⟩ rfl (by simpa using hn) fun h' F' N' => by simpa using q h' s.toks ⟨F', N', I.st⟩
theorem WX_swap2 {x y : Str} {xp yp tp p : Pos} {k : Nat} {e : Expr} (h : WE c d cs e ρ σ (fun v σ₁ => ∃ v₁ v₂, v = .tup [v₁, v₂] ∧ Q .next ((x, v₁) :: (y, v₂) :: ρ) σ₁)) (hx : cs.names.lookup x = some .local := by rfl) (hy : cs.names.lookup y = some .local := by rfl)
    (hs : ∀ f : Fm, f.cs = cs → swapsWithSole [.Tuple [.Name x xp, .Name y yp] k tp] e p.line f.env = pure false := by intro f h; cases f; cases h; rfl)
    (hw : ∀ f : Fm, f.cs = cs → swappedStores [.Tuple [.Name x xp, .Name y yp] k tp] e f.env = pure (some [x, y]) := by intro f h; cases f; cases h; rfl) : WX c d cs (.Assign [.Tuple [.Name x xp, .Name y yp] k tp] e p) ρ σ Q := by
  intro f m N s QC ok I R k
  refine Assign_Tuple_swapped (names := [x, y]) (h f m N s _ ok I R ?_) (hs f ok.hcs) (hw f ok.hcs)
  rintro r v σ' h' N' tk' ⟨v₁, v₂, rfl, q⟩ V X I'
  cases V with | tup hm V =>
  cases V with | cons V₁ V => cases V with | cons V₂ V => cases V with | nil =>
  refine unpack_tup I' hm rfl fun h₂ tk₂ I₂ => ?_
  refine assignInOrder_cons (wpAny_bindName (store_name ok I₂ (R.ext X) V₂ hy fun h₃ tk₃ I₃ R₃ => ?_))
  refine assignInOrder_cons (wpAny_bindName (store_name ok I₃ R₃ V₁ hx fun h₄ tk₄ I₄ R₄ => ?_))
  exact assignInOrder_nil (k _ _ _ _ _ h₄ N' tk₄ q .next X I₄ R₄)
theorem WX_swap3 {x y z : Str} {xp yp zp tp p : Pos} {k : Nat} {e : Expr} (h : WE c d cs e ρ σ (fun v σ₁ => ∃ v₁ v₂ v₃, v = .tup [v₁, v₂, v₃] ∧ Q .next ((x, v₁) :: (y, v₂) :: (z, v₃) :: ρ) σ₁))
    (hx : cs.names.lookup x = some .local := by rfl) (hy : cs.names.lookup y = some .local := by rfl) (hz : cs.names.lookup z = some .local := by rfl)
    (hs : ∀ f : Fm, f.cs = cs → swapsWithSole [.Tuple [.Name x xp, .Name y yp, .Name z zp] k tp] e p.line f.env = pure false := by intro f h; cases f; cases h; rfl)
    (hw : ∀ f : Fm, f.cs = cs → swappedStores [.Tuple [.Name x xp, .Name y yp, .Name z zp] k tp] e f.env = pure (some [x, y, z]) := by intro f h; cases f; cases h; rfl) : WX c d cs (.Assign [.Tuple [.Name x xp, .Name y yp, .Name z zp] k tp] e p) ρ σ Q := by
  intro f m N s QC ok I R k
  refine Assign_Tuple_swapped (names := [x, y, z]) (h f m N s _ ok I R ?_) (hs f ok.hcs) (hw f ok.hcs)
  rintro r v σ' h' N' tk' ⟨v₁, v₂, v₃, rfl, q⟩ V X I'
  cases V with | tup hm V =>
  cases V with | cons V₁ V => cases V with | cons V₂ V => cases V with | cons V₃ V => cases V with | nil =>
  refine unpack_tup I' hm rfl fun h₂ tk₂ I₂ => ?_
  refine assignInOrder_cons (wpAny_bindName (store_name ok I₂ (R.ext X) V₃ hz fun h₃ tk₃ I₃ R₃ => ?_))
  refine assignInOrder_cons (wpAny_bindName (store_name ok I₃ R₃ V₂ hy fun h₄ tk₄ I₄ R₄ => ?_))
  refine assignInOrder_cons (wpAny_bindName (store_name ok I₄ R₄ V₁ hx fun h₅ tk₅ I₅ R₅ => ?_))
  exact assignInOrder_nil (k _ _ _ _ _ h₅ N' tk₅ q .next X I₅ R₅)
/- names by a value that is unpacked: a tuple or a list -/
/-- the targets of an assignment, one after another -/
noncomputable def WAs (c : Cx) (d : Nat) (cs : Scope) (es : List Expr) (vs : List Val) (ρ : LEnv) (σ : Store) (Q : LEnv → Store → Prop) : Prop :=
  ∀ f m N s QC rs, Fm.Ok f c d cs → Inv f m N s.heap σ → LRel f m N ρ → VRels N rs vs →
    (∀ ρ' σ' m' h' N' tk', Q ρ' σ' → Ext N N' → Inv f m' N' h' σ' → LRel f m' N' ρ' → QC () { s with heap := h', toks := tk' }) → wpAny (model c.prog c.w) f.around (assignInOrder ((assignEach es f.env).map (·.2)) rs) QC noE s
theorem WAs_nil {Q : LEnv → Store → Prop} (q : Q ρ σ) : WAs c d cs [] [] ρ σ Q := by
  intro f m N s QC rs ok I R V k
  cases V with | nil => exact assignInOrder_nil (k ρ σ m s.heap N s.toks q (Ext.refl N) I R)
theorem WAs_name {x : Str} {xp : Pos} {es : List Expr} {v : Val} {vs : List Val} {Q : LEnv → Store → Prop} (h : WAs c d cs es vs ((x, v) :: ρ) σ Q) (hx : cs.names.lookup x = some .local := by rfl) : WAs c d cs (.Name x xp :: es) (v :: vs) ρ σ Q := by
  intro f m N s QC rs ok I R V k
  cases V with | cons V Vs =>
  refine assignInOrder_cons (t := assign (.Name x xp) f.env) (assign_Name (store_name ok I R V hx fun h₃ tk₃ I₃ R₃ => ?_))
  exact h f _ N _ _ _ ok I₃ R₃ Vs fun ρ' σ' m' h' N' tk' q X I' R' => k ρ' σ' m' h' N' tk' q X I' R'
theorem WX_unpack {es : List Expr} {tp p : Pos} {k : Nat} {e : Expr} (h : WE c d cs e ρ σ (fun v σ₁ => ∃ vs, (v = .tup vs ∨ ∃ l o, v = .ref l ∧ σ₁ l = some (.list vs o)) ∧ vs.length = es.length ∧ WAs c d cs es vs ρ σ₁ (fun ρ' σ' => Q .next ρ' σ')))
    (hs : ∀ f : Fm, f.cs = cs → swapsWithSole [.Tuple es k tp] e p.line f.env = pure false := by intro f h; cases f; cases h; rfl)
    (hw : ∀ f : Fm, f.cs = cs → swappedStores [.Tuple es k tp] e f.env = pure none := by intro f h; cases f; cases h; rfl)
    (hl : ∀ env, (assignEach es env).length = es.length := by intro _; rfl) (hst : ∀ env, (assignEach es env).findIdx? (·.1) = none := by intro _; rfl) : WX c d cs (.Assign [.Tuple es k tp] e p) ρ σ Q := by
  intro f m N s QC ok I R k
  refine Assign_Tuple (h f m N s _ ok I R ?_) (hs f ok.hcs) (hw f ok.hcs)
  rintro r v σ' h' N' tk' ⟨vs, hv, hlen, q⟩ V X I'
  rcases hv with rfl | ⟨l, o, rfl, hc⟩
  · cases V with | @tup t arr n _ hm V =>
    refine unpackN_ (items := arr.toArray) I'.fr I'.nw ⟨_, (I'.nw _ hm).1, rfl, _, rfl⟩ rfl (by rw [hl]; simpa [V.length] using hlen.symm) (hst _) fun h₂ F₂ N₂ => ?_
    have := q f m N' { s with heap := h₂, toks := tk' } (fun u => QC .next) arr ok ⟨F₂, N₂, I'.st⟩ (R.ext X) V fun ρ₃ σ₃ m₃ h₃ N₃ tk₃ q₃ X₃ I₃ R₃ => k _ _ _ _ _ _ _ _ q₃ .next (X.trans X₃) I₃ R₃
    simpa using this
  · cases V with | ref =>
    obtain ⟨arr, n, ho, hm, hr⟩ := I'.st.cell l _ hc
    subst ho
    refine kun_list (items := arr.toArray) I'.fr I'.nw ⟨_, (I'.nw _ hm).1, rfl, _, rfl⟩ rfl (by rw [hl]; simpa [hr.length] using hlen.symm) (hst _) fun h₂ F₂ N₂ => ?_
    have := q f m N' { s with heap := h₂, toks := tk' } (fun u => QC .next) arr ok ⟨F₂, N₂, I'.st⟩ (R.ext X) hr fun ρ₃ σ₃ m₃ h₃ N₃ tk₃ q₃ X₃ I₃ R₃ => k _ _ _ _ _ _ _ _ q₃ .next (X.trans X₃) I₃ R₃
    simpa using this
end

section
variable {c : Cx} {d : Nat} {cs : Scope}
variable {ρ : LEnv} {σ : Store} {Q : Fl → LEnv → Store → Prop}

/-- what a loop's turn hands on -/
noncomputable def Turn (J : LEnv → Store → Prop) (Q : Fl → LEnv → Store → Prop) : Fl → LEnv → Store → Prop
  | .ret v, ρ, σ => Q (.ret v) ρ σ
  | _, ρ, σ => J ρ σ

theorem fr_lt {h₀ h : Heap} {L : Addr} {m : Str → Option Value} (F : Fr h₀ L h m) : L < h.objs.size := F.ns.lt

theorem loop_core {f : Fm} {m : Str → Option Value} {N : Led} {s₂ : Shared} {QC : Flow → Shared → Prop} {x : Str} {body : List Stmt} {I : Addr} {fp : List Addr} {n : Nat} {P : Nat → Value → Prop} {St : Nat → Heap → Prop} {val : Nat → Val}
    (ok : Fm.Ok f c d cs) (IN : Inv f m N s₂.heap σ) (R : LRel f m N ρ) (W : Walks c.prog c.w f.around I fp [I] n P St) (st0 : St 0 s₂.heap) (hIN : ∀ p ∈ N, p.1 ≠ I) (hLf : f.L ∉ fp) (hI0 : f.h₀.get? I = none)
    (hIs : ∀ i h, St i h → ∃ o vs, h.get? I = some o ∧ Stab o ∧ o.data = .fields vs) (hx : cs.names.lookup x = some .local)
    (J : Nat → LEnv → Store → Prop) (hfp : ∀ b ∈ fp, b ≠ I → ∃ o, ∀ N' i ρ' σ', Ext N N' → J i ρ' σ' → StRel N' σ' → (b, o) ∈ N')
    (hP : ∀ i v, i < n → P i v → ∀ N', Ext N N' → VRel N' v (val i)) (h0 : J 0 ρ σ)
    (turn : ∀ i ρ' σ', i < n → J i ρ' σ' → WS c d cs body ((x, val i) :: ρ') σ' (Turn (J (i + 1)) Q)) (done : ∀ ρ' σ', J n ρ' σ' → Q .next ρ' σ') (k : ThenS f N s₂ Q QC) :
    LoopAtV c.prog c.w f.around f.h₀ f.env x body QC noE (.ref I) s₂ := by
  refine ⟨I, fp, [I], n, P, St, m, N, fun i m₁ N₁ => ∃ ρ' σ', J i ρ' σ' ∧ LRel f m₁ N₁ ρ' ∧ StRel N₁ σ' ∧ Ext N N₁, rfl, W, hLf, (fun b hb => by rw [List.mem_singleton.mp hb]; exact hI0), (fun p hp hq => hIN p hp (List.mem_singleton.mp hq)), st0, IN.fr, IN.nw, ⟨ρ, σ, h0, R, IN.st, Ext.refl N⟩, ?_, ?_⟩
  · rintro i v m₁ N₁ s₁ own ⟨hh, tk, rfl⟩ hi hPv ⟨ρ', σ', hJ, R₁, S₁, X₁⟩ hoff hown hget hall hst F₁ nw₁
    have V := hP i v hi hPv N₁ X₁
    have sub : ∀ p ∈ N₁, p ∈ own ++ N₁ := fun p hp => List.mem_append_right _ hp
    have hx' : f.cs.names.lookup x = some .local := by rw [ok.hcs]; exact hx
    have Rb : LRel f (fun y => if y = x then some v else m₁ y) (own ++ N₁) ((x, val i) :: ρ') := (R₁.set hx' V).ext (Ext.of_sub sub)
    have Ib : Inv f (fun y => if y = x then some v else m₁ y) (own ++ N₁) hh σ' := ⟨F₁, nw₁, S₁.sup sub⟩
    have XN : Ext N (own ++ N₁) := X₁.trans (Ext.of_sub sub)
    refine turn i ρ' σ' hi hJ f _ (own ++ N₁) _ _ ok Ib Rb ?_
    intro g fl ρ₂ σ₂ m₂ h₂ N₂ tk₂ q V₂ X₂ I₂ R₂
    obtain ⟨oI, vs, hoI, hsI, hdI⟩ := hIs _ _ hst
    have hI2 : (I, oI) ∈ N₂ := X₂ _ (List.mem_append_left _ (hall I (W.sub I (List.mem_singleton.mpr rfl)) hI0 oI hoI)) hsI
    have step : (J (i + 1)) ρ₂ σ₂ → LoopStepU f.h₀ f.L [I] own (fun m₁ N₁ => ∃ ρ' σ', J (i + 1) ρ' σ' ∧ LRel f m₁ N₁ ρ' ∧ StRel N₁ σ' ∧ Ext N N₁) { s₂ with heap := hh, toks := tk } .next { s₂ with heap := h₂, toks := tk₂ } := fun hJ2 => by
      refine ⟨rfl, h₂, tk₂, m₂, N₂.filter (fun p => decide (p.1 ≠ I)), rfl, I₂.fr, ?_, ?_, ρ₂, σ₂, hJ2, ?_, ?_, ?_⟩
      · intro p hp
        rcases List.mem_append.mp hp with hp | hp
        · by_cases hpI : p.1 = I
          · have h1 := hget p hp
            rw [hpI] at h1
            have : p = (I, oI) := by
              have h1' : hh.get? I = some p.2 := h1
              rw [hoI] at h1'
              exact Prod.ext hpI (Option.some.inj h1').symm
            rw [this]; exact I₂.nw _ hI2
          · obtain ⟨o, ho⟩ := hfp p.1 (hown p hp) hpI
            have h1 := ho (own ++ N₁) i ρ' σ' XN hJ Ib.st
            have h2 := ho N₂ (i + 1) ρ₂ σ₂ (XN.trans X₂) hJ2 I₂.st
            have h3 : hh.get? p.1 = some p.2 := hget p hp
            have h4 := (Ib.nw _ h1).1
            rw [h3] at h4
            have : p = (p.1, o) := Prod.ext rfl (Option.some.inj h4)
            rw [this]; exact I₂.nw _ h2
        · exact I₂.nw _ (List.mem_filter.mp hp).1
      · intro p hp hq
        have := (List.mem_filter.mp hp).2
        simp [List.mem_singleton.mp hq] at this
      all_goals
        have us : USub N₂ (N₂.filter (fun p => decide (p.1 ≠ I))) := fun p hp hu => List.mem_filter.mpr ⟨hp, by
          have : p.1 ≠ I := fun e => by
            have h1 := (I₂.nw _ hp).1
            rw [e, (I₂.nw _ hI2).1] at h1
            exact hu vs ((Option.some.inj h1) ▸ hdI)
          simpa using this⟩
      · exact R₂.us us
      · exact I₂.st.us us
      · intro p hp hs
        exact List.mem_filter.mpr ⟨X₂ _ (XN p hp hs) hs, by simpa using hIN p hp⟩
    cases V₂ with
    | next => exact LoopStepV.next (step q)
    | cont => exact LoopStepV.cont (step q)
    | ret V₂ => exact LoopStepV.ret (k _ _ _ _ _ h₂ N₂ tk₂ q (.ret V₂) (XN.trans X₂) I₂ R₂)
  · rintro h' tk m' N' F' nw' hoff ⟨ρ', σ', hJ, R', S', X'⟩
    exact k _ _ ρ' σ' m' h' N' tk (done ρ' σ' hJ) .next X' ⟨F', nw', S'⟩ R'

theorem Inv.lt {f : Fm} {m : Str → Option Value} {N : Led} {h : Heap} (I : Inv f m N h σ) {p : Addr × Obj} (hp : p ∈ N) : p.1 < h.objs.size := Heap.lt_size (I.nw p hp).1
theorem Inv.push {f : Fm} {m : Str → Option Value} {N : Led} {h : Heap} (I : Inv f m N h σ) (o : Obj) : Inv f m N (h.push o) σ := ⟨I.fr.push o, fun p hp => ⟨Heap.get?_push_of_some _ (I.nw p hp).1, (I.nw p hp).2⟩, I.st⟩
theorem h0_none {f : Fm} {m : Str → Option Value} {N : Led} {h : Heap} (I : Inv f m N h σ) : f.h₀.get? h.objs.size = none := by
  cases e : f.h₀.get? h.objs.size with
  | none => rfl
  | some o => exact absurd (Heap.lt_size (I.fr.keep _ _ e)) (Nat.lt_irrefl _)

theorem WX_for {x : Str} {xp p : Pos} {it : Expr} {body : List Stmt}
    (h : WE c d cs it ρ σ (fun v σ₁ => ∃ vs, (v = .tup vs ∨ ∃ l o, v = .ref l ∧ σ₁ l = some (.list vs o)) ∧ ∃ J : Nat → LEnv → Store → Prop, J 0 ρ σ₁ ∧
      (∀ l, v = .ref l → ∀ o i ρ' σ', σ₁ l = some (.list vs o) → J i ρ' σ' → σ' l = some (.list vs o)) ∧
      (∀ i u ρ' σ', vs[i]? = some u → J i ρ' σ' → WS c d cs body ((x, u) :: ρ') σ' (Turn (J (i + 1)) Q)) ∧ (∀ ρ' σ', J vs.length ρ' σ' → Q .next ρ' σ')))
    (hx : cs.names.lookup x = some .local := by rfl) (hs : ∀ f : Fm, f.cs = cs → ∀ v, foldedSetIterable it f.env v = pure v := by intro f h; cases f; cases h; intro _; rfl) : WX c d cs (.For (.Name x xp) it body [] p) ρ σ Q := by
  intro f m N s QC ok I R k
  have hx' : f.env.kindOf x = some .local := by
    show f.cs.names.lookup x = some .local
    rw [ok.hcs]; exact hx
  have hp' : (f.env.scope.kind == .class || (f.env.scope.kind == .module && f.env.locals != f.env.globals)) = false := by
    have : f.cs.kind = .function := by rw [ok.hcs]; exact ok.kind
    show (f.cs.kind == .class || (f.cs.kind == .module && _)) = false
    rw [this]; rfl
  refine For_invVF I.fr hx' hp' (h f m N s _ ok I R ?_) (hs f ok.hcs) passes_noE
  rintro r v σ₁ h₁ N₁ tk₁ ⟨vs, hv, J, hJ0, hJl, turn, done⟩ V X₁ I₁
  have hget : ∀ arr : List Value, VRels N₁ arr vs → ∀ i u, i < arr.toArray.size → arr.toArray[i]? = some u → ∀ N', Ext N₁ N' → VRel N' u (vs.getD i .none) := fun arr hr i u hi e N' X => by
    obtain ⟨w, hw, q⟩ := hr.get' (i := i) (r := u) (by simpa using e)
    rw [List.getD_eq_getElem?_getD, hw]
    exact q.ext X
  have turn' : ∀ (arr : List Value), VRels N₁ arr vs → ∀ i ρ' σ', i < arr.toArray.size → J i ρ' σ' → WS c d cs body ((x, vs.getD i .none) :: ρ') σ' (Turn (J (i + 1)) Q) := fun arr hr i ρ' σ' hi hJ => by
    have hi' : i < vs.length := by have := hr.length; simpa [this] using hi
    have := turn i vs[i] ρ' σ' (by simp [hi']) hJ
    simpa [List.getD_eq_getElem?_getD, hi'] using this
  rcases hv with rfl | ⟨l, o, rfl, hc⟩
  · cases V with | @tup t arr n _ hm hr =>
    have hlt := I₁.lt hm
    have ht : IsTup h₁ t arr.toArray := ⟨_, (I₁.nw _ hm).1, rfl, _, rfl⟩
    refine wpAny_pyIter_tuple ht ?_
    refine loop_core (J := J) (val := fun i => vs.getD i .none) ok (I₁.push _) (R.ext X₁) (Walks.tuple (A := f.around) rfl h₁.objs.size t (Nat.ne_of_lt hlt) arr.toArray) ⟨⟨_, Heap.get?_push_size _ rfl, rfl, rfl⟩, ht.push _⟩ (fun p hp => Nat.ne_of_lt (I₁.lt hp)) ?_ (h0_none I₁) ?_ hx ?_ ?_ hJ0 ?_ ?_ (k.at X₁)
    · intro hm'
      rcases List.mem_cons.mp hm' with e | hm'
      · exact absurd (fr_lt I₁.fr) (e ▸ Nat.lt_irrefl _)
      · exact (I₁.nw _ hm).2.1 (List.mem_singleton.mp hm').symm
    · rintro i h ⟨⟨oI, e1, e2, e3⟩, _⟩
      exact ⟨oI, _, e1, stab_fields e3, e3⟩
    · intro b hb hne
      rcases List.mem_cons.mp hb with e | hb
      · exact absurd e hne
      · rw [List.mem_singleton.mp hb]
        exact ⟨_, fun N' i ρ' σ' X _ _ => X _ hm (stab_tup _ _)⟩
    · exact fun i u hi e N' X => hget arr hr i u hi e N' X
    · exact turn' arr hr
    · intro ρ' σ' hJ
      exact done ρ' σ' (by have := hr.length; simpa [this] using hJ)
  · cases V with | ref =>
    obtain ⟨arr, n, ho, hm, hr⟩ := I₁.st.cell l _ hc
    subst ho
    have hlt := I₁.lt hm
    have ht : h₁.IsList l arr.toArray := ⟨_, (I₁.nw _ hm).1, rfl, _, rfl⟩
    refine wpAny_pyIter_list ht ?_
    refine loop_core (J := J) (val := fun i => vs.getD i .none) ok (I₁.push _) (R.ext X₁) (Walks.list (A := f.around) rfl h₁.objs.size l (Nat.ne_of_lt hlt) arr.toArray) ⟨⟨_, Heap.get?_push_size _ rfl, rfl, rfl⟩, ht.push _⟩ (fun p hp => Nat.ne_of_lt (I₁.lt hp)) ?_ (h0_none I₁) ?_ hx ?_ ?_ hJ0 ?_ ?_ (k.at X₁)
    · intro hm'
      rcases List.mem_cons.mp hm' with e | hm'
      · exact absurd (fr_lt I₁.fr) (e ▸ Nat.lt_irrefl _)
      · exact (I₁.nw _ hm).2.1 (List.mem_singleton.mp hm').symm
    · rintro i h ⟨⟨oI, e1, e2, e3⟩, _⟩
      exact ⟨oI, _, e1, stab_fields e3, e3⟩
    · intro b hb hne
      rcases List.mem_cons.mp hb with e | hb
      · exact absurd e hne
      · rw [List.mem_singleton.mp hb]
        refine ⟨W.listOf arr.toArray n, fun N' i ρ' σ' X hJ S => ?_⟩
        obtain ⟨arr', n', ho', hm', _⟩ := S.cell l _ (hJl l rfl _ i ρ' σ' hc hJ)
        exact hm'
    · exact fun i u hi e N' X => hget arr hr i u hi e N' X
    · exact turn' arr hr
    · intro ρ' σ' hJ
      exact done ρ' σ' (by have := hr.length; simpa [this] using hJ)

/- a while by an invariant and a measure -/
theorem WX_while {t : Expr} {body : List Stmt} {p : Pos} (J : Nat → LEnv → Store → Prop) (n₀ : Nat) (h0 : J n₀ ρ σ)
    (turn : ∀ n ρ' σ', J n ρ' σ' → WT c d cs t ρ' σ' (fun b σ₁ => Ways b (WS c d cs body ρ' σ₁ (Turn (fun ρ₂ σ₂ => ∃ n', n' < n ∧ J n' ρ₂ σ₂) Q)) (Q .next ρ' σ₁))) : WX c d cs (.While t body [] p) ρ σ Q := by
  intro f m N s QC ok I R k
  refine While_inv2 (fun n m₁ N₁ => ∃ ρ' σ', J n ρ' σ' ∧ LRel f m₁ N₁ ρ' ∧ StRel N₁ σ' ∧ Ext N N₁) I.fr I.nw ⟨ρ, σ, h0, R, I.st, Ext.refl N⟩ ?_ passes_noE
  rintro n m₁ N₁ h₁ tk₁ F₁ nw₁ ⟨ρ', σ', hJ, R₁, S₁, X₁⟩
  refine turn n ρ' σ' hJ f m₁ N₁ _ _ ok ⟨F₁, nw₁, S₁⟩ R₁ ?_
  intro b σ₂ h₂ N₂ tk₂ q X₂ I₂
  cases b with
  | false => exact k _ _ ρ' σ₂ m₁ h₂ N₂ tk₂ (q.2 rfl) .next (X₁.trans X₂) I₂ (R₁.ext X₂)
  | true =>
    refine q.1 rfl f m₁ N₂ _ _ ok I₂ (R₁.ext X₂) ?_
    intro g fl ρ₃ σ₃ m₃ h₃ N₃ tk₃ q₃ V₃ X₃ I₃ R₃
    have go : (∃ n', n' < n ∧ J n' ρ₃ σ₃) → ∃ h' tk m₂ news₂ n', ({ s with heap := h₃, toks := tk₃ } : Shared) = { s with heap := h', toks := tk } ∧ Fr f.h₀ f.L h' m₂ ∧ News f.h₀ f.L h' news₂ ∧ n' < n ∧ ∃ ρ' σ', J n' ρ' σ' ∧ LRel f m₂ news₂ ρ' ∧ StRel news₂ σ' ∧ Ext N news₂ := by
      rintro ⟨n', hn, hJ'⟩
      exact ⟨h₃, tk₃, m₃, N₃, n', rfl, I₃.fr, I₃.nw, hn, ρ₃, σ₃, hJ', R₃, I₃.st, (X₁.trans X₂).trans X₃⟩
    cases V₃ with
    | next => exact go q₃
    | cont => exact go q₃
    | ret V₃ => exact k _ _ _ _ _ h₃ N₃ tk₃ q₃ (.ret V₃) ((X₁.trans X₂).trans X₃) I₃ R₃
end

section
variable {c : Cx} {d : Nat} {cs : Scope}
variable {ρ : LEnv} {σ : Store} {Q : Val → Store → Prop}

noncomputable abbrev callF (f : Value) : List Value → Sem Value := fun rs => call f rs
theorem GB_bool {b : Bool} {Q : Bool → Store → Prop} (q : Q b σ) : GB c d cs truthy (.bool b) σ Q := by
  intro f m N s QC r ok I V k
  cases V with | bool => exact wpAny_truthy_bool (k b σ s.heap N s.toks q (Ext.refl N) I)
/- ints -/
theorem G_addI {a b : Int} (q : Q (.int (a + b)) σ) : G2 c d cs (binaryOp .Add) (.int a) (.int b) σ Q := by
  intro f m N s QC r r' ok I V V' k
  cases V with | int => cases V' with | int => exact add_int (k.now q (.int _ _) I)
theorem G_subI {a b : Int} (q : Q (.int (a - b)) σ) : G2 c d cs (binaryOp .Sub) (.int a) (.int b) σ Q := by
  intro f m N s QC r r' ok I V V' k
  cases V with | int => cases V' with | int => exact sub_int (k.now q (.int _ _) I)
theorem G_mulI {a b : Int} (q : Q (.int (a * b)) σ) (hz : IntMulOk a b) : G2 c d cs (binaryOp .Mult) (.int a) (.int b) σ Q := by
  intro f m N s QC r r' ok I V V' k
  cases V with | int => cases V' with | int => exact mul_int (k.now q (.int _ _) I) hz
theorem G_modI {a b : Int} (q : Q (.int (a.fmod b)) σ) (hb : b ≠ 0) : G2 c d cs (binaryOp .Mod) (.int a) (.int b) σ Q := by
  intro f m N s QC r r' ok I V V' k
  cases V with | int => cases V' with | int => exact mod_int' hb (k.now q (.int _ _) I)
theorem G_divI {a b : Int} (q : Q (.int (a.fdiv b)) σ) (hb : b ≠ 0) (hz : Builtin.divisionGoesByPylong a b = false) : G2 c d cs (binaryOp .FloorDiv) (.int a) (.int b) σ Q := by
  intro f m N s QC r r' ok I V V' k
  cases V with | int => cases V' with | int => exact floordiv_int hb (k.now q (.int _ _) I) (.inl hz)
theorem G_negI {a : Int} (q : Q (.int (-a)) σ) : G1 c d cs (unaryOp .USub) (.int a) σ Q := by
  intro f m N s QC r ok I V k
  cases V with | int => exact neg_int (k.now q (.int _ _) I)
theorem G_iaddI {a b : Int} (q : Q (.int (a + b)) σ) : G2 c d cs (inplaceOp .Add) (.int a) (.int b) σ Q := by
  intro f m N s QC r r' ok I V V' k
  cases V with | int => cases V' with | int => exact iadd_int (k.now q (.int _ _) I)
/- texts -/
theorem G_addS {x y : Str} (q : Q (.str (x ++ y)) σ) (hz : x.length + y.length ≤ sizeLine) : G2 c d cs (binaryOp .Add) (.str x) (.str y) σ Q := by
  intro f m N s QC r r' ok I V V' k
  cases V with | str => cases V' with | str => exact add_str (fun t' tk => k _ _ σ s.heap N tk q (.str _ _) (Ext.refl N) I) hz
/- comparisons -/
theorem G_eqS {x y : Str} (q : Q (.bool (x == y)) σ) : G2 c d cs (compareOp .Eq) (.str x) (.str y) σ Q := by
  intro f m N s QC r r' ok I V V' k
  cases V with | str => cases V' with | str => exact eq_str (k.now q (.bool _) I (tk := s.toks))
theorem G_neS {x y : Str} (q : Q (.bool (x != y)) σ) : G2 c d cs (compareOp .NotEq) (.str x) (.str y) σ Q := by
  intro f m N s QC r r' ok I V V' k
  cases V with | str => cases V' with | str => exact ne_str (k.now q (.bool _) I (tk := s.toks))
theorem G_eqI {x y : Int} (q : Q (.bool (x == y)) σ) : G2 c d cs (compareOp .Eq) (.int x) (.int y) σ Q := by
  intro f m N s QC r r' ok I V V' k
  cases V with | int => cases V' with | int => exact eq_int (k.now q (.bool _) I (tk := s.toks))
theorem G_ltI {x y : Int} (q : Q (.bool (decide (x < y))) σ) : G2 c d cs (compareOp .Lt) (.int x) (.int y) σ Q := by
  intro f m N s QC r r' ok I V V' k
  cases V with | int => cases V' with | int => exact lt_int (k.now q (.bool _) I (tk := s.toks))
theorem G_gtI {x y : Int} (q : Q (.bool (decide (x > y))) σ) : G2 c d cs (compareOp .Gt) (.int x) (.int y) σ Q := by
  intro f m N s QC r r' ok I V V' k
  cases V with | int => cases V' with | int => exact gt_int (k.now q (.bool _) I (tk := s.toks))
theorem G_eqB {x y : Bool} (q : Q (.bool (x == y)) σ) : G2 c d cs (compareOp .Eq) (.bool x) (.bool y) σ Q := by
  intro f m N s QC r r' ok I V V' k
  cases V with | bool => cases V' with | bool => exact eq_bool (k.now q (.bool _) I (tk := s.toks))
theorem G_neB {x y : Bool} (q : Q (.bool (x != y)) σ) : G2 c d cs (compareOp .NotEq) (.bool x) (.bool y) σ Q := by
  intro f m N s QC r r' ok I V V' k
  cases V with | bool => cases V' with | bool => exact ne_bool (k.now q (.bool _) I (tk := s.toks))
noncomputable def Val.isNone : Val → Bool
  | .none => true
  | _ => false
theorem VRel.isNone {N : Led} {r : Value} {v : Val} (h : VRel N r v) : (r == Value.none) = v.isNone := by
  cases h <;> rfl
theorem G_is {v : Val} (q : Q (.bool v.isNone) σ) : G2 c d cs (compareOp .Is) v .none σ Q := by
  intro f m N s QC r r' ok I V V' k
  cases V' with | none => exact is_none (k.now (by rw [V.isNone]; exact q) (.bool _) I (tk := s.toks))
theorem G_isnot {v : Val} (q : Q (.bool (!v.isNone)) σ) : G2 c d cs (compareOp .IsNot) v .none σ Q := by
  intro f m N s QC r r' ok I V V' k
  cases V' with | none => exact isnot_none_gen (k.now (by rw [V.isNone]; exact q) (.bool _) I (tk := s.toks))
theorem strsAre {N : Led} {ys : List Str} : ∀ {rs : List Value}, VRels N rs (ys.map Val.str) → StrsAre rs ys := by
  induction ys with
  | nil => intro rs h; cases h; exact .nil
  | cons y ys ih => intro rs h; cases h with | cons a r => cases a; exact .cons _ _ (ih r)
theorem intsAre {N : Led} {ys : List Int} : ∀ {rs : List Value}, VRels N rs (ys.map Val.int) → IntsAre rs ys := by
  induction ys with
  | nil => intro rs h; cases h; exact .nil
  | cons y ys ih => intro rs h; cases h with | cons a r => cases a; exact .cons _ _ (ih r)
theorem G_inS {x : Str} {ys : List Str} {vs : List Val} (q : Q (.bool (ys.any (· == x))) σ) (e : vs = ys.map Val.str) : G2 c d cs (compareOp .In) (.str x) (.tup vs) σ Q := by
  intro f m N s QC r r' ok I V V' k
  subst e
  cases V with | str => cases V' with | tup hm V => exact in_tuple_strs ⟨_, (I.nw _ hm).1, rfl, _, rfl⟩ (strsAre V) (k.now q (.bool _) I (tk := s.toks))
theorem G_inI {x : Int} {ys : List Int} {vs : List Val} (q : Q (.bool (ys.any (· == x))) σ) (e : vs = ys.map Val.int) : G2 c d cs (compareOp .In) (.int x) (.tup vs) σ Q := by
  intro f m N s QC r r' ok I V V' k
  subst e
  cases V with | int => cases V' with | tup hm V => exact in_tuple_ints ⟨_, (I.nw _ hm).1, rfl, _, rfl⟩ (intsAre V) (k.now q (.bool _) I (tk := s.toks))
/- items -/
theorem G_itemT {e i : Expr} {vs : List Val} {n : Int} {j : Nat} {v : Val} (q : Q v σ) (hj : seqIndex? n vs.length = some j) (hv : vs[j]? = some v) (h1 : -2 ^ 63 ≤ n := by decide) (h2 : n < 2 ^ 63 := by decide)
    (hs : ∀ t u, subscripted i false (.ref t) (.int n u) = operate [.ref t, .int n u] (getItem (.ref t) (.int n u)) := by intro _ _; rfl) : G2 c d cs (subscriptTail e i) (.tup vs) (.int n) σ Q := by
  intro f m N s QC r r' ok I V V' k
  cases V with | @tup t arr n₀ _ hm V =>
  cases V' with | int =>
  obtain ⟨x, hx, hr⟩ := V.get hv
  exact item_tupleT (l := arr) ⟨_, (I.nw _ hm).1, rfl, _, rfl⟩ h1 h2 (by rw [V.length]; exact hj) hx (k.now q hr I (tk := s.toks)) (hs _ _)
theorem Inv.isList {f : Fm} {m : Str → Option Value} {N : Led} {h : Heap} (I : Inv f m N h σ) {a : Addr} {vs : List Val} {o : Obj} (e : σ a = some (.list vs o)) : ∃ arr n, o = W.listOf (List.toArray arr) n ∧ h.IsList a arr.toArray ∧ h.get? a = some (W.listOf (List.toArray arr) n) ∧ VRels N arr vs := by
  obtain ⟨arr, n, ho, hm, hr⟩ := I.st.cell a _ e
  subst ho
  exact ⟨arr, n, rfl, ⟨_, (I.nw _ hm).1, rfl, _, rfl⟩, (I.nw _ hm).1, hr⟩

theorem seqIndex_pos {n : Int} {l j : Nat} (h0 : 0 ≤ n) (h : seqIndex? n l = some j) : n.toNat = j ∧ j < l := by
  unfold seqIndex? at h
  simp only [Int.not_lt.mpr h0, if_false] at h
  split at h
  · rename_i q
    simp only [Bool.and_eq_true, decide_eq_true_eq] at q
    cases h
    lia
  · cases h
theorem seqIndex_neg' {n : Int} {l j : Nat} (h0 : n < 0) (h : seqIndex? n l = some j) : (n + l).toNat = j ∧ j < l ∧ -(l : Int) ≤ n := by
  unfold seqIndex? at h
  simp only [h0, if_true] at h
  split at h
  · rename_i q
    simp only [Bool.and_eq_true, decide_eq_true_eq] at q
    cases h
    lia
  · cases h
theorem wpAny_getItem_listN {prog : Program} {w : World} {A : Around} {E : Value → Shared → Prop} {s : Shared} {l : Addr} {arr : List Value} {n : Int} {t : Tok} {j : Nat} {x : Value} {Q : Value → Shared → Prop} (hl : s.heap.IsList l arr.toArray) (h1 : -2 ^ 63 ≤ n) (h2 : n < 2 ^ 63)
    (hj : seqIndex? n arr.length = some j) (hx : arr[j]? = some x) (q : Q x s) : wpAny (model prog w) A (getItem (.ref l) (.int n t)) Q E s := by
  by_cases h0 : 0 ≤ n
  · obtain ⟨e, _⟩ := seqIndex_pos h0 hj
    exact wpAny_getItem_list hl h0 h2 (by rw [e]; simpa using hx) q
  · have h0' : n < 0 := by lia
    obtain ⟨e, _, e2⟩ := seqIndex_neg' h0' hj
    exact wpAny_getItem_list_neg hl h0' (by simpa using e2) h1 (by simp only [List.size_toArray]; rw [e]; simpa using hx) q
theorem G_itemL {e i : Expr} {a : Addr} {vs : List Val} {o : Obj} {n : Int} {j : Nat} {v : Val} (ha : σ a = some (.list vs o)) (q : Q v σ) (hj : seqIndex? n vs.length = some j) (hv : vs[j]? = some v) (h1 : -2 ^ 63 ≤ n := by decide) (h2 : n < 2 ^ 63 := by decide)
    (hs : ∀ t u, subscripted i false (.ref t) (.int n u) = operate [.ref t, .int n u] (getItem (.ref t) (.int n u)) := by intro _ _; rfl) : G2 c d cs (subscriptTail e i) (.ref a) (.int n) σ Q := by
  intro f m N s QC r r' ok I V V' k
  cases V with | ref =>
  cases V' with | int =>
  obtain ⟨arr, n₀, ho, hl, hg', V⟩ := I.isList ha
  obtain ⟨x, hx, hr⟩ := V.get hv
  exact tail_any hl.typeIs slot_list_getitem.lookup (wpAny_getItem_listN hl h1 h2 (by rw [V.length]; exact hj) hx (k.now q hr I (tk := s.toks))) (hs _ _)
theorem G_itemS {e i : Expr} {x : Str} {n : Int} (q : Q (.str (Txt.item x n)) σ) (hf : fitsSsize n = true) (h1 : -(x.length : Int) ≤ n) (h2 : n < x.length)
    (hs : ∀ t u, subscripted i false (.str x t) (.int n u) = operate [.str x t, .int n u] (getItem (.str x t) (.int n u)) := by intro _ _; rfl)
    (hg : ∀ t r, letTemporaryGo e (.str x t) r = pure () := by intro _ _; rfl) : G2 c d cs (subscriptTail e i) (.str x) (.int n) σ Q := by
  intro f m N s QC r r' ok I V V' k
  cases V with | str =>
  cases V' with | int =>
  exact item_str hf h1 h2 (fun _ => k.now q (.str _ _) I) (hs _ _) (hg _)

/- the lists' own steps -/
theorem upd_seq {f : Fm} {m : Str → Option Value} {N : Led} {s : Shared} {a : Addr} {vs vs' : List Val} {o : Obj} {arr' : List Value} (I : Inv f m N s.heap σ) (hc : σ a = some (.list vs o)) {arr : List Value} {n : Nat} (hg : s.heap.get? a = some (W.listOf arr.toArray n)) (g : Array Value → Array Value) (hgv : g arr.toArray = arr'.toArray) (hr : VRels N arr' vs') :
    ∃ N' o', Ext N N' ∧ Inv f m N' (s.heap.update a (Obj.mapSeq g)) (σ.set a (.list vs' o')) := by
  have q := PySem.IsL.update (h := s.heap) (l := a) (items := arr.toArray) (n := n) hg g
  rw [hgv] at q
  obtain ⟨N', X, I'⟩ := st_list I hc (Heap.SameBut.update ..) q hr
  exact ⟨N', _, X, I'⟩
theorem GL_append {a : Addr} {vs : List Val} {o : Obj} {v : Val} (ha : σ a = some (.list vs o)) (q : ∀ o', Q .none (σ.set a (.list (vs ++ [v]) o'))) (hz : vs.length ≤ sizeLine) : GL c d cs (callF (.builtin "list.append")) [.ref a, v] σ Q := by
  intro f m N s QC rs ok I V k
  cases V with | cons V V₂ => cases V₂ with | cons V₂ V₃ => cases V₃ with | nil =>
  cases V with | ref =>
  obtain ⟨arr, n₀, ho, hl, hg', V⟩ := I.isList ha
  refine append_at hg' (fun h' hs' hg₂ => ?_) (by simpa [V.length] using hz)
  rename_i x
  have hg₂' : h'.get? a = some (W.listOf (arr ++ [x]).toArray (n₀ + 1)) := by
    rw [hg₂]; simp [W.listOf]
  obtain ⟨N', X, I'⟩ := st_list I ha hs' hg₂' (V.append (.cons V₂ .nil))
  exact k _ _ _ h' N' s.toks (q _) .none X I'
theorem GL_pop {a : Addr} {vs : List Val} {v : Val} {o : Obj} (ha : σ a = some (.list (vs ++ [v]) o)) (q : ∀ o', Q v (σ.set a (.list vs o'))) (hz : vs.length + 1 ≤ sizeLine) : GL c d cs (callF (.builtin "list.pop")) [.ref a] σ Q := by
  intro f m N s QC rs ok I V k
  cases V with | cons V V₂ => cases V₂ with | nil =>
  cases V with | ref =>
  obtain ⟨arr, n₀, ho, hl, hg', V⟩ := I.isList ha
  have hlen : arr.length = vs.length + 1 := by simpa using V.length
  obtain ⟨y, hy, hyr⟩ := V.get (i := vs.length) (v := v) (by simp)
  have harr : arr = arr.take vs.length ++ [y] := by
    have h1 : arr.drop vs.length = [y] := by
      have : vs.length < arr.length := by lia
      rw [List.drop_eq_getElem_cons this, List.drop_of_length_le (by lia)]
      have : arr[vs.length] = y := by
        have := List.getElem?_eq_getElem this
        rw [hy] at this; exact (Option.some.inj this).symm
      rw [this]
    rw [← h1, List.take_append_drop]
  have hr : VRels N (arr.take vs.length) vs := by simpa using V.take vs.length
  have hsz : arr.toArray.size - 1 = vs.length := by simp [hlen]
  obtain ⟨N', o', X, I'⟩ := upd_seq (vs' := vs) (arr' := arr.take vs.length) I ha hg' (fun x => x.eraseIdxIfInBounds (arr.toArray.size - 1)) (by
    show arr.toArray.eraseIdxIfInBounds (arr.toArray.size - 1) = _
    rw [hsz]
    conv => lhs; rw [harr]
    have e : (arr.take vs.length).length = vs.length := by simp [hlen]
    apply Array.toList_inj.mp
    have : vs.length < ((List.take vs.length arr ++ [y]).toArray).size := by simp [hlen]
    rw [Array.eraseIdxIfInBounds, dif_pos this]
    simp [List.eraseIdx_append_of_length_le, e]) hr
  have hy' : arr.toArray[arr.toArray.size - 1]? = some y := by rw [hsz]; simpa using hy
  refine call_meets PySem.F.slot_list_pop ⟨_, hg', rfl⟩ PySem.F.entry_list_pop (PySem.F.args_list_pop_1 _) (PySem.MeetsSeq.list_pop_last a _ n₀ y hy' (by simpa [hlen] using hz)) ⟨hg', ?_⟩
  exact k _ _ _ _ N' s.toks (q o') (hyr.ext X) X I'
theorem GL_extend {a b : Addr} {vs ws : List Val} {o o₂ : Obj} (ha : σ a = some (.list vs o)) (hb : σ b = some (.list ws o₂)) (q : ∀ o', Q .none (σ.set a (.list (vs ++ ws) o'))) (hz : vs.length + ws.length ≤ sizeLine) : GL c d cs (callF (.builtin "list.extend")) [.ref a, .ref b] σ Q := by
  intro f m N s QC rs ok I V k
  cases V with | cons V V₂ => cases V₂ with | cons V₂ V₃ => cases V₃ with | nil =>
  cases V with | ref => cases V₂ with | ref =>
  obtain ⟨arr, n₀, ho, hl, hg', V⟩ := I.isList ha
  obtain ⟨arr₂, n₂, ho₂, hl₂, hg₂, V₂⟩ := I.isList hb
  obtain ⟨N', o', X, I'⟩ := upd_seq (vs' := vs ++ ws) (arr' := arr ++ arr₂) I ha hg' (fun x => x ++ arr₂.toArray) (by simp) (V.append V₂)
  have e1 : arr.toArray.size = vs.length := by simp [V.length]
  have e2 : arr₂.toArray.size = ws.length := by simp [V₂.length]
  refine call_meets PySem.F.slot_list_extend ⟨_, hg', rfl⟩ PySem.F.entry_list_extend (PySem.F.args_list_extend_2 _ _) (PySem.AutoSeq1.list_extend_list_list_0 a arr.toArray n₀ b arr₂.toArray n₂ (extend_door (by rw [e1, e2]; exact hz)) (by rw [e1]; lia) (by rw [e1, e2]; lia)) ⟨hg', hg₂, ?_⟩
  exact k _ _ _ _ N' s.toks (q o') .none X I'
theorem G_addL {a b : Addr} {vs ws : List Val} {o o₂ : Obj} (ha : σ a = some (.list vs o)) (hb : σ b = some (.list ws o₂)) (q : ∀ l o', σ l = none → Q (.ref l) (σ.set l (.list (vs ++ ws) o'))) (hz : vs.length + ws.length ≤ sizeLine) : G2 c d cs (binaryOp .Add) (.ref a) (.ref b) σ Q := by
  intro f m N s QC r r' ok I V V' k
  cases V with | ref => cases V' with | ref =>
  obtain ⟨arr, n₀, ho, hl, hg', V⟩ := I.isList ha
  obtain ⟨arr₂, n₂, ho₂, hl₂, hg₂, V₂⟩ := I.isList hb
  refine add_arrays I.fr I.nw hl hl₂ (fun h' F' N' => ?_) (by simpa [V.length, V₂.length] using hz)
  have N'' : News f.h₀ f.L h' ((s.heap.objs.size, W.listOf (arr ++ arr₂).toArray 0) :: N) := by simpa [W.listOf] using N'
  obtain ⟨h0, X, I'⟩ := st_new I (Nat.le_refl _) F' N'' (V.append V₂)
  exact k _ _ _ h' _ s.toks (q _ _ h0) (.ref _) X I'
theorem small_size {n : Nat} (h : n ≤ sizeLine) : (n : Int) < 2 ^ 63 := by
  have : sizeLine = 16777216 := rfl
  lia
theorem GL_lenL {a : Addr} {vs : List Val} {o : Obj} (ha : σ a = some (.list vs o)) (q : Q (.int vs.length) σ) (hz : vs.length ≤ sizeLine) : GL c d cs (callF (.builtin "len")) [.ref a] σ Q := by
  intro f m N s QC rs ok I V k
  cases V with | cons V V₂ => cases V₂ with | nil =>
  cases V with | ref =>
  obtain ⟨arr, n₀, ho, hl, hg', V⟩ := I.isList ha
  refine len_list hl (by simpa [V.length] using small_size hz) ?_
  simp only [List.size_toArray, V.length]
  exact k.now q (.int _ _) I
theorem GL_lenT {vs : List Val} (q : Q (.int vs.length) σ) (hz : vs.length ≤ sizeLine := by decide) : GL c d cs (callF (.builtin "len")) [.tup vs] σ Q := by
  intro f m N s QC rs ok I V k
  cases V with | cons V V₂ => cases V₂ with | nil =>
  cases V with | tup hm V =>
  refine len_tuple ⟨_, (I.nw _ hm).1, rfl, _, rfl⟩ (by simpa [V.length] using small_size hz) ?_
  simp only [List.size_toArray, V.length]
  exact k.now q (.int _ _) I
theorem GL_tupleOf {a : Addr} {vs : List Val} {o : Obj} (ha : σ a = some (.list vs o)) (q : Q (.tup vs) σ) (hz : vs.length ≤ sizeLine) : GL c d cs (callF (.type "tuple")) [.ref a] σ Q := by
  intro f m N s QC rs ok I V k
  cases V with | cons V V₂ => cases V₂ with | nil =>
  cases V with | ref =>
  obtain ⟨arr, n₀, ho, hl, hg', V⟩ := I.isList ha
  refine tuple_ofL I.fr I.nw hl (fun D h' F' N' hk => ?_) (by rw [V.length]; exact hz)
  have sub : ∀ p ∈ N, p ∈ (D, ({ cls := .type "tuple", data := .seq arr.toArray } : Obj)) :: N := fun p hp => List.mem_cons_of_mem _ hp
  exact k _ _ σ h' _ s.toks q (.tup (n := 0) List.mem_cons_self (V.ext (Ext.of_sub sub))) (Ext.of_sub sub) ⟨F', N', I.st.sup sub⟩
theorem GL_strS {x : Str} (q : Q (.str x) σ) : GL c d cs (callF (.type "str")) [.str x] σ Q := by
  intro f m N s QC rs ok I V k
  cases V with | cons V V₂ => cases V₂ with | nil =>
  cases V with | str => exact P.str_of_str (k.now q (.str _ _) I (tk := s.toks))
theorem GL_strI {a : Int} (q : Q (.str (Str.ofString (toString a))) σ) (hz : a.natAbs.log2 < 1920) : GL c d cs (callF (.type "str")) [.int a] σ Q := by
  intro f m N s QC rs ok I V k
  cases V with | cons V V₂ => cases V₂ with | nil =>
  cases V with | int => exact P.str_of_int hz (k.now q (.str _ _) I)
theorem GL_intB {b : Bool} (q : Q (.int (if b = true then 1 else 0)) σ) : GL c d cs (callF (.type "int")) [.bool b] σ Q := by
  intro f m N s QC rs ok I V k
  cases V with | cons V V₂ => cases V₂ with | nil =>
  cases V with | bool => exact call_int_bool (k.now q (.int _ _) I)
theorem GL_abs {a : Int} (q : Q (.int (if a < 0 then -a else a)) σ) : GL c d cs (callF (.builtin "abs")) [.int a] σ Q := by
  intro f m N s QC rs ok I V k
  cases V with | cons V V₂ => cases V₂ with | nil =>
  cases V with | int => exact call_abs_int (fun u tk => k _ _ σ s.heap N tk q (.int _ _) (Ext.refl N) I)
theorem GL_max {a b : Int} (q : Q (.int (if b > a then b else a)) σ) : GL c d cs (callF (.builtin "max")) [.int a, .int b] σ Q := by
  intro f m N s QC rs ok I V k
  cases V with | cons V V₂ => cases V₂ with | cons V₂ V₃ => cases V₃ with | nil =>
  cases V with | int => cases V₂ with | int =>
  exact max_two_N rfl I.fr I.nw (fun h' tk F' N' => k _ _ σ h' N tk q (.int _ _) (Ext.refl N) ⟨F', N', I.st⟩)
theorem GL_lower {x : Str} (q : Q (.str (Txt.lower x)) σ) (hz : x.length ≤ 5592405) : GL c d cs (callF (.builtin "str.lower")) [.str x] σ Q := by
  intro f m N s QC rs ok I V k
  cases V with | cons V V₂ => cases V₂ with | nil =>
  cases V with | str => exact SCL.lower hz (fun _ => k.now q (.str _ _) I)
theorem GL_join {x : Str} {a : Addr} {ys : List Str} {vs : List Val} {o : Obj} (ha : σ a = some (.list vs o)) (e : vs = ys.map Val.str) (q : Q (.str (Txt.join x ys)) σ) (hx : x.length ≤ 16) (hz : (ys.map (·.length)).sum + ys.length ≤ 1048576) : GL c d cs (callF (.builtin "str.join")) [.str x, .ref a] σ Q := by
  intro f m N s QC rs ok I V k
  subst e
  cases V with | cons V V₂ => cases V₂ with | cons V₂ V₃ => cases V₃ with | nil =>
  cases V with | str => cases V₂ with | ref =>
  obtain ⟨arr, n₀, ho, hl, hg', V⟩ := I.isList ha
  exact join_listW hl (by simpa using strsAre V) hx hz (fun t' tk => k _ _ σ s.heap N tk q (.str _ _) (Ext.refl N) I)
theorem VRels.setAt {N : Led} {r : Value} {v : Val} (h : VRel N r v) : ∀ {rs : List Value} {vs : List Val} (_ : VRels N rs vs) (n : Nat), VRels N (rs.set n r) (vs.set n v)
  | _, _, .nil, n => by simpa using VRels.nil
  | _, _, .cons _ q, 0 => .cons h q
  | _, _, .cons p q, n+1 => .cons p (VRels.setAt h q n)
/- an item's store -/
noncomputable def G3U (c : Cx) (d : Nat) (cs : Scope) (t : Value → Value → Value → Sem Unit) (v v' v'' : Val) (σ : Store) (Q : Store → Prop) : Prop :=
  ∀ f m N s QC r r' r'', Fm.Ok f c d cs → Inv f m N s.heap σ → VRel N r v → VRel N r' v' → VRel N r'' v'' → ThenU f m N s Q QC → wpAny (model c.prog c.w) f.around (t r r' r'') QC noE s
theorem G_setItem {a : Addr} {vs : List Val} {o : Obj} {n : Nat} {v : Val} {Q : Store → Prop} (ha : σ a = some (.list vs o)) (hn : n < vs.length) (hz : n ≤ sizeLine) (q : ∀ o', Q (σ.set a (.list (vs.set n v) o'))) : G3U c d cs setItem (.ref a) (.int n) v σ Q := by
  intro f m N s QC r r' r'' ok I V V' V'' k
  cases V with | ref => cases V' with | int =>
  obtain ⟨arr, n₀, ho, hl, hg', V⟩ := I.isList ha
  have hset : VRels N (arr.set n r'') (vs.set n v) := V.setAt V'' n
  obtain ⟨N', o', X, I'⟩ := upd_seq (vs' := vs.set n v) (arr' := arr.set n r'') I ha hg' (fun x => x.setIfInBounds n r'') (by simp) hset
  refine ki_setAt hg' (Int.natCast_nonneg n) (small_size hz) (by simp [V.length]; exact hn) ?_
  exact k _ _ N' s.toks (q o') X I'
section
variable (c : Cx) (d : Nat) (cs : Scope)
noncomputable abbrev KPut3 (a v : Val) (ρ : LEnv) (Q : Fl → LEnv → Store → Prop) : Val → Store → Prop := fun n σ₃ => G3U c d cs setItem a n v σ₃ (KNext ρ Q)
noncomputable abbrev KPut2 (i : Expr) (v : Val) (ρ : LEnv) (Q : Fl → LEnv → Store → Prop) : Val → Store → Prop := fun a σ₂ => WE c d cs i ρ σ₂ (KPut3 c d cs a v ρ Q)
noncomputable abbrev KPut (o i : Expr) (ρ : LEnv) (Q : Fl → LEnv → Store → Prop) : Val → Store → Prop := fun v σ₁ => WE c d cs o ρ σ₁ (KPut2 c d cs i v ρ Q)
end
theorem WX_setSub {e o i : Expr} {sp p : Pos} {Q : Fl → LEnv → Store → Prop} (h : WE c d cs e ρ σ (KPut c d cs o i ρ Q))
    (hs : ∀ f : Fm, f.cs = cs → swapsWith e (some (.Subscript o i sp)) p.line f.env = pure false := by intro f h; cases f; cases h; rfl) : WX c d cs (.Assign [.Subscript o i sp] e p) ρ σ Q := by
  intro f m N s QC ok I R k
  refine wpAny_Assign_Subscript (h f m N s _ ok I R ?_) (hs f ok.hcs)
  intro r₁ v₁ σ₁ h₁ N₁ t₁ q₁ V₁ X₁ I₁
  refine q₁ f m N₁ _ _ ok I₁ (R.ext X₁) ?_
  intro r₂ v₂ σ₂ h₂ N₂ t₂ q₂ V₂ X₂ I₂
  refine q₂ f m N₂ _ _ ok I₂ (R.ext (X₁.trans X₂)) ?_
  intro r₃ v₃ σ₃ h₃ N₃ t₃ q₃ V₃ X₃ I₃
  refine q₃ f m N₃ _ _ r₂ r₃ r₁ ok I₃ (V₂.ext X₃) V₃ (V₁.ext (X₂.trans X₃)) ?_
  intro σ₄ h₄ N₄ t₄ q₄ X₄ I₄
  exact k _ _ _ _ _ h₄ N₄ t₄ q₄ .next (((X₁.trans X₂).trans X₃).trans X₄) I₄ (R.ext (((X₁.trans X₂).trans X₃).trans X₄))
end

/- what a value is, all the way down -/
mutual
inductive Deep (σ : Store) : Val → PyData → Prop
  | none : Deep σ .none .none
  | bool (b : Bool) : Deep σ (.bool b) (.bool b)
  | int (i : Int) : Deep σ (.int i) (.int i)
  | str (s : Str) : Deep σ (.str s) (.str s)
  | tup {vs : List Val} {ds : List PyData} : Deeps σ vs ds → Deep σ (.tup vs) (.tuple ds)
  | list {a : Addr} {vs : List Val} {o : Obj} {ds : List PyData} : σ a = some (.list vs o) → Deeps σ vs ds → Deep σ (.ref a) (.list ds)
inductive Deeps (σ : Store) : List Val → List PyData → Prop
  | nil : Deeps σ [] []
  | cons {v : Val} {e : PyData} {vs : List Val} {ds : List PyData} : Deep σ v e → Deeps σ vs ds → Deeps σ (v :: vs) (e :: ds)
end
section
variable {c : Cx} {d : Nat} {cs : Scope}
variable {ρ : LEnv} {σ : Store} {Q : Val → Store → Prop}

mutual
theorem Deep.reads {f : Fm} {m : Str → Option Value} {N : Led} {h : Heap} (I : Inv f m N h σ) : ∀ {v : Val} {e : PyData} {r : Value}, Deep σ v e → VRel N r v → ∃ as, Reads h r e as
  | _, _, _, .none, .none => ⟨_, .none⟩
  | _, _, _, .bool _, .bool _ => ⟨_, .bool _⟩
  | _, _, _, .int _, .int _ _ => ⟨_, .int _ _⟩
  | _, _, _, .str _, .str _ _ => ⟨_, .str _ _⟩
  | _, _, _, .tup ds, .tup hm r => by
    obtain ⟨as, q⟩ := Deeps.reads I ds r
    exact ⟨as, .tuple (I.nw _ hm).1 rfl rfl (by simpa using q)⟩
  | _, _, _, .list hc ds, V => by
    cases V
    obtain ⟨arr, n, ho, hl, hg, V⟩ := I.isList hc
    obtain ⟨as, q⟩ := Deeps.reads I ds V
    exact ⟨_, .list hg rfl rfl (by simpa using q)⟩
theorem Deeps.reads {f : Fm} {m : Str → Option Value} {N : Led} {h : Heap} (I : Inv f m N h σ) : ∀ {vs : List Val} {ds : List PyData} {rs : List Value}, Deeps σ vs ds → VRels N rs vs → ∃ as, ReadsAll h rs ds as
  | _, _, _, .nil, .nil => ⟨_, .nil⟩
  | _, _, _, .cons p q, .cons r t => by
    obtain ⟨as, x⟩ := Deep.reads I p r
    obtain ⟨bs, y⟩ := Deeps.reads I q t
    exact ⟨_, .cons x y⟩
end
theorem Fm.Ok.u64 {f : Fm} (ok : Fm.Ok f c d cs) : f.around.units + 64 < cLine := by
  have := ok.units
  show f.un + 64 < cLine
  lia
theorem G_eqD {v v' : Val} {e e' : PyData} (hd : Deep σ v e) (hd' : Deep σ v' e') (h1 : SeqAt.shaped e = true) (h2 : SeqAt.shaped e' = true) (q : Q (.bool (e.eqv e')) σ) : G2 c d cs (compareOp .Eq) v v' σ Q := by
  intro f m N s QC r r' ok I V V' k
  obtain ⟨as, x⟩ := hd.reads I V
  obtain ⟨bs, y⟩ := hd'.reads I V'
  exact eq_dataH x y h1 h2 ok.u64 (k.now q (.bool _) I (tk := s.toks))
theorem G_neD {v v' : Val} {e e' : PyData} (hd : Deep σ v e) (hd' : Deep σ v' e') (h1 : SeqAt.shaped e = true) (h2 : SeqAt.shaped e' = true) (q : Q (.bool (!e.eqv e')) σ) : G2 c d cs (compareOp .NotEq) v v' σ Q := by
  intro f m N s QC r r' ok I V V' k
  obtain ⟨as, x⟩ := hd.reads I V
  obtain ⟨bs, y⟩ := hd'.reads I V'
  exact ne_dataH x y h1 h2 ok.u64 (k.now q (.bool _) I (tk := s.toks))
theorem GL_reprT {vs : List Val} {e : PyData} (hd : Deep σ (.tup vs) e) (h1 : e.hasDict = false) (h2 : e.showable = true) (h3 : e.depth ≤ 100) (q : Q (.str e.shown) σ) (hz : e.shown.length ≤ sizeLine) : GL c d cs (callF (.builtin "repr")) [.tup vs] σ Q := by
  intro f m N s QC rs ok I V k
  cases V with | cons V V₂ => cases V₂ with | nil =>
  obtain ⟨as, x⟩ := hd.reads I V
  cases V with | tup hm V =>
  refine repr_HN I.fr I.nw x h1 h2 rfl (by have := ok.units; show f.un + (e.depth + 1) < cLine; lia) (fun h' u tk F' N' => ?_) hz
  exact k _ _ σ h' N tk q (.str _ _) (Ext.refl N) ⟨F', N', I.st⟩
theorem GL_listT {vs : List Val} (q : ∀ l o, σ l = none → Q (.ref l) (σ.set l (.list vs o))) (hz : vs.length ≤ sizeLine) : GL c d cs (callF (.type "list")) [.tup vs] σ Q := by
  intro f m N s QC rs ok I V k
  cases V with | cons V V₂ => cases V₂ with | nil =>
  cases V with | @tup t arr n _ hm V =>
  have hl : ∀ p ∈ N, p.1 < s.heap.objs.size := fun p hp => I.lt hp
  refine list_copyKT I.fr I.nw (items := arr.toArray) ⟨_, (I.nw _ hm).1, rfl, _, rfl⟩ (fun D cc h' F' N' l1 => ?_) (by simpa [V.length] using hz)
  have hD : ∀ b c, σ b = some c → b ≠ D := fun b c e hb => by
    have := I.on e
    obtain ⟨o, ho⟩ := this
    have := l1 _ ho
    rw [hb] at this
    exact absurd this (Nat.lt_irrefl _)
  have h0 : σ D = none := by
    cases e : σ D with
    | none => rfl
    | some c => exact absurd rfl (hD D c e)
  have sub : ∀ p ∈ N, p ∈ (D, W.listOf arr.toArray cc) :: N := fun p hp => List.mem_cons_of_mem _ hp
  have S := I.st.sup sub
  obtain ⟨g, gr⟩ := set_list_inj I.st (a := D) (vs := vs) (o := W.listOf arr.toArray cc)
  refine k _ _ _ h' _ s.toks (q D (W.listOf arr.toArray cc) h0) (.ref _) (Ext.of_sub sub) ⟨F', N', ⟨fun b c e => ?_, fun b b' C C' dx fs fs' e e' => I.st.inj _ _ _ _ _ _ _ (g _ _ _ _ e) (g _ _ _ _ e'), fun b C dx fs o e e' => I.st.off _ _ _ _ _ (g _ _ _ _ e) (gr _ _ e')⟩⟩
  by_cases hb : b = D
  · subst hb
    rw [Store.set_same] at e
    cases e
    exact ⟨arr, cc, rfl, List.mem_cons_self, V.ext (Ext.of_sub sub)⟩
  · rw [Store.set_ne hb] at e
    exact S.cell b c e

/- slices -/
theorem slice_new {f : Fm} {m : Str → Option Value} {N : Led} {s : Shared} {QC : Value → Shared → Prop} {vs : List Val} {arr : List Value} (I : Inv f m N s.heap σ) (V : VRels N arr vs) (k : Then f m N s Q QC) (q : ∀ l o, σ l = none → Q (.ref l) (σ.set l (.list vs o))) :
    ∀ D h', Fr f.h₀ f.L h' m → News f.h₀ f.L h' ((D, W.listOf arr.toArray 0) :: N) → D = s.heap.objs.size + 1 → QC (.ref D) { s with heap := h' } := by
  intro D h' F' N' hD
  obtain ⟨h0, X, I'⟩ := st_new I (by rw [hD]; exact Nat.le_succ _) F' N' V
  exact k _ _ _ h' _ s.toks (q _ _ h0) (.ref _) X I'
theorem WE_sliceFrom {v lo : Expr} {p sp : Pos} (h : WE c d cs v ρ σ (fun a σ₁ => WE c d cs lo ρ σ₁ (fun n σ₂ => ∃ l vs o k, a = .ref l ∧ σ₂ l = some (.list vs o) ∧ n = .int (k : Nat) ∧ vs.length ≤ sizeLine ∧ ∀ l' o', σ₂ l' = none → Q (.ref l') (σ₂.set l' (.list (vs.drop k) o')))))
    (hs : ∀ t u, subscripted (.Slice (some lo) none none sp) false (.ref t) (.ref u) = operate [.ref u, .ref t] (getItem (.ref t) (.ref u)) := by intro _ _; rfl)
    (hg : ∀ t r, letTemporaryGo v (.ref t) r = pure () := by intro _ _; rfl) : WE c d cs (.Subscript v (.Slice (some lo) none none sp) p) ρ σ Q := by
  intro f m N s QC ok I R k
  refine Subscript_ (h f m N s _ ok I R ?_)
  intro r₁ v₁ σ₁ h₁ N₁ t₁ q₁ V₁ X₁ I₁
  refine wpAny_Slice (evalPart_some_step (q₁ f m N₁ _ _ ok I₁ (R.ext X₁) ?_))
  rintro r₂ v₂ σ₂ h₂ N₂ t₂ ⟨l, vs, o, j, rfl, hc, rfl, hz, q⟩ V₂ X₂ I₂
  refine evalPart_none_step (evalPart_none_step ?_)
  cases V₁ with | ref => cases V₂ with | int =>
  obtain ⟨arr, n, ho, hl, hg', V⟩ := I₂.isList hc
  refine slice_list (s := { s with heap := h₂, toks := t₂ }) I₂.fr I₂.nw hl (.int _ _) .none (fun h' F' N' => ?_) (hs _ _) (hg _) (by simpa [V.length] using hz)
  rw [slicePick_from'] at N'
  exact slice_new (s := { s with heap := h₂, toks := t₂ }) I₂ (V.drop j) (k.at (X₁.trans X₂)) q _ h' F' N' rfl

/- names of the top -/
theorem WE_global {x : Str} {p : Pos} {r : Value} (e : nsIn c.K mainGlobals x = some (some r)) (hx : cs.names.lookup x = some .globalImplicit) (hd : (x == ("__debug__" : Str)) = false) {f : Fm} {m : Str → Option Value} {N : Led} {s : Shared} {QC : Value → Shared → Prop} (ok : Fm.Ok f c d cs) (I : Inv f m N s.heap σ) (q : QC r s) :
    wpAny (model c.prog c.w) f.around (eval (.Name x p) f.env) QC noE s :=
  nameX_K I.fr ok.X (topRead_of ok.T) e q (by rw [ok.hcs]; exact ok.kind) (by show f.cs.names.lookup x = _; rw [ok.hcs]; exact hx) hd
theorem WE_builtin {x : Str} {p : Pos} {r : Value} (e : nsIn c.K mainGlobals x = some none) (hv : bootBuiltins x = some r) (hn : x ≠ "__name__") (hx : cs.names.lookup x = some .globalImplicit) (hd : (x == ("__debug__" : Str)) = false) {f : Fm} {m : Str → Option Value} {N : Led} {s : Shared} {QC : Value → Shared → Prop} (ok : Fm.Ok f c d cs) (I : Inv f m N s.heap σ) (q : QC r s) :
    wpAny (model c.prog c.w) f.around (eval (.Name x p) f.env) QC noE s :=
  nameX_B I.fr ok.X (topRead_of ok.T) e hv hn q (by rw [ok.hcs]; exact ok.kind) (by show f.cs.names.lookup x = _; rw [ok.hcs]; exact hx) hd
/-- a call of a built-in of one argument or more -/
theorem WE_callB {x : Str} {np p : Pos} {id : String} {a : Expr} {as : List Expr} (e : nsIn c.K mainGlobals x = some none) (h : WL c d cs p (a :: as) ρ σ (KL c d cs (callF (.builtin id)) Q))
    (hv : bootBuiltins x = some (.builtin id) := by boot_fast) (hn : x ≠ "__name__" := by decide) (hx : cs.names.lookup x = some .globalImplicit := by rfl) (hd : (x == ("__debug__" : Str)) = false := by decide)
    (hc : ∀ env, eval (.Call (.Name x np) (a :: as) [] p) env = (do callWith p (← eval (.Name x np) env) [] (backTo p (starEach (a :: as) env)) (backToKw p (keywordEach [] env))) := by intro _; rfl)
    (he : ∀ env, starEach (a :: as) env = (false, eval a env) :: starEach as env := by intro _; rfl) (hp : ∀ env, (backTo p (starEach as env)).any (·.1) = false := by intro _; rfl) : WE c d cs (.Call (.Name x np) (a :: as) [] p) ρ σ Q := by
  intro f m N s QC ok I R k
  refine Call_ (WE_builtin e hv hn hx hd ok I ?_) (hc _)
  refine callWith_builtin1 (h f m N s _ ok I R ?_) (he _) (hp _)
  intro rs vs σ₁ h₁ N₁ t₁ q₁ V₁ X₁ I₁
  exact q₁ f m N₁ _ _ rs ok I₁ V₁ (k.at X₁)
theorem WE_callT {x : Str} {np p : Pos} {T : String} {a : Expr} {as : List Expr} (e : nsIn c.K mainGlobals x = some none) (h : WL c d cs p (a :: as) ρ σ (KL c d cs (callF (.type T)) Q))
    (hv : bootBuiltins x = some (.type T) := by boot_fast) (hn : x ≠ "__name__" := by decide) (hx : cs.names.lookup x = some .globalImplicit := by rfl) (hd : (x == ("__debug__" : Str)) = false := by decide)
    (hc : ∀ env, eval (.Call (.Name x np) (a :: as) [] p) env = (do callWith p (← eval (.Name x np) env) [] (backTo p (starEach (a :: as) env)) (backToKw p (keywordEach [] env))) := by intro _; rfl)
    (he : ∀ env, starEach (a :: as) env = (false, eval a env) :: starEach as env := by intro _; rfl) (hp : ∀ env, (backTo p (starEach as env)).any (·.1) = false := by intro _; rfl) : WE c d cs (.Call (.Name x np) (a :: as) [] p) ρ σ Q := by
  intro f m N s QC ok I R k
  refine Call_ (WE_builtin e hv hn hx hd ok I ?_) (hc _)
  refine callWith_type1 (h f m N s _ ok I R ?_) (he _) (hp _)
  intro rs vs σ₁ h₁ N₁ t₁ q₁ V₁ X₁ I₁
  exact q₁ f m N₁ _ _ rs ok I₁ V₁ (k.at X₁)
/-- a call of a def or a class of the text -/
theorem WE_callD {x : Str} {np p : Pos} {fa : Addr} {a : Expr} {as : List Expr} (e : nsIn c.K mainGlobals x = some (some (.ref fa))) (hk : keepIn c.K (.ref fa) = true) (h : WL c d cs p (a :: as) ρ σ (KCall c d fa Q))
    (hx : cs.names.lookup x = some .globalImplicit := by rfl) (hd : (x == ("__debug__" : Str)) = false := by decide)
    (hc : ∀ env, eval (.Call (.Name x np) (a :: as) [] p) env = (do callWith p (← eval (.Name x np) env) [] (backTo p (starEach (a :: as) env)) (backToKw p (keywordEach [] env))) := by intro _; rfl)
    (he : ∀ env, starEach (a :: as) env = (false, eval a env) :: starEach as env := by intro _; rfl) (hp : ∀ env, (backTo p (starEach as env)).any (·.1) = false := by intro _; rfl) : WE c d cs (.Call (.Name x np) (a :: as) [] p) ρ σ Q := by
  intro f m N s QC ok I R k
  refine Call_ (WE_global e hx hd ok I ?_) (hc _)
  refine callWith_K ok.X hk (h f m N s _ ok I R ?_) (he _) (hp _)
  intro rs vs σ₁ h₁ N₁ t₁ q₁ V₁ X₁ I₁
  exact ⟨ok.X.keeps I₁.fr.keep, q₁ cs f m N₁ _ _ rs ok I₁ V₁ (k.at X₁)⟩
/- methods -/
theorem getMethod_list {f : Fm} {m : Str → Option Value} {N : Led} {s : Shared} {a : Addr} {vs : List Val} {o : Obj} {name : Str} {id : String} {pl : Sem Bool} {QC : Value × List Value → Shared → Prop} (I : Inv f m N s.heap σ) (ha : σ a = some (.list vs o)) (slot : Slot "list" name id)
    (hty : typeOf (.builtin id) = pure (.type "method_descriptor")) (q : QC (.builtin id, [.ref a]) s) : wpAny (model c.prog c.w) f.around (getMethod (.ref a) name pl) QC noE s := by
  obtain ⟨arr, n, ho, hl, hg, V⟩ := I.isList ha
  exact getMethod_list_of slot hty hl ⟨_, hg, rfl⟩ q
theorem WE_methL {x name : Str} {xp ap p : Pos} {id : String} {as : List Expr} {a : Addr} {vs : List Val} {o : Obj} (hx : ρ.lookup x = some (.ref a)) (ha : σ a = some (.list vs o)) (slot : Slot "list" name id) (hty : typeOf (.builtin id) = pure (.type "method_descriptor"))
    (h : WL c d cs p as ρ σ (KM c d cs (callF (.builtin id)) (.ref a) Q)) (hd : (x == ("__debug__" : Str)) = false := by decide)
    (hc : ∀ f : Fm, f.cs = cs → ∃ pl, eval (.Call (.Attribute (.Name x xp) name ap) as [] p) f.env = (do
          let ov ← eval (.Name x xp) f.env
          standAt ap.atName
          let __x ← holding [ov] (getMethod ov name pl)
          match __x with
            | (g, first) => callWith p g first (backTo p (starEach as f.env)) []) := by intro f h; cases f; cases h; exact ⟨_, rfl⟩)
    (he : as = [] ∨ ∃ b bs, as = b :: bs ∧ (∀ env, starEach (b :: bs) env = (false, eval b env) :: starEach bs env) ∧ (∀ env, (backTo p (starEach bs env)).any (·.1) = false) := by first | exact .inl rfl | exact .inr ⟨_, _, rfl, fun _ => rfl, fun _ => rfl⟩) :
    WE c d cs (.Call (.Attribute (.Name x xp) name ap) as [] p) ρ σ Q := by
  intro f m N s QC ok I R k
  obtain ⟨pl, hc⟩ := hc f ok.hcs
  refine MethodCall_ (pl := pl) ?_ hc
  refine WE_name (c := c) (d := d) (cs := cs) (Q := fun v σ' => v = .ref a ∧ σ' = σ) hx ⟨rfl, rfl⟩ hd f m N s _ ok I R ?_
  rintro r v σ' h' N' tk' ⟨rfl, rfl⟩ V X I'
  cases V with | ref =>
  refine getMethod_list I' ha slot hty ?_
  rcases he with rfl | ⟨b, bs, rfl, he, hp⟩
  · refine callWith_method0 ?_
    have := h f m N' { s with heap := h', toks := tk' } (fun rs s₂ => wpAny (model c.prog c.w) f.around (call (.builtin id) (.ref a :: rs)) QC noE s₂) ok I' (R.ext X) ?_
    · have e : wpAny (model c.prog c.w) f.around (spliced (backTo p (starEach [] f.env))) (fun rs s₂ => wpAny (model c.prog c.w) f.around (call (.builtin id) (.ref a :: rs)) QC noE s₂) noE { s with heap := h', toks := tk' } := this
      exact fun Γ p hΓ => e Γ p hΓ Γ p hΓ
    · intro rs us σ₁ h₁ N₁ t₁ q₁ V₁ X₁ I₁
      exact q₁ f m N₁ _ _ _ ok I₁ (.cons (.ref _) V₁) (k.at (X.trans X₁))
  · refine callWith_method1 (h f m N' _ _ ok I' (R.ext X) ?_) (he _) (hp _)
    intro rs us σ₁ h₁ N₁ t₁ q₁ V₁ X₁ I₁
    exact q₁ f m N₁ _ _ _ ok I₁ (.cons (.ref _) V₁) (k.at (X.trans X₁))
end

section
variable {c : Cx} {d : Nat} {cs : Scope}
variable {ρ : LEnv} {σ : Store} {Q : Val → Store → Prop}
/- a text's methods -/
theorem WE_methS {o : Expr} {name : Str} {ap p : Pos} {id : String} {as : List Expr} (slot : Slot "str" name id) (hty : typeOf (.builtin id) = pure (.type "method_descriptor"))
    (h : WE c d cs o ρ σ (fun v σ₁ => ∃ x, v = .str x ∧ WL c d cs p as ρ σ₁ (KM c d cs (callF (.builtin id)) (.str x) Q)))
    (hc : ∀ f : Fm, f.cs = cs → ∃ pl, eval (.Call (.Attribute o name ap) as [] p) f.env = (do
          let ov ← eval o f.env
          standAt ap.atName
          let __x ← holding [ov] (getMethod ov name pl)
          match __x with
            | (g, first) => callWith p g first (backTo p (starEach as f.env)) []) := by intro f h; cases f; cases h; exact ⟨_, rfl⟩)
    (he : as = [] ∨ ∃ b bs, as = b :: bs ∧ (∀ env, starEach (b :: bs) env = (false, eval b env) :: starEach bs env) ∧ (∀ env, (backTo p (starEach bs env)).any (·.1) = false) := by first | exact .inl rfl | exact .inr ⟨_, _, rfl, fun _ => rfl, fun _ => rfl⟩) :
    WE c d cs (.Call (.Attribute o name ap) as [] p) ρ σ Q := by
  intro f m N s QC ok I R k
  obtain ⟨pl, hc⟩ := hc f ok.hcs
  refine MethodCall_ (pl := pl) (h f m N s _ ok I R ?_) hc
  rintro r v σ' h' N' tk' ⟨x, rfl, h⟩ V X I'
  cases V with | str _ t =>
  refine getMethod_builtin (T := "str") rfl PySem.F.plainAttrs_str slot hty (fun a e => by cases e) ?_
  rcases he with rfl | ⟨b, bs, rfl, he, hp⟩
  · refine callWith_method0 ?_
    have := h f m N' { s with heap := h', toks := tk' } (fun rs s₂ => wpAny (model c.prog c.w) f.around (call (.builtin id) (.str x t :: rs)) QC noE s₂) ok I' (R.ext X) ?_
    · have e : wpAny (model c.prog c.w) f.around (spliced (backTo p (starEach [] f.env))) (fun rs s₂ => wpAny (model c.prog c.w) f.around (call (.builtin id) (.str x t :: rs)) QC noE s₂) noE { s with heap := h', toks := tk' } := this
      exact fun Γ p hΓ => e Γ p hΓ Γ p hΓ
    · intro rs us σ₁ h₁ N₁ t₁ q₁ V₁ X₁ I₁
      exact q₁ f m N₁ _ _ _ ok I₁ (.cons (.str _ _) V₁) (k.at (X.trans X₁))
  · refine callWith_method1 (h f m N' _ _ ok I' (R.ext X) ?_) (he _) (hp _)
    intro rs us σ₁ h₁ N₁ t₁ q₁ V₁ X₁ I₁
    exact q₁ f m N₁ _ _ _ ok I₁ (.cons (.str _ _) V₁) (k.at (X.trans X₁))
/- an object's fields -/
theorem FRel.getL {N : Led} {name : Str} {v : Val} : ∀ {es : List DictEntry} {fs : List (Str × Val)}, FRel N es fs → fs.lookup name = some v → ∃ r, PySem.W.getL name es = some (some r) ∧ VRel N r v
  | _, _, .nil, h => by cases h
  | _, _, .cons (x := x) (t := t) (r := r) (es := es) V F, h => by
    rw [List.lookup_cons] at h
    by_cases e : name = x
    · subst e
      simp at h
      subst h
      refine ⟨r, ?_, V⟩
      unfold PySem.W.getL
      simp [Value.isStr]
    · have e' : (name == x) = false := by simpa using e
      rw [e'] at h
      obtain ⟨r', h1, h2⟩ := FRel.getL F h
      refine ⟨r', ?_, h2⟩
      have e2 : (x == name) = false := by simpa using Ne.symm e
      unfold PySem.W.getL at h1 ⊢
      simp only [List.find?_cons, Value.isStr, e2] at h1 ⊢
      simp only [List.any_cons, DictEntry.refKey, Bool.false_or] at h1 ⊢
      simpa using h1
theorem FRel.getL_none {N : Led} {name : Str} : ∀ {es : List DictEntry} {fs : List (Str × Val)}, FRel N es fs → fs.lookup name = none → PySem.W.getL name es = some none
  | _, _, .nil, h => rfl
  | _, _, .cons (x := x) V F, h => by
    rw [List.lookup_cons] at h
    by_cases e : name = x
    · subst e; simp at h
    · have e' : (name == x) = false := by simpa using e
      rw [e'] at h
      have h1 := FRel.getL_none F h
      have e2 : (x == name) = false := by simpa using Ne.symm e
      unfold PySem.W.getL at h1 ⊢
      simp only [List.find?_cons, Value.isStr, e2] at h1 ⊢
      simp only [List.any_cons, DictEntry.refKey, Bool.false_or] at h1 ⊢
      simpa using h1
noncomputable def putF (name : Str) (v : Val) : List (Str × Val) → List (Str × Val)
  | [] => [(name, v)]
  | (x, u) :: r => if x == name then (x, v) :: r else (x, u) :: putF name v r
theorem FRel.putL {N : Led} {name : Str} {hsh : Int} {t : Tok} {r : Value} {v : Val} (V : VRel N r v) : ∀ {es : List DictEntry} {fs : List (Str × Val)}, FRel N es fs → FRel N (PySem.W.putL name hsh (.str name t) r es) (putF name v fs)
  | _, _, .nil => .cons V .nil
  | _, _, .cons (x := x) U F => by
    unfold PySem.W.putL putF
    by_cases e : (x == name) = true
    · rw [if_pos (show Value.isStr (.str x _) name = true from e), if_pos e]; exact .cons V F
    · rw [if_neg (show ¬ Value.isStr (.str x _) name = true from e), if_neg e]; exact .cons U (FRel.putL V F)
theorem FRel.length {N : Led} : ∀ {es : List DictEntry} {fs : List (Str × Val)}, FRel N es fs → es.length = fs.length
  | _, _, .nil => rfl
  | _, _, .cons _ F => by simp [FRel.length F]
/-- what the top says of a class and a field's name -/
structure ClsF (K : Frag) (C : Addr) (name : Str) : Prop where
  plain : plainGet K C name = true
  has : hasDictIn K C = true
  find : findIn K (.ref C) name = some none
  seta : findIn K (.ref C) "__setattr__" = some (some (.builtin "object.__setattr__"))
  over : plainOver K C = true
  taker : takerIn K C name = some none
/-- a value that is no built-in -/
theorem VRel.handedIn {N : Led} {r : Value} {v : Val} (h : VRel N r v) : PySem.W.handedIn r = true := by cases h <;> rfl
theorem G_attr {a C dx : Addr} {fs : List (Str × Val)} {name : Str} {v : Val} (ha : σ a = some (.inst C dx fs)) (K : ClsF c.K C name) (hv : fs.lookup name = some v) (q : Q v σ) : G1 c d cs (fun r => getAttr r name true) (.ref a) σ Q := by
  intro f m N s QC r ok I V k
  cases V with | ref =>
  obtain ⟨es, n, h1, h2, F⟩ := I.st.cell a _ ha
  obtain ⟨r, hr, V⟩ := F.getL hv
  refine get_own I.fr ok.X (InstAt.of_news I.nw h1 h2) K.plain K.has K.find rfl hr V.handedIn ?_
  exact k.now q V I
noncomputable def G2U (c : Cx) (d : Nat) (cs : Scope) (t : Value → Value → Sem Unit) (v v' : Val) (σ : Store) (Q : Store → Prop) : Prop :=
  ∀ f m N s QC r r', Fm.Ok f c d cs → Inv f m N s.heap σ → VRel N r v → VRel N r' v' → ThenU f m N s Q QC → wpAny (model c.prog c.w) f.around (t r r') QC noE s
theorem st_inst {f : Fm} {m : Str → Option Value} {N : Led} {h h' : Heap} {a C dx : Addr} {fs fs' : List (Str × Val)} {es es' : List DictEntry} {n n' : Nat} (I : Inv f m N h σ) (ha : σ a = some (.inst C dx fs)) (h1 : (a, instObj C dx) ∈ N) (h2 : (dx, dictOf es n) ∈ N) (F : Fr f.h₀ f.L h' m)
    (nw : News f.h₀ f.L h' ((dx, dictOf es' n') :: N.filter (fun p => decide (p.1 ≠ dx)))) (hr : FRel N es' fs') :
    Ext N ((dx, dictOf es' n') :: N.filter (fun p => decide (p.1 ≠ dx))) ∧ Inv f m ((dx, dictOf es' n') :: N.filter (fun p => decide (p.1 ≠ dx))) h' (σ.set a (.inst C dx fs')) := by
  have X := ext_upd (o' := dictOf es' n') I.nw h2 (not_stab_dict _ _)
  have keep : ∀ p ∈ N, p.1 ≠ dx → p ∈ (dx, dictOf es' n') :: N.filter (fun p => decide (p.1 ≠ dx)) := fun p hp hne => List.mem_cons_of_mem _ (List.mem_filter.mpr ⟨hp, by simpa using hne⟩)
  refine ⟨X, F, nw, ⟨fun b c e => ?_, fun b b' C₁ C' dx' gs gs' e e' => ?_, fun b C₁ dx' gs o e e' => ?_⟩⟩
  · by_cases hb : b = a
    · subst hb
      rw [Store.set_same] at e
      cases e
      exact ⟨es', n', X _ h1 (stab_inst _ _), List.mem_cons_self, hr.ext X⟩
    · rw [Store.set_ne hb] at e
      cases c with
      | list us o₂ =>
        obtain ⟨arr₂, n₂, ho₂, hm₂, hr₂⟩ := I.st.cell b _ e
        refine ⟨arr₂, n₂, ho₂, keep _ hm₂ fun q => ?_, hr₂.ext X⟩
        dsimp only at q
        subst q
        have := I.led h2 hm₂
        rw [ho₂] at this
        simp at this
      | inst C₂ dx₂ gs =>
        obtain ⟨es₂, n₂, k1, k2, hr₂⟩ := I.st.cell b _ e
        refine ⟨es₂, n₂, X _ k1 (stab_inst _ _), keep _ k2 fun q => ?_, hr₂.ext X⟩
        dsimp only at q
        subst q
        exact hb (I.st.inj _ _ _ _ _ _ _ e ha)
      | raw o =>
        obtain ⟨k1, k2⟩ := I.st.cell b _ e
        refine ⟨keep _ k1 fun q => ?_, k2⟩
        dsimp only at q
        subst q
        exact I.st.off _ _ _ _ _ ha e
  · have g : ∀ z C₁ dx₁ gs, σ.set a (.inst C dx fs') z = some (.inst C₁ dx₁ gs) → ∃ C₂ gs₂, σ z = some (.inst C₂ dx₁ gs₂) := fun z C₁ dx₁ gs q => by
      by_cases hz : z = a
      · subst hz; rw [Store.set_same] at q; cases q; exact ⟨_, _, ha⟩
      · rw [Store.set_ne hz] at q; exact ⟨_, _, q⟩
    obtain ⟨_, _, k1⟩ := g _ _ _ _ e
    obtain ⟨_, _, k2⟩ := g _ _ _ _ e'
    exact I.st.inj _ _ _ _ _ _ _ k1 k2
  · have k1 : ∃ C₂ gs₂, σ b = some (.inst C₂ dx' gs₂) := by
      by_cases hz : b = a
      · subst hz; rw [Store.set_same] at e; cases e; exact ⟨_, _, ha⟩
      · rw [Store.set_ne hz] at e; exact ⟨_, _, e⟩
    obtain ⟨_, _, k1⟩ := k1
    have k2 : σ dx' = some (.raw o) := by
      by_cases hz : dx' = a
      · subst hz; rw [Store.set_same] at e'; cases e'
      · rwa [Store.set_ne hz] at e'
    exact I.st.off _ _ _ _ _ k1 k2
theorem putF_length (name : Str) (v : Val) : ∀ fs : List (Str × Val), (putF name v fs).length ≤ fs.length + 1
  | [] => Nat.le_refl _
  | (x, u) :: r => by
    unfold putF
    split
    · simp
    · have := putF_length name v r
      simp only [List.length_cons]; lia
theorem G_setAttr {a C dx : Addr} {fs : List (Str × Val)} {name : Str} {v : Val} {Q : Store → Prop} (ha : σ a = some (.inst C dx fs)) (K : ClsF c.K C name) (hz : fs.length ≤ 900) (q : Q (σ.set a (.inst C dx (putF name v fs)))) : G2U c d cs (fun r x => setAttr r name x) (.ref a) v σ Q := by
  intro f m N s QC r r' ok I V V' k
  cases V with | ref =>
  obtain ⟨es, n, h1, h2, F⟩ := I.st.cell a _ ha
  have hl : (PySem.W.getL name es).isSome = true := by
    cases e : fs.lookup name with
    | none => rw [F.getL_none e]; rfl
    | some v => obtain ⟨r, hr, _⟩ := F.getL e; rw [hr]; rfl
  let N₂ : Led := (dx, dictOf es n) :: N.filter (fun p => decide (p.1 ≠ dx))
  have nw₂ : News f.h₀ f.L s.heap N₂ := fun p hp => by
    rcases List.mem_cons.mp hp with rfl | hp
    · exact I.nw _ h2
    · exact I.nw _ (List.mem_filter.mp hp).1
  have F' := FRel.putL (name := name) (hsh := PyData.keyHash c.w.params name) (t := s.toks + 1) V' F
  refine set_dict I.fr ok.X nw₂ (InstAt.of_news I.nw h1 h2) rfl K.seta K.over K.taker K.has hl rfl (.head fun p hp => by simpa using (List.mem_filter.mp hp).2) ?_ (fun h' Fr' nw' => ?_)
  · rw [F'.length]
    have := putF_length name v fs
    lia
  · obtain ⟨X, I'⟩ := st_inst I ha h1 h2 Fr' nw' F'
    exact k _ h' _ (s.toks + 2) q X I'
section
variable (c : Cx) (d : Nat) (cs : Scope)
noncomputable abbrev KAttr2 (attr : Str) (v : Val) (ρ : LEnv) (Q : Fl → LEnv → Store → Prop) : Val → Store → Prop := fun a σ₂ => G2U c d cs (fun r y => setAttr r attr y) a v σ₂ (KNext ρ Q)
noncomputable abbrev KAttr (o : Expr) (attr : Str) (ρ : LEnv) (Q : Fl → LEnv → Store → Prop) : Val → Store → Prop := fun v σ₁ => WE c d cs o ρ σ₁ (KAttr2 c d cs attr v ρ Q)
end
theorem WX_setAttr {x attr : Str} {xp ap p : Pos} {e : Expr} {Q : Fl → LEnv → Store → Prop} (h : WE c d cs e ρ σ (KAttr c d cs (.Name x xp) attr ρ Q))
    (hs : ∀ f : Fm, f.cs = cs → swapsWith e (some (.Attribute (.Name x xp) attr ap)) p.line f.env = pure false := by intro f h; cases f; cases h; rfl) : WX c d cs (.Assign [.Attribute (.Name x xp) attr ap] e p) ρ σ Q := by
  intro f m N s QC ok I R k
  refine plainObj_wpAny_Assign_Attribute (h f m N s _ ok I R ?_) (hs f ok.hcs)
  intro r₁ v₁ σ₁ h₁ N₁ t₁ q₁ V₁ X₁ I₁
  refine q₁ f m N₁ _ _ ok I₁ (R.ext X₁) ?_
  intro r₂ v₂ σ₂ h₂ N₂ t₂ q₂ V₂ X₂ I₂
  refine q₂ f m N₂ _ _ r₂ r₁ ok I₂ V₂ (V₁.ext X₂) ?_
  intro σ₃ h₃ N₃ t₃ q₃ X₃ I₃
  exact k _ _ _ _ _ h₃ N₃ t₃ q₃ .next ((X₁.trans X₂).trans X₃) I₃ (R.ext ((X₁.trans X₂).trans X₃))
theorem WAs_attr {x attr : Str} {xp ap : Pos} {es : List Expr} {v : Val} {vs : List Val} {Q : LEnv → Store → Prop} (h : WE c d cs (.Name x xp) ρ σ (fun a σ₂ => G2U c d cs (fun r y => setAttr r attr y) a v σ₂ (fun σ₃ => WAs c d cs es vs ρ σ₃ Q))) :
    WAs c d cs (.Attribute (.Name x xp) attr ap :: es) (v :: vs) ρ σ Q := by
  intro f m N s QC rs ok I R V k
  cases V with | cons V Vs =>
  refine assignInOrder_cons (t := assign (.Attribute (.Name x xp) attr ap) f.env) (kas_attr (h f m N s _ ok I R ?_))
  intro r₂ v₂ σ₂ h₂ N₂ t₂ q₂ V₂ X₂ I₂
  refine q₂ f m N₂ _ _ r₂ _ ok I₂ V₂ (V.ext X₂) ?_
  intro σ₃ h₃ N₃ t₃ q₃ X₃ I₃
  exact q₃ f m N₃ _ _ _ ok I₃ (R.ext (X₂.trans X₃)) (Vs.ext (X₂.trans X₃)) fun ρ' σ' m' h' N' tk' q X I' R' => k ρ' σ' m' h' N' tk' q ((X₂.trans X₃).trans X) I' R'
/- a loop over a range -/
theorem WX_forRange {x rn : Str} {xp np cp p : Pos} {a : Expr} {body : List Stmt} {Q : Fl → LEnv → Store → Prop} (e : nsIn c.K mainGlobals rn = some none)
    (h : WE c d cs a ρ σ (fun v σ₁ => ∃ n : Nat, v = .int n ∧ n ≤ sizeLine ∧ ∃ J : Nat → LEnv → Store → Prop, J 0 ρ σ₁ ∧
      (∀ i ρ' σ', i < n → J i ρ' σ' → WS c d cs body ((x, .int i) :: ρ') σ' (Turn (J (i + 1)) Q)) ∧ (∀ ρ' σ', J n ρ' σ' → Q .next ρ' σ')))
    (hx : cs.names.lookup x = some .local := by rfl) (hrn : rn = "range" := by rfl) (hr : cs.names.lookup rn = some .globalImplicit := by rfl)
    (hs : ∀ f : Fm, f.cs = cs → ∀ v, foldedSetIterable (.Call (.Name rn np) [a] [] cp) f.env v = pure v := by intro f h; cases f; cases h; intro _; rfl)
    (hc : ∀ env, eval (.Call (.Name rn np) [a] [] cp) env = (do callWith cp (← eval (.Name rn np) env) [] (backTo cp (starEach [a] env)) (backToKw cp (keywordEach [] env))) := by intro _; rfl)
    (he : ∀ env, starEach [a] env = (false, eval a env) :: starEach [] env := by intro _; rfl) : WX c d cs (.For (.Name x xp) (.Call (.Name rn np) [a] [] cp) body [] p) ρ σ Q := by
  intro f m N s QC ok I R k
  subst hrn
  have hx' : f.env.kindOf x = some .local := by
    show f.cs.names.lookup x = some .local
    rw [ok.hcs]; exact hx
  have hp' : (f.env.scope.kind == .class || (f.env.scope.kind == .module && f.env.locals != f.env.globals)) = false := by
    have : f.cs.kind = .function := by rw [ok.hcs]; exact ok.kind
    show (f.cs.kind == .class || (f.cs.kind == .module && _)) = false
    rw [this]; rfl
  refine For_invVF I.fr hx' hp' ?_ (hs f ok.hcs) passes_noE
  refine Call_ (WE_builtin (r := .type "range") e (by boot_fast) (by decide) hr (by decide) ok I ?_) (hc _)
  refine callWith_type1 (spliced_more (h f m N s _ ok I R ?_) (he _)) (he _) rfl
  rintro r v σ₁ h₁ N₁ tk₁ ⟨n, rfl, hn, J, hJ0, turn, done⟩ V X₁ I₁
  refine spliced_none ?_
  cases V with | int =>
  refine range1_rows (s := { s with heap := h₁, toks := tk₁ }) I₁.fr I₁.nw (fun h₂ tk₂ t₁ u₁ v₁ hr F₂ nw₂ _ => ?_)
  have I₂ : Inv f m N₁ h₂ σ₁ := ⟨F₂, nw₂, I₁.st⟩
  have hsm : Builtin.Range.small 0 (n : Int) 1 = true := PySem.small_one (by decide) (by decide) (by lia) (by have : sizeLine = 16777216 := rfl; lia)
  refine wpAny_pyIter_range hr hsm ?_
  refine loop_core (J := J) (val := fun i => .int i) ok (I₂.push _) (R.ext X₁) (LCg.range_walks (A := f.around) (I := h₂.objs.size) rfl 0 n) ?_ (fun p hp => Nat.ne_of_lt (I₂.lt hp)) ?_ (h0_none I₂) ?_ hx ?_ ?_ hJ0 ?_ ?_ (k.at X₁)
  · show IsRangeIter _ _ _ _ _
    rw [show Builtin.Range.rangeSize 0 (n : Int) 1 = (n : Int) by rw [rangeSize_nat]; simp]
    simpa using Heap.get?_push_size _ rfl
  · intro hm'
    exact absurd (fr_lt I₂.fr) (List.mem_singleton.mp hm' ▸ Nat.lt_irrefl _)
  · rintro i h st
    exact ⟨_, _, st, stab_fields rfl, rfl⟩
  · intro b hb hne
    exact absurd (List.mem_singleton.mp hb) hne
  · rintro i v hi ⟨t, rfl⟩ N' X
    simpa using VRel.int (N := N') (i : Int) t
  · exact turn
  · exact done
end
theorem ty_append : typeOf (.builtin "list.append") = (pure (.type "method_descriptor") : Sem Value) := by rfl
theorem ty_pop : typeOf (.builtin "list.pop") = (pure (.type "method_descriptor") : Sem Value) := by rfl
theorem ty_extend : typeOf (.builtin "list.extend") = (pure (.type "method_descriptor") : Sem Value) := by rfl
theorem ty_lower : typeOf (.builtin "str.lower") = (pure (.type "method_descriptor") : Sem Value) := by rfl
theorem ty_join : typeOf (.builtin "str.join") = (pure (.type "method_descriptor") : Sem Value) := by rfl

/-- names and values, in step -/
inductive PRel (N : Led) : List (Str × Value) → List (Str × Val) → Prop
  | nil : PRel N [] []
  | cons {x : Str} {r : Value} {v : Val} {a : List (Str × Value)} {b : List (Str × Val)} : VRel N r v → PRel N a b → PRel N ((x, r) :: a) ((x, v) :: b)
theorem PRel.append {N : Led} : ∀ {a a' : List (Str × Value)} {b b' : List (Str × Val)}, PRel N a b → PRel N a' b' → PRel N (a ++ a') (b ++ b')
  | _, _, _, _, .nil, k => k
  | _, _, _, _, .cons h r, k => .cons h (PRel.append r k)
theorem PRel.reverse {N : Led} : ∀ {a : List (Str × Value)} {b : List (Str × Val)}, PRel N a b → PRel N a.reverse b.reverse
  | _, _, .nil => .nil
  | _, _, .cons h r => by
    rw [List.reverse_cons, List.reverse_cons]
    exact (PRel.reverse r).append (.cons h .nil)
theorem PRel.zip {N : Led} : ∀ (ps : List Str) {rs : List Value} {vs : List Val}, VRels N rs vs → PRel N (ps.zip rs) (ps.zip vs)
  | [], _, _, _ => by simpa using PRel.nil
  | _ :: _, _, _, .nil => by simpa using PRel.nil
  | x :: ps, _, _, .cons h r => by simpa using PRel.cons h (PRel.zip ps r)
theorem PRel.lookup {N : Led} {x : Str} {v : Val} : ∀ {a : List (Str × Value)} {b : List (Str × Val)}, PRel N a b → b.lookup x = some v → ∃ r, a.lookup x = some r ∧ VRel N r v
  | _, _, .nil, h => by cases h
  | _, _, .cons (x := y) V P, h => by
    rw [List.lookup_cons] at h ⊢
    cases e : x == y with
    | true => rw [e] at h; cases h; exact ⟨_, rfl, V⟩
    | false => rw [e] at h; exact P.lookup h
theorem PRel.mem {N : Led} {x : Str} {v : Val} : ∀ {a : List (Str × Value)} {b : List (Str × Val)}, PRel N a b → b.lookup x = some v → ∃ r, (x, r) ∈ a
  | _, _, .nil, h => by cases h
  | _, _, .cons (x := y) V P, h => by
    rw [List.lookup_cons] at h
    cases e : x == y with
    | true => have : x = y := by simpa using e
              subst this; exact ⟨_, List.mem_cons_self⟩
    | false => rw [e] at h; obtain ⟨r, hr⟩ := P.mem h; exact ⟨r, List.mem_cons_of_mem _ hr⟩

/-- the object of a def -/
structure FunAt (c : Cx) (fa : Addr) (ps : List Str) (body : List Stmt) (scope : Scope) : Prop where
  ex : ∃ name qual params dV kV doc pm cdv ct oc an od osl, c.K.lookup fa = some ⟨oc, od, .func (fnX name qual params body scope [] dV kV doc pm an cdv ct), osl⟩ ∧ codeIn c.K cdv qual = true ∧
    ∀ vs : List Value, vs.length = ps.length → bindArgs (fnX name qual params body scope [] dV kV doc pm an cdv ct) ⟨vs, []⟩ = pure (ps.zip vs)
/-- a def of the top -/
structure DefAt (c : Cx) (name : Str) (fa : Addr) (ps : List Str) (body : List Stmt) (scope : Scope) : Prop extends FunAt c fa ps body scope where
  ns : nsIn c.K mainGlobals name = some (some (.ref fa))
  keep : keepIn c.K (.ref fa) = true
structure PlainScope (ps : List Str) (scope : Scope) : Prop where
  loc : (ps.all fun x => scope.names.lookup x == some .local) = true
  cell : ∀ x ∈ scope.names, x.2 ≠ .cell
  co : scope.isCoroutine = false
  gen : scope.isGenerator = false
  kind : scope.kind = .function
noncomputable def Fl.val : Fl → Val
  | .ret v => v
  | _ => .none
section
variable {c : Cx} {d : Nat} {cs : Scope}
variable {ρ : LEnv} {σ : Store} {Q : Val → Store → Prop}

theorem zip_loc {ps : List Str} {scope : Scope} (h : (ps.all fun x => scope.names.lookup x == some .local) = true) (rs : List Value) : ∀ y ∈ ps.zip rs, scope.names.lookup y.1 = some .local := fun y hy => by
  have := List.all_eq_true.mp h y.1 (List.of_mem_zip (show (y.1, y.2) ∈ ps.zip rs from hy)).1
  simpa using this

theorem enter {f : Fm} {m : Str → Option Value} {N : Led} {s : Shared} {R : Result → Shared → Prop} {d₀ dp un : Nat} {fa : Addr} {ps : List Str} {body : List Stmt} {scope : Scope} {rs : List Value} {vs : List Val} {Qr : Val → Store → Prop} {A : Around}
    (ok : Fm.Ok f c d₀ cs) (I : Inv f m N s.heap σ) (D : FunAt c fa ps body scope) (P : PlainScope ps scope) (hA : A = { handled := none, depth := dp, frames := some (f.env :: f.outer), guards := some [], units := un }) (hd : dp + 1 + d < recursionLimit) (hu : un + 3 + 8 * d + 200 < cLine)
    (V : VRels N rs vs) (hlen : vs.length = ps.length) (H : WS c d scope body (ps.zip vs).reverse σ (fun fl _ σ' => Qr fl.val σ'))
    (k : ∀ r v σ' h' N' tk', Qr v σ' → VRel N' r v → Ext N N' → Inv f m N' h' σ' → R (.ok (.ret r)) { s with heap := h', toks := tk' }) :
    codeAny (model c.prog c.w) A (.call (.ref fa) ⟨rs, []⟩) R s := by
  subst hA
  obtain ⟨name, qual, params, dV, kV, doc, pm, cdv, ct, oc, an, od, osl, ho, hcd, hb⟩ := D.ex
  have hrl : rs.length = ps.length := by rw [V.length]; exact hlen
  refine callX_plain (L := f.L) (m := m) (h₀ := f.h₀) (base := f.base) (outer := f.outer) (env := f.env) (A₀ := f.A₀) ok.B I.fr I.nw ok.T.nolimit rfl rfl (by show f.cs.kind = _; rw [ok.hcs]; exact ok.kind) ((ok.X.keeps I.fr.keep) _ _ ho) rfl (codeRec_of (ok.X.keeps I.fr.keep) hcd) (by show dp < recursionLimit; lia) (BindsTo.of_eq (hb rs hrl)) (zip_loc P.loc rs) ?_ P.cell P.co P.gen P.kind
  intro g L' h₁ FG F' N' B' st hlt
  let f' : Fm := { dp := dp + 1, un := un + 3, cn := qual, cs := scope, L := L', a := fa, ccd := cdv, cl := [], outer := f.env :: f.outer, A₀ := { handled := none, depth := dp, frames := some (f.env :: f.outer), guards := some [], units := un }, base := f.base, h₀ := g }
  have ok' : Fm.Ok f' c d scope := ⟨B', ok.X.keeps st, ok.T.keeps st, rfl, P.kind, by show dp + 1 + d < _; exact hd, by show un + 3 + 8 * d + 200 < _; exact hu, by
    obtain ⟨o, e, r⟩ := ok.scr
    exact ⟨o, st _ _ e, r⟩, ok.sin⟩
  have I' : Inv f' (fun y => (ps.zip rs).reverse.lookup y) N h₁ σ := ⟨F', N', I.st⟩
  have PR := (PRel.zip ps V).reverse
  have R' : LRel f' (fun y => (ps.zip rs).reverse.lookup y) N (ps.zip vs).reverse := fun x v e => by
    obtain ⟨r, hr, hv⟩ := PR.lookup e
    obtain ⟨r', hr'⟩ := PR.mem e
    exact .loc (zip_loc P.loc rs _ (List.mem_reverse.mp hr')) hr hv
  refine wpAny_mono (H f' _ N { s with heap := h₁, toks := s.toks + (ps.zip rs).length } (fun fl s' => LeaveK f.h₀ f.L m g R (match fl with | .ret v => v | _ => .none) s') ok' I' R' ?_) (fun _ _ x => x) fun _ _ x => x.elim
  intro gg fl ρ₂ σ₂ m₂ h₂ N₂ tk₂ q V₂ X₂ I₂ R₂
  refine leaveK_ I₂.fr I₂.nw fun F₃ N₃ => ?_
  have I₃ : Inv f m N₂ h₂ σ₂ := ⟨F₃, N₃, I₂.st⟩
  cases V₂ with
  | next => exact k _ _ _ h₂ N₂ tk₂ q .none X₂ I₃
  | cont => exact k _ _ _ h₂ N₂ tk₂ q .none X₂ I₃
  | ret V₂ => exact k _ _ _ h₂ N₂ tk₂ q V₂ X₂ I₃

theorem WC_def {fa : Addr} {ps : List Str} {body : List Stmt} {scope : Scope} {vs : List Val} (D : FunAt c fa ps body scope) (P : PlainScope ps scope) (hlen : vs.length = ps.length) (H : WS c d scope body (ps.zip vs).reverse σ (fun fl _ σ' => Q fl.val σ')) :
    WC c (d + 1) fa vs σ Q := by
  intro cs f m N s QC rs ok I V k
  refine wpAny_call (enter (d := d) (dp := f.dp) (un := f.un) ok I D P rfl (by have := ok.room; lia) (by have := ok.units; lia) V hlen H ?_)
  intro r v σ' h' N' tk' q V' X I'
  exact k r v σ' h' N' tk' q V' X I'
/-- more room does no harm -/
theorem WC.up {fa : Addr} {vs : List Val} {d d' : Nat} (h : WC c d fa vs σ Q) (hd : d ≤ d') : WC c d' fa vs σ Q := fun cs f m N s QC rs ok I V k =>
  h cs f m N s QC rs ⟨ok.B, ok.X, ok.T, ok.hcs, ok.kind, by have := ok.room; lia, by have := ok.units; lia, ok.scr, ok.sin⟩ I V k
theorem WC.mono {fa : Addr} {vs : List Val} {Q' : Val → Store → Prop} (h : WC c d fa vs σ Q) (hq : ∀ v σ', Q v σ' → Q' v σ') : WC c d fa vs σ Q' := fun cs f m N s QC rs ok I V k =>
  h cs f m N s QC rs ok I V fun r v σ' h' N' tk' q => k r v σ' h' N' tk' (hq v σ' q)

/- an object is made: its class's __init__ runs upon it -/
structure ClsAt (c : Cx) (C : Addr) (fi : Addr) : Prop where
  makes : makesIn c.K C = true
  init : findIn c.K (.ref C) "__init__" = some (some (.ref fi))
  isf : isFn c.K (.ref fi) = true
theorem st_newInst {f : Fm} {m : Str → Option Value} {N : Led} {h h' : Heap} {x dx C : Addr} (I : Inv f m N h σ) (F : Fr f.h₀ f.L h' m) (nw : News f.h₀ f.L h' ((x, instObj C dx) :: (dx, dictOf [] 0) :: N)) (hl : ∀ p ∈ N, p.1 < dx) (hx : dx < x) :
    σ x = none ∧ Ext N ((x, instObj C dx) :: (dx, dictOf [] 0) :: N) ∧ Inv f m ((x, instObj C dx) :: (dx, dictOf [] 0) :: N) h' (σ.set x (.inst C dx [])) := by
  have up : ∀ b c, σ b = some c → b < dx := fun b c e => by
    obtain ⟨o, ho⟩ := I.on e
    exact hl _ ho
  have h0 : σ x = none := by
    cases e : σ x with
    | none => rfl
    | some c => exact absurd (Nat.lt_trans hx (up x c e)) (Nat.lt_irrefl _)
  have sub : ∀ p ∈ N, p ∈ (x, instObj C dx) :: (dx, dictOf [] 0) :: N := fun p hp => List.mem_cons_of_mem _ (List.mem_cons_of_mem _ hp)
  have S := I.st.sup sub
  refine ⟨h0, Ext.of_sub sub, F, nw, ⟨fun b c e => ?_, fun b b' C₁ C' dx' gs gs' e e' => ?_, fun b C₁ dx' gs o e e' => ?_⟩⟩
  · by_cases hb : b = x
    · subst hb
      rw [Store.set_same] at e
      cases e
      exact ⟨[], 0, List.mem_cons_self, List.mem_cons_of_mem _ List.mem_cons_self, .nil⟩
    · rw [Store.set_ne hb] at e
      exact S.cell b c e
  · have g : ∀ z C₁ dx₁ gs, σ.set x (.inst C dx []) z = some (.inst C₁ dx₁ gs) → (z = x ∧ dx₁ = dx) ∨ (z ≠ x ∧ σ z = some (.inst C₁ dx₁ gs)) := fun z C₁ dx₁ gs q => by
      by_cases hz : z = x
      · subst hz; rw [Store.set_same] at q; cases q; exact .inl ⟨rfl, rfl⟩
      · rw [Store.set_ne hz] at q; exact .inr ⟨hz, q⟩
    have old : ∀ z C₁ dx₁ gs, σ z = some (.inst C₁ dx₁ gs) → dx₁ ≠ dx := fun z C₁ dx₁ gs q e => by
      obtain ⟨es, n, h1, h2, hr⟩ := I.st.cell z _ q
      have := hl _ h2
      rw [e] at this
      exact absurd this (Nat.lt_irrefl _)
    rcases g _ _ _ _ e with ⟨a1, a2⟩ | ⟨a1, a2⟩ <;> rcases g _ _ _ _ e' with ⟨b1, b2⟩ | ⟨b1, b2⟩
    · rw [a1, b1]
    · exact absurd a2 (old _ _ _ _ b2)
    · exact absurd b2 (old _ _ _ _ a2)
    · exact I.st.inj _ _ _ _ _ _ _ a2 b2
  · have k2 : σ dx' = some (.raw o) := by
      by_cases hz : dx' = x
      · subst hz; rw [Store.set_same] at e'; cases e'
      · rwa [Store.set_ne hz] at e'
    by_cases hz : b = x
    · subst hz; rw [Store.set_same] at e; cases e
      exact absurd (up _ _ k2) (Nat.lt_irrefl _)
    · rw [Store.set_ne hz] at e
      exact I.st.off _ _ _ _ _ e k2
theorem WC_cls {C fi : Addr} {ps : List Str} {body : List Stmt} {scope : Scope} {vs : List Val} (K : ClsAt c C fi) (D : FunAt c fi ps body scope) (P : PlainScope ps scope) (hlen : vs.length + 1 = ps.length)
    (H : ∀ x dx, σ x = none → WS c d scope body (ps.zip (.ref x :: vs)).reverse (σ.set x (.inst C dx [])) (fun fl _ σ' => fl.val = .none ∧ Q (.ref x) σ')) : WC c (d + 2) C vs σ Q := by
  intro cs f m N s QC rs ok I V k
  refine call_cls I.fr ok.X I.nw K.makes K.init K.isf (fun x dx h' F' nw' l1 l2 => ?_)
  obtain ⟨h0, X, I'⟩ := st_newInst I F' nw' l1 l2
  refine enter (Qr := fun v σ' => v = .none ∧ Q (.ref x) σ') (d := d) (dp := f.dp + 1) (un := f.un + 1) (s := { s with heap := h' }) (A := f.around.under (.builtin "type.__call__" ⟨.ref C :: rs, []⟩)) ok I' D P rfl (by have := ok.room; lia) (by have := ok.units; lia) (.cons (.ref x) (V.ext X)) (by simpa using hlen) (H x dx h0) ?_
  rintro r v σ' h₂ N₂ tk₂ ⟨hv, q⟩ V₂ X₂ I₂
  subst hv
  cases V₂ with | none =>
  exact ⟨rfl, k _ _ σ' h₂ N₂ tk₂ q (.ref x) (X.trans X₂) I₂⟩
end

/-! the trees that the law draws, and the orders, as plain data -/
inductive Nm | A | B | Z | X
inductive B3 | add | mul | or
inductive B2 | dot | dol
inductive U5 | not | ask | neg | del | cur
noncomputable def Nm.s : Nm → Str
  | .A => "A" | .B => "B" | .Z => "Z" | .X => "X"
noncomputable def B3.s : B3 → Str
  | .add => "+" | .mul => "*" | .or => "|"
noncomputable def B2.s : B2 → Str
  | .dot => "." | .dol => "$"
noncomputable def U5.s : U5 → Str
  | .not => "~" | .ask => "?" | .neg => "-" | .del => "*" | .cur => "@"
mutual
inductive Tr where
  | name (x : Nm)
  | whole (n : Fin 10)
  | text
  | null
  | join (l r : Tr)
  | bin (op : B3) (l r : Tr)
  | call0
  | call1 (a : Tr)
  | call2 (a b : Tr)
  | give (op : B2) (l : Tr) (g : Go)
  | una (op : U5) (g : Go)
  | goal (g : Go)
inductive Go where
  | item (a b : Tr)
  | ind (a : Tr)
  | key
  | callG (a : Tr)
  | name (x : Nm)
end
mutual
noncomputable def Tr.val : Tr → Val
  | .name x => .tup [.str "name", .str x.s]
  | .whole n => .tup [.str "whole", .int (n.val : Nat)]
  | .text => .tup [.str "text", .str "t"]
  | .null => .tup [.str "null"]
  | .join l r => .tup [.str "join", l.val, r.val]
  | .bin op l r => .tup [.str "binary", .str op.s, l.val, r.val]
  | .call0 => .tup [.str "call", .str "F", .tup []]
  | .call1 a => .tup [.str "call", .str "F", .tup [a.val]]
  | .call2 a b => .tup [.str "call", .str "F", .tup [a.val, b.val]]
  | .give op l g => .tup [.str "binary", .str op.s, l.val, g.val]
  | .una op g => .tup [.str "unary", .str op.s, g.val]
  | .goal g => g.val
noncomputable def Go.val : Go → Val
  | .item a b => .tup [.str "item", a.val, .tup [b.val]]
  | .ind a => .tup [.str "unary", .str "$", a.val]
  | .key => .tup [.str "unary", .str "&", .tup [.str "name", .str "K"]]
  | .callG a => .tup [.str "call", .str "G", .tup [a.val]]
  | .name x => .tup [.str "name", .str x.s]
end
mutual
noncomputable def Tr.h : Tr → Nat
  | .join l r | .bin _ l r | .call2 l r => max l.h r.h + 1
  | .call1 a => a.h + 1
  | .give _ l g => max l.h g.h + 1
  | .una _ g | .goal g => g.h + 1
  | _ => 0
noncomputable def Go.h : Go → Nat
  | .item a b => max a.h b.h + 1
  | .ind a | .callG a => a.h + 1
  | _ => 0
end
inductive PV | txt (s : Str) | num (n : Fin 10)
noncomputable def PV.val : PV → Val
  | .txt s => .str s
  | .num n => .int (n.val : Nat)
inductive Fn | F | G
noncomputable def Fn.s : Fn → Str
  | .F => "F" | .G => "G"
inductive Ord where
  | push (v : PV)
  | var (x : Nm)
  | ref (x : Nm)
  | kw
  | call (f : Fn) (n : Nat) (b : Bool)
  | item (b : Bool)
  | indirect | value
  | delayed (g : Go)
  | cursor | neg | join
  | bin (op : B3)
  | given (op : B2)
  | drop
  | guard (n : Nat)
  | unguard | fail | double | mtch | assign | replace
noncomputable def Ord.val : Ord → Val
  | .push v => .tup [.str "PUSH", v.val]
  | .var x => .tup [.str "VAR", .str x.s]
  | .ref x => .tup [.str "REF", .str x.s]
  | .kw => .tup [.str "KEYWORD", .str "K"]
  | .call f n b => .tup [.str "CALL", .str f.s, .int n, .bool b]
  | .item b => .tup [.str "ITEM", .int 1, .bool b]
  | .indirect => .tup [.str "INDIRECT"]
  | .value => .tup [.str "VALUE"]
  | .delayed g => .tup [.str "DELAYED", g.val]
  | .cursor => .tup [.str "CURSOR"]
  | .neg => .tup [.str "UNARY", .str "-"]
  | .join => .tup [.str "JOIN"]
  | .bin op => .tup [.str "BINARY", .str op.s]
  | .given op => .tup [.str "GIVEN", .str op.s]
  | .drop => .tup [.str "DROP"]
  | .guard n => .tup [.str "GUARD", .int n]
  | .unguard => .tup [.str "UNGUARD"]
  | .fail => .tup [.str "FAIL"]
  | .double => .tup [.str "DOUBLE"]
  | .mtch => .tup [.str "MATCH"]
  | .assign => .tup [.str "ASSIGN"]
  | .replace => .tup [.str "REPLACE"]
mutual
/-- the orders of a tree's value -/
noncomputable def vo : Tr → List Ord
  | .name x => [.var x]
  | .whole n => [.push (.num n)]
  | .text => [.push (.txt "t")]
  | .null => [.push (.txt "")]
  | .join l r => (vo l ++ vo r) ++ [.join]
  | .bin op l r => (vo l ++ vo r) ++ [.bin op]
  | .call0 => [] ++ [.call .F 0 false]
  | .call1 a => ([] ++ vo a) ++ [.call .F 1 false]
  | .call2 a b => (([] ++ vo a) ++ vo b) ++ [.call .F 2 false]
  | .give op l g => (vo l ++ ng g) ++ [.given op]
  | .una .not g => ([.guard ((vg g).length + 3)] ++ vg g) ++ [.unguard, .fail, .push (.txt "")]
  | .una .ask g => vg g ++ [.drop, .push (.txt "")]
  | .una .neg g => vg g ++ [.neg]
  | .una .del g => [.delayed g]
  | .una .cur g => ng g ++ [.cursor]
  | .goal g => vg g
/-- the orders of a goal's value -/
noncomputable def vg : Go → List Ord
  | .item a b => (vo a ++ ([] ++ vo b)) ++ [.item false]
  | .ind a => vo a ++ [.indirect, .value]
  | .key => [.kw] ++ [.value]
  | .callG a => ([] ++ vo a) ++ [.call .G 1 false]
  | .name x => [.var x]
/-- the orders of a goal's name -/
noncomputable def ng : Go → List Ord
  | .item a b => (vo a ++ ([] ++ vo b)) ++ [.item true]
  | .ind a => vo a ++ [.indirect]
  | .key => [.kw]
  | .callG a => ([] ++ vo a) ++ [.call .G 1 true]
  | .name x => [.ref x]
end

noncomputable def topAt (i : Nat) : Option Stmt := PySem.Challenge.pw_np0293_01.main.body[i]?
noncomputable def defParts : Option Stmt → List Stmt × Scope × List Str
  | some (.FunctionDef _ a b _ _ _ sc _ _ _) => (b, sc, a.args.map (·.arg))
  | _ => ([], default, [])
noncomputable def initOf : Option Stmt → Option Stmt
  | some (.ClassDef _ _ _ b _ _ _ _ _ _ _) => b.find? fun st => match st with | .FunctionDef n .. => n == ("__init__" : Str) | _ => false
  | _ => none
noncomputable def bodyAt (i : Nat) : List Stmt := (defParts (topAt i)).1
noncomputable def scopeAt (i : Nat) : Scope := (defParts (topAt i)).2.1
noncomputable def paramsAt (i : Nat) : List Str := (defParts (topAt i)).2.2
noncomputable def bodyI (i : Nat) : List Stmt := (defParts (initOf (topAt i))).1
noncomputable def scopeI (i : Nat) : Scope := (defParts (initOf (topAt i))).2.1

/-- what is known of the text's top: where its defs, its classes and the built-in names are -/
structure Facts (c : Cx) (A : Nat → Addr) : Prop where
  f4 : DefAt c "value_orders" (A 4) ["tree"] (bodyAt 4) (scopeAt 4)
  f5 : DefAt c "row_orders" (A 5) ["trees"] (bodyAt 5) (scopeAt 5)
  f6 : DefAt c "unary_orders" (A 6) ["op", "tree"] (bodyAt 6) (scopeAt 6)
  f7 : DefAt c "binary_orders" (A 7) ["op", "left", "right"] (bodyAt 7) (scopeAt 7)
  f8 : DefAt c "name_orders" (A 8) ["tree"] (bodyAt 8) (scopeAt 8)
  f9 : DefAt c "body_orders" (A 9) ["statement"] (bodyAt 9) (scopeAt 9)
  f10 : DefAt c "goto_orders" (A 10) ["go"] (bodyAt 10) (scopeAt 10)
  f11 : DefAt c "compile_statement" (A 11) ["statement"] (bodyAt 11) (scopeAt 11)
  f12 : DefAt c "depth_of" (A 12) ["orders"] (bodyAt 12) (scopeAt 12)
  f13 : DefAt c "change_of" (A 13) ["order"] (bodyAt 13) (scopeAt 13)
  f17 : DefAt c "_law_take" (A 17) ["box", "many"] (bodyAt 17) (scopeAt 17)
  f18 : DefAt c "_law_total" (A 18) ["script"] (bodyAt 18) (scopeAt 18)
  f19 : DefAt c "_law_tree" (A 19) ["box", "deep"] (bodyAt 19) (scopeAt 19)
  f20 : DefAt c "_law_goal" (A 20) ["box", "deep"] (bodyAt 20) (scopeAt 20)
  f21 : DefAt c "_law_value" (A 21) ["tree", "notes"] (bodyAt 21) (scopeAt 21)
  f22 : DefAt c "_law_several" (A 22) ["trees", "notes"] (bodyAt 22) (scopeAt 22)
  f23 : DefAt c "_law_name" (A 23) ["tree", "notes", "as_name"] (bodyAt 23) (scopeAt 23)
  f24 : DefAt c "_law_pops" (A 24) ["stack", "many"] (bodyAt 24) (scopeAt 24)
  f25 : DefAt c "_law_done" (A 25) ["order", "stack", "notes"] (bodyAt 25) (scopeAt 25)
  f26 : DefAt c "_law_run" (A 26) ["orders", "notes"] (bodyAt 26) (scopeAt 26)
  f27 : DefAt c "_law_statement" (A 27) ["box", "form"] (bodyAt 27) (scopeAt 27)
  f28 : DefAt c "_law_events" (A 28) ["statement", "notes"] (bodyAt 28) (scopeAt 28)
  f29 : DefAt c "_law_gotos_right" (A 29) ["statement"] (bodyAt 29) (scopeAt 29)
  k15 : ClsAt c (A 15) (A 115)
  i15 : FunAt c (A 115) ["self", "line", "text"] (bodyI 15) (scopeI 15)
  n15 : nsIn c.K mainGlobals "Statement" = some (some (.ref (A 15)))
  p15 : keepIn c.K (.ref (A 15)) = true
  a15 : ∀ x ∈ (["label", "subject", "pattern", "is_replaced", "replacement", "go_success", "go_failure", "go_always", "line", "text"] : List Str), ClsF c.K (A 15) x
  k3 : ClsAt c (A 3) (A 103)
  i3 : FunAt c (A 103) ["self", "label", "body", "success", "failure", "line"] (bodyI 3) (scopeI 3)
  n3 : nsIn c.K mainGlobals "Compiled" = some (some (.ref (A 3)))
  p3 : keepIn c.K (.ref (A 3)) = true
  a3 : ∀ x ∈ (["label", "body", "success", "failure", "line"] : List Str), ClsF c.K (A 3) x
  blen : nsIn c.K mainGlobals "len" = some none
  brepr : nsIn c.K mainGlobals "repr" = some none
  bmax : nsIn c.K mainGlobals "max" = some none
  babs : nsIn c.K mainGlobals "abs" = some none
  brange : nsIn c.K mainGlobals "range" = some none
  btuple : nsIn c.K mainGlobals "tuple" = some none
  blist : nsIn c.K mainGlobals "list" = some none
  bstr : nsIn c.K mainGlobals "str" = some none
  bint : nsIn c.K mainGlobals "int" = some none

section
variable {c : Cx} {d : Nat} {cs : Scope}
variable {ρ : LEnv} {σ : Store} {Q : Fl → LEnv → Store → Prop}
theorem Seq_next {rest : List Stmt} (h : WS c d cs rest ρ σ Q) : Seq c d cs rest Q .next ρ σ := h
theorem Seq_ret {rest : List Stmt} {v : Val} (h : Q (.ret v) ρ σ) : Seq c d cs rest Q (.ret v) ρ σ := h
theorem Seq_cont {rest : List Stmt} (h : Q .cont ρ σ) : Seq c d cs rest Q .cont ρ σ := h
theorem Ways.yes {b : Bool} {t e : Prop} (hb : b = true) (h : t) : Ways b t e := ⟨fun _ => h, fun q => (by rw [hb] at q; cases q)⟩
theorem Ways.no {b : Bool} {t e : Prop} (hb : b = false) (h : e) : Ways b t e := ⟨fun q => (by rw [hb] at q; cases q), fun _ => h⟩
end
/-- all that stood stands -/
noncomputable def Keep (σ σ' : Store) : Prop := ∀ a c, σ a = some c → σ' a = some c
theorem Keep.refl (σ : Store) : Keep σ σ := fun _ _ h => h
theorem Keep.trans {σ₁ σ₂ σ₃ : Store} (h : Keep σ₁ σ₂) (k : Keep σ₂ σ₃) : Keep σ₁ σ₃ := fun a c e => k a c (h a c e)
theorem Keep.new {σ : Store} {a : Addr} {c : Cell} (h : σ a = none) : Keep σ (σ.set a c) := fun b x e => by
  rw [Store.set_ne]; exact e
  intro q; rw [q, h] at e; cases e
theorem Store.old {σ : Store} {a b : Addr} {c x : Cell} (h : σ a = none) (e : σ b = some x) : (σ.set a c) b = some x := Keep.new h b x e
theorem Keep.noneOf {σ σ' : Store} (k : Keep σ σ') {a : Addr} (h : σ' a = none) : σ a = none := by
  cases e : σ a with
  | none => rfl
  | some c => rw [k a c e] at h; cases h
/-- all but one list -/
noncomputable def KeepBut (n : Addr) (σ σ' : Store) : Prop := ∀ a c, a ≠ n → σ a = some c → σ' a = some c
theorem Keep.but {n : Addr} {σ σ' : Store} (k : Keep σ σ') : KeepBut n σ σ' := fun a c _ e => k a c e
theorem KeepBut.trans {n : Addr} {σ₁ σ₂ σ₃ : Store} (h : KeepBut n σ₁ σ₂) (k : KeepBut n σ₂ σ₃) : KeepBut n σ₁ σ₃ := fun a c q e => k a c q (h a c q e)
theorem KeepBut.set {n : Addr} {σ : Store} {c : Cell} : KeepBut n σ (σ.set n c) := fun a x q e => by rw [Store.set_ne q]; exact e
theorem KeepBut.refl (n : Addr) (σ : Store) : KeepBut n σ σ := fun _ _ _ h => h
noncomputable def IsL (σ : Store) (l : Addr) (vs : List Val) : Prop := ∃ o, σ l = some (.list vs o)
theorem IsL.set {σ : Store} {l : Addr} {vs ws : List Val} {o : Obj} (e : vs = ws) : IsL (σ.set l (.list vs o)) l ws := ⟨o, e ▸ Store.set_same⟩
theorem IsL.keep {σ σ' : Store} {l : Addr} {vs : List Val} (h : IsL σ l vs) (k : Keep σ σ') : IsL σ' l vs := let ⟨o, e⟩ := h; ⟨o, k _ _ e⟩
theorem Keep.upd {σ σ' : Store} {l : Addr} {c : Cell} (k : Keep σ σ') (h : σ l = none) : Keep σ (σ'.set l c) := fun a x e => by
  rw [Store.set_ne]; exact k a x e
  intro q; rw [q, h] at e; cases e
/-- a name of the frame and what it holds -/
noncomputable def At (ρ : LEnv) (x : Str) (v : Val) : Prop := ρ.lookup x = some v
noncomputable def fnIdx : List (Str × Nat) := [("value_orders", 4), ("row_orders", 5), ("unary_orders", 6), ("binary_orders", 7), ("name_orders", 8), ("body_orders", 9), ("goto_orders", 10), ("compile_statement", 11), ("depth_of", 12), ("change_of", 13), ("_law_take", 17), ("_law_total", 18), ("_law_tree", 19), ("_law_goal", 20), ("_law_value", 21), ("_law_several", 22), ("_law_name", 23), ("_law_pops", 24), ("_law_done", 25), ("_law_run", 26), ("_law_statement", 27), ("_law_events", 28), ("_law_gotos_right", 29), ("Statement", 15), ("Compiled", 3)]
theorem lookup_mem {α : Type} {x : Str} {i : α} : ∀ {l : List (Str × α)}, l.lookup x = some i → (x, i) ∈ l
  | [], h => by cases h
  | (y, j) :: l, h => by
    rw [List.lookup_cons] at h
    cases e : x == y with
    | true => rw [e] at h; cases h; rw [eq_of_beq e]; exact List.mem_cons_self
    | false => rw [e] at h; exact List.mem_cons_of_mem _ (lookup_mem h)
theorem Facts.all {c : Cx} {A : Nat → Addr} (F : Facts c A) : ∀ p ∈ fnIdx, nsIn c.K mainGlobals p.1 = some (some (.ref (A p.2))) ∧ keepIn c.K (.ref (A p.2)) = true :=
  List.forall_mem_cons.mpr ⟨⟨F.f4.ns, F.f4.keep⟩, List.forall_mem_cons.mpr ⟨⟨F.f5.ns, F.f5.keep⟩, List.forall_mem_cons.mpr ⟨⟨F.f6.ns, F.f6.keep⟩, List.forall_mem_cons.mpr ⟨⟨F.f7.ns, F.f7.keep⟩, List.forall_mem_cons.mpr ⟨⟨F.f8.ns, F.f8.keep⟩, List.forall_mem_cons.mpr ⟨⟨F.f9.ns, F.f9.keep⟩, List.forall_mem_cons.mpr ⟨⟨F.f10.ns, F.f10.keep⟩, List.forall_mem_cons.mpr ⟨⟨F.f11.ns, F.f11.keep⟩, List.forall_mem_cons.mpr ⟨⟨F.f12.ns, F.f12.keep⟩, List.forall_mem_cons.mpr ⟨⟨F.f13.ns, F.f13.keep⟩, List.forall_mem_cons.mpr ⟨⟨F.f17.ns, F.f17.keep⟩, List.forall_mem_cons.mpr ⟨⟨F.f18.ns, F.f18.keep⟩, List.forall_mem_cons.mpr ⟨⟨F.f19.ns, F.f19.keep⟩, List.forall_mem_cons.mpr ⟨⟨F.f20.ns, F.f20.keep⟩, List.forall_mem_cons.mpr ⟨⟨F.f21.ns, F.f21.keep⟩, List.forall_mem_cons.mpr ⟨⟨F.f22.ns, F.f22.keep⟩, List.forall_mem_cons.mpr ⟨⟨F.f23.ns, F.f23.keep⟩, List.forall_mem_cons.mpr ⟨⟨F.f24.ns, F.f24.keep⟩, List.forall_mem_cons.mpr ⟨⟨F.f25.ns, F.f25.keep⟩, List.forall_mem_cons.mpr ⟨⟨F.f26.ns, F.f26.keep⟩, List.forall_mem_cons.mpr ⟨⟨F.f27.ns, F.f27.keep⟩, List.forall_mem_cons.mpr ⟨⟨F.f28.ns, F.f28.keep⟩, List.forall_mem_cons.mpr ⟨⟨F.f29.ns, F.f29.keep⟩, List.forall_mem_cons.mpr ⟨⟨F.n15, F.p15⟩, List.forall_mem_cons.mpr ⟨⟨F.n3, F.p3⟩, fun _ h => (List.not_mem_nil h).elim⟩⟩⟩⟩⟩⟩⟩⟩⟩⟩⟩⟩⟩⟩⟩⟩⟩⟩⟩⟩⟩⟩⟩⟩⟩
theorem Facts.biB {c : Cx} {A : Nat → Addr} (F : Facts c A) {x : Str} (h : (["len", "max", "repr", "abs"] : List Str).contains x = true) : nsIn c.K mainGlobals x = some none := by
  have : ∀ x ∈ (["len", "max", "repr", "abs"] : List Str), nsIn c.K mainGlobals x = some none := List.forall_mem_cons.mpr ⟨F.blen, List.forall_mem_cons.mpr ⟨F.bmax, List.forall_mem_cons.mpr ⟨F.brepr, List.forall_mem_cons.mpr ⟨F.babs, fun _ h => (List.not_mem_nil h).elim⟩⟩⟩⟩
  exact this x (List.contains_iff_mem.mp h)
theorem Facts.biT {c : Cx} {A : Nat → Addr} (F : Facts c A) {x : Str} (h : (["str", "int", "list", "tuple"] : List Str).contains x = true) : nsIn c.K mainGlobals x = some none := by
  have : ∀ x ∈ (["str", "int", "list", "tuple"] : List Str), nsIn c.K mainGlobals x = some none := List.forall_mem_cons.mpr ⟨F.bstr, List.forall_mem_cons.mpr ⟨F.bint, List.forall_mem_cons.mpr ⟨F.blist, List.forall_mem_cons.mpr ⟨F.btuple, fun _ h => (List.not_mem_nil h).elim⟩⟩⟩⟩
  exact this x (List.contains_iff_mem.mp h)
section
variable {c : Cx} {d : Nat} {cs : Scope}
variable {ρ : LEnv} {σ : Store} {Q : Val → Store → Prop}
theorem WE_callF {A : Nat → Addr} (F : Facts c A) {x : Str} {np p : Pos} {i : Nat} {a : Expr} {as : List Expr} (e : fnIdx.lookup x = some i) (h : WL c d cs p (a :: as) ρ σ (KCall c d (A i) Q))
    (hx : cs.names.lookup x = some .globalImplicit := by rfl) (hd : (x == ("__debug__" : Str)) = false := by decide)
    (hc : ∀ env, eval (.Call (.Name x np) (a :: as) [] p) env = (do callWith p (← eval (.Name x np) env) [] (backTo p (starEach (a :: as) env)) (backToKw p (keywordEach [] env))) := by intro _; rfl)
    (he : ∀ env, starEach (a :: as) env = (false, eval a env) :: starEach as env := by intro _; rfl) (hp : ∀ env, (backTo p (starEach as env)).any (·.1) = false := by intro _; rfl) : WE c d cs (.Call (.Name x np) (a :: as) [] p) ρ σ Q :=
  WE_callD (F.all _ (lookup_mem e)).1 (F.all _ (lookup_mem e)).2 h hx hd hc he hp
end
theorem seq_nat {α : Type} {xs : List α} {i : Nat} (h : i < xs.length) : seqIndex? (i : Int) xs.length = some i := by
  unfold seqIndex?
  simp only [Int.not_lt.mpr (Int.natCast_nonneg i), if_false]
  simp [h]
def mkF (f : String → Lean.MacroM (Lean.TSyntax `tactic)) : List String → Lean.MacroM (Lean.TSyntax `tactic)
  | [] => `(tactic| fail)
  | x :: xs => do
    let a ← f x
    let b ← mkF f xs
    `(tactic| first | $a:tactic | $b:tactic)
def mkR (x : String) : Lean.MacroM (Lean.TSyntax `tactic) := `(tactic| with_reducible refine $(Lean.mkIdent (.mkStr `Mine x)) ?_)

/-! the law's own reading of a tree: notes and a value -/
inductive Note where
  | read (x : Nm)
  | value (s : Str)
  | call (k nm : Str) (args : List Str) (b : Bool)
  | done (w : Str) (args : List Str)
noncomputable abbrev Rv := List Note × Option Str
noncomputable abbrev Rs := List Note × Option (List Str)
noncomputable def Rv.bind (r : Rv) (f : Str → Rv) : Rv := match r.2 with
  | none => (r.1, none)
  | some s => (r.1 ++ (f s).1, (f s).2)
noncomputable def Rv.map (r : Rv) (f : Str → Str) : Rv := match r.2 with
  | none => (r.1, none)
  | some s => (r.1, some (f s))
noncomputable def Rs.nil : Rs := ([], some [])
noncomputable def Rs.snoc (r : Rs) (v : Rv) : Rs := match r.2 with
  | none => (r.1, none)
  | some l => match v.2 with
    | none => (r.1 ++ v.1, none)
    | some s => (r.1 ++ v.1, some (l ++ [s]))
noncomputable def callStr (b : Bool) (nm : Str) (args : List Str) : Str := (if b = true then (".." : Str) else "") ++ nm ++ "<" ++ Txt.join "," args ++ ">"
noncomputable def Rs.call (r : Rs) (k nm shown : Str) (b : Bool) : Rv := match r.2 with
  | none => (r.1, none)
  | some l => (r.1 ++ [.call k nm l b], some (callStr b shown l))
noncomputable def readR (x : Nm) : Rv := ([.read x], match x with | .Z => none | _ => some x.s)
mutual
noncomputable def Tr.data : Tr → PyData
  | .name x => .tuple [.str "name", .str x.s]
  | .whole n => .tuple [.str "whole", .int (n.val : Nat)]
  | .text => .tuple [.str "text", .str "t"]
  | .null => .tuple [.str "null"]
  | .join l r => .tuple [.str "join", l.data, r.data]
  | .bin op l r => .tuple [.str "binary", .str op.s, l.data, r.data]
  | .call0 => .tuple [.str "call", .str "F", .tuple []]
  | .call1 a => .tuple [.str "call", .str "F", .tuple [a.data]]
  | .call2 a b => .tuple [.str "call", .str "F", .tuple [a.data, b.data]]
  | .give op l g => .tuple [.str "binary", .str op.s, l.data, g.data]
  | .una op g => .tuple [.str "unary", .str op.s, g.data]
  | .goal g => g.data
noncomputable def Go.data : Go → PyData
  | .item a b => .tuple [.str "item", a.data, .tuple [b.data]]
  | .ind a => .tuple [.str "unary", .str "$", a.data]
  | .key => .tuple [.str "unary", .str "&", .tuple [.str "name", .str "K"]]
  | .callG a => .tuple [.str "call", .str "G", .tuple [a.data]]
  | .name x => .tuple [.str "name", .str x.s]
end
/-- a goal's value, from its name's reading -/
noncomputable def egOf (r : Rv) : Go → Rv
  | .name x => readR x
  | .ind _ | .key => r.bind fun s => ([.value s], some s)
  | _ => r
mutual
noncomputable def ev : Tr → Rv
  | .name x => readR x
  | .whole n => ([], some (Str.ofString (toString ((n.val : Nat) : Int))))
  | .text => ([], some "t")
  | .null => ([], some "")
  | .join l r => (ev l).bind fun a => (ev r).map fun b => "(" ++ a ++ " " ++ b ++ ")"
  | .bin op l r => (ev l).bind fun a => (ev r).map fun b => "(" ++ a ++ op.s ++ b ++ ")"
  | .call0 => Rs.nil.call "call" "F" "F" false
  | .call1 a => (Rs.nil.snoc (ev a)).call "call" "F" "F" false
  | .call2 a b => ((Rs.nil.snoc (ev a)).snoc (ev b)).call "call" "F" "F" false
  | .give op l g => (ev l).bind fun a => (en true g).map fun b => "(" ++ a ++ op.s ++ b ++ ")"
  | .una .not g => ((egOf (en false g) g).1, match (egOf (en false g) g).2 with | none => some "" | some _ => none)
  | .una .ask g => (egOf (en false g) g).map fun _ => ""
  | .una .neg g => (egOf (en false g) g).map fun a => "(-" ++ a ++ ")"
  | .una .del g => ([], some ("*" ++ g.data.shown))
  | .una .cur g => (en true g).map fun a => "(@" ++ a ++ ")"
  | .goal g => egOf (en false g) g
noncomputable def en (b : Bool) : Go → Rv
  | .item x y => ((Rs.nil.snoc (ev x)).snoc (ev y)).call "item" "" "item" b
  | .ind a => (ev a).map fun s => "$" ++ s
  | .key => ([], some ("&" ++ "K"))
  | .callG a => (Rs.nil.snoc (ev a)).call "call" "G" "G" b
  | .name x => ([], some ("." ++ x.s))
end
noncomputable def eg (g : Go) : Rv := egOf (en false g) g
mutual
noncomputable def wt : Tr → Nat
  | .join l r | .bin _ l r | .call2 l r => wt l + wt r + 40
  | .call1 a => wt a + 40
  | .give _ l g => wt l + wg g + 40
  | .una _ g => wg g + 40
  | .goal g => wg g + 40
  | _ => 40
noncomputable def wg : Go → Nat
  | .item a b => wt a + wt b + 40
  | .ind a | .callG a => wt a + 40
  | _ => 40
end
theorem pow_split {a b h W : Nat} (ha : a + 40 ≤ 40 * 2 ^ (h + 1)) (hb : b + 40 ≤ 40 * 2 ^ (h + 1)) (e : W ≤ a + b + 40) : W + 40 ≤ 40 * 2 ^ (h + 2) := by
  rw [Nat.pow_succ 2 (h + 1)]; lia
theorem pow_up {a h h' : Nat} (ha : a + 40 ≤ 40 * 2 ^ (h + 1)) (e : h ≤ h') : a + 40 ≤ 40 * 2 ^ (h' + 1) := Nat.le_trans ha (Nat.mul_le_mul_left _ (Nat.pow_le_pow_right (by decide) (by lia)))
theorem pow_z {h : Nat} : 40 + 40 ≤ 40 * 2 ^ (h + 1) := pow_up (h := 0) (by decide) (Nat.zero_le _)
mutual
theorem wt_le : ∀ t : Tr, wt t + 40 ≤ 40 * 2 ^ (t.h + 1)
  | .name _ | .whole _ | .text | .null | .call0 => by simp only [wt, Tr.h]; exact pow_z
  | .join l r | .bin _ l r | .call2 l r => by
    simp only [wt, Tr.h]
    exact pow_split (pow_up (wt_le l) (Nat.le_max_left ..)) (pow_up (wt_le r) (Nat.le_max_right ..)) (Nat.le_refl _)
  | .call1 a => by
    simp only [wt, Tr.h]
    exact pow_split (wt_le a) (wt_le a) (by lia)
  | .give _ l g => by
    simp only [wt, Tr.h]
    exact pow_split (pow_up (wt_le l) (Nat.le_max_left ..)) (pow_up (wg_le g) (Nat.le_max_right ..)) (Nat.le_refl _)
  | .una _ g | .goal g => by
    simp only [wt, Tr.h]
    exact pow_split (wg_le g) (wg_le g) (by lia)
theorem wg_le : ∀ g : Go, wg g + 40 ≤ 40 * 2 ^ (g.h + 1)
  | .item a b => by
    simp only [wg, Go.h]
    exact pow_split (pow_up (wt_le a) (Nat.le_max_left ..)) (pow_up (wt_le b) (Nat.le_max_right ..)) (Nat.le_refl _)
  | .ind a | .callG a => by
    simp only [wg, Go.h]
    exact pow_split (wt_le a) (wt_le a) (by lia)
  | .key | .name _ => by simp only [wg, Go.h]; exact pow_z
end
theorem wt_small {t : Tr} (h : t.h ≤ 8) : wt t ≤ 20440 := by
  have h1 := pow_up (wt_le t) h
  have : (40 : Nat) * 2 ^ (8 + 1) = 20480 := by decide
  lia
theorem wg_small {g : Go} (h : g.h ≤ 8) : wg g ≤ 20440 := by
  have h1 := pow_up (wg_le g) h
  have : (40 : Nat) * 2 ^ (8 + 1) = 20480 := by decide
  lia
/- texts that can be laid -/
noncomputable def okS (s : Str) : Prop := PyData.strOk s = true
theorem okS.app {x y : Str} (h : okS x) (k : okS y) : okS (x ++ y) := by
  unfold okS PyData.strOk at *
  rw [Str.cps_append, Array.all_append, h, k]; rfl
theorem okS_join {sep : Str} (hs : okS sep) : ∀ {l : List Str}, (∀ x ∈ l, okS x) → okS (Str.join sep l)
  | [], _ => by show PyData.strOk Str.empty = true; decide +kernel
  | [x], h => h x (by simp)
  | x :: y :: r, h => by
    show okS (x ++ sep ++ Str.join sep (y :: r))
    exact ((h x (by simp)).app hs).app (okS_join hs fun z hz => h z (List.mem_cons_of_mem _ hz))
theorem txt_join (sep : Str) (l : List Str) : Txt.join sep l = Str.join sep l := by
  have := join_plain_closes sep l
  simpa using this
theorem okS_nm (x : Nm) : okS x.s := by cases x <;> (unfold okS; decide +kernel)
theorem len_nm (x : Nm) : x.s.length = 1 := by cases x <;> decide +kernel
theorem okS_b3 (x : B3) : okS x.s := by cases x <;> (unfold okS; decide +kernel)
theorem len_b3 (x : B3) : x.s.length = 1 := by cases x <;> decide +kernel
theorem okS_b2 (x : B2) : okS x.s := by cases x <;> (unfold okS; decide +kernel)
theorem len_b2 (x : B2) : x.s.length = 1 := by cases x <;> decide +kernel
theorem okS_u5 (x : U5) : okS x.s := by cases x <;> (unfold okS; decide +kernel)
theorem len_u5 (x : U5) : x.s.length = 1 := by cases x <;> decide +kernel
mutual
theorem data_ok : ∀ t : Tr, t.data.canLay0 = true ∧ t.data.weight + 1 ≤ wt t ∧ t.data.showable = true ∧ t.data.leavesShort 13 = true ∧ t.data.depth ≤ 2 * t.h + 2
  | .name x => by
    have h1 := okS_nm x; have h2 := len_nm x
    cases x <;> (simp only [Tr.data, wt]; decide +kernel)
  | .whole n => by
    have : ∀ n : Fin 10, (Tr.whole n).data.canLay0 = true ∧ (Tr.whole n).data.weight + 1 ≤ wt (.whole n) ∧ (Tr.whole n).data.showable = true ∧ (Tr.whole n).data.leavesShort 13 = true ∧ (Tr.whole n).data.depth ≤ 2 * (Tr.whole n).h + 2 := by
      simp only [Tr.data, wt, Tr.h]; decide +kernel
    exact this n
  | .text => by simp only [Tr.data, wt]; decide +kernel
  | .null => by simp only [Tr.data, wt]; decide +kernel
  | .call0 => by simp only [Tr.data, wt]; decide +kernel
  | .join l r => by
    obtain ⟨a1, a2, a3, a4, a5⟩ := data_ok l
    obtain ⟨b1, b2, b3, b4, b5⟩ := data_ok r
    simp only [Tr.data, wt, Tr.h, PyData.canLay0, PyData.canLayAll0, PyData.weight, PyData.weightAll, PyData.showable, PyData.showableAll, PyData.leavesShort, PyData.leavesShortAll, PyData.depth, PyData.depthAll, a1, b1, a3, b3, a4, b4, Bool.and_true]
    refine ⟨by decide +kernel, ?_, trivial, by decide +kernel, by lia⟩
    have : (Str.ofString "join").cps.size = 4 := by decide +kernel
    lia
  | .bin op l r => by
    obtain ⟨a1, a2, a3, a4, a5⟩ := data_ok l
    obtain ⟨b1, b2, b3, b4, b5⟩ := data_ok r
    simp only [Tr.data, wt, Tr.h, PyData.canLay0, PyData.canLayAll0, PyData.weight, PyData.weightAll, PyData.showable, PyData.showableAll, PyData.leavesShort, PyData.leavesShortAll, PyData.depth, PyData.depthAll, a1, b1, a3, b3, a4, b4, Bool.and_true]
    have : (Str.ofString "binary").cps.size = 6 := by decide +kernel
    have h2 : op.s.cps.size = 1 := len_b3 op
    refine ⟨by cases op <;> decide +kernel, by lia, trivial, by cases op <;> decide +kernel, by lia⟩
  | .give op l g => by
    obtain ⟨a1, a2, a3, a4, a5⟩ := data_ok l
    obtain ⟨b1, b2, b3, b4, b5⟩ := datag_ok g
    simp only [Tr.data, wt, Tr.h, PyData.canLay0, PyData.canLayAll0, PyData.weight, PyData.weightAll, PyData.showable, PyData.showableAll, PyData.leavesShort, PyData.leavesShortAll, PyData.depth, PyData.depthAll, a1, b1, a3, b3, a4, b4, Bool.and_true]
    have : (Str.ofString "binary").cps.size = 6 := by decide +kernel
    have h2 : op.s.cps.size = 1 := len_b2 op
    refine ⟨by cases op <;> decide +kernel, by lia, trivial, by cases op <;> decide +kernel, by lia⟩
  | .call1 a => by
    obtain ⟨a1, a2, a3, a4, a5⟩ := data_ok a
    simp only [Tr.data, wt, Tr.h, PyData.canLay0, PyData.canLayAll0, PyData.weight, PyData.weightAll, PyData.showable, PyData.showableAll, PyData.leavesShort, PyData.leavesShortAll, PyData.depth, PyData.depthAll, a1, a3, a4, Bool.and_true]
    have : (Str.ofString "call").cps.size = 4 := by decide +kernel
    have h2 : (Str.ofString "F").cps.size = 1 := by decide +kernel
    refine ⟨by decide +kernel, by lia, trivial, by decide +kernel, by lia⟩
  | .call2 a b => by
    obtain ⟨a1, a2, a3, a4, a5⟩ := data_ok a
    obtain ⟨b1, b2, b3, b4, b5⟩ := data_ok b
    simp only [Tr.data, wt, Tr.h, PyData.canLay0, PyData.canLayAll0, PyData.weight, PyData.weightAll, PyData.showable, PyData.showableAll, PyData.leavesShort, PyData.leavesShortAll, PyData.depth, PyData.depthAll, a1, b1, a3, b3, a4, b4, Bool.and_true]
    have : (Str.ofString "call").cps.size = 4 := by decide +kernel
    have h2 : (Str.ofString "F").cps.size = 1 := by decide +kernel
    refine ⟨by decide +kernel, by lia, trivial, by decide +kernel, by lia⟩
  | .una op g => by
    obtain ⟨b1, b2, b3, b4, b5⟩ := datag_ok g
    simp only [Tr.data, wt, Tr.h, PyData.canLay0, PyData.canLayAll0, PyData.weight, PyData.weightAll, PyData.showable, PyData.showableAll, PyData.leavesShort, PyData.leavesShortAll, PyData.depth, PyData.depthAll, b1, b3, b4, Bool.and_true]
    have : (Str.ofString "unary").cps.size = 5 := by decide +kernel
    have h2 : op.s.cps.size = 1 := len_u5 op
    refine ⟨by cases op <;> decide +kernel, by lia, trivial, by cases op <;> decide +kernel, by lia⟩
  | .goal g => by
    obtain ⟨b1, b2, b3, b4, b5⟩ := datag_ok g
    simp only [Tr.data, wt, Tr.h]
    exact ⟨b1, by lia, b3, b4, by lia⟩
theorem datag_ok : ∀ t : Go, t.data.canLay0 = true ∧ t.data.weight + 1 ≤ wg t ∧ t.data.showable = true ∧ t.data.leavesShort 13 = true ∧ t.data.depth ≤ 2 * t.h + 2
  | .name x => by cases x <;> (simp only [Go.data, wg]; decide +kernel)
  | .key => by simp only [Go.data, wg]; decide +kernel
  | .item a b => by
    obtain ⟨a1, a2, a3, a4, a5⟩ := data_ok a
    obtain ⟨b1, b2, b3, b4, b5⟩ := data_ok b
    simp only [Go.data, wg, Go.h, PyData.canLay0, PyData.canLayAll0, PyData.weight, PyData.weightAll, PyData.showable, PyData.showableAll, PyData.leavesShort, PyData.leavesShortAll, PyData.depth, PyData.depthAll, a1, b1, a3, b3, a4, b4, Bool.and_true]
    have : (Str.ofString "item").cps.size = 4 := by decide +kernel
    refine ⟨by decide +kernel, by lia, trivial, by decide +kernel, by lia⟩
  | .ind a => by
    obtain ⟨a1, a2, a3, a4, a5⟩ := data_ok a
    simp only [Go.data, wg, Go.h, PyData.canLay0, PyData.canLayAll0, PyData.weight, PyData.weightAll, PyData.showable, PyData.showableAll, PyData.leavesShort, PyData.leavesShortAll, PyData.depth, PyData.depthAll, a1, a3, a4, Bool.and_true]
    have : (Str.ofString "unary").cps.size = 5 := by decide +kernel
    have h2 : (Str.ofString "$").cps.size = 1 := by decide +kernel
    refine ⟨by decide +kernel, by lia, trivial, by decide +kernel, by lia⟩
  | .callG a => by
    obtain ⟨a1, a2, a3, a4, a5⟩ := data_ok a
    simp only [Go.data, wg, Go.h, PyData.canLay0, PyData.canLayAll0, PyData.weight, PyData.weightAll, PyData.showable, PyData.showableAll, PyData.leavesShort, PyData.leavesShortAll, PyData.depth, PyData.depthAll, a1, a3, a4, Bool.and_true]
    have : (Str.ofString "call").cps.size = 4 := by decide +kernel
    have h2 : (Str.ofString "G").cps.size = 1 := by decide +kernel
    refine ⟨by decide +kernel, by lia, trivial, by decide +kernel, by lia⟩
end

theorem okS_tuple {ts : List Str} (h : ∀ x ∈ ts, okS x) : okS (tupleText ts) := by
  unfold tupleText
  refine okS.app (okS.app (by unfold okS; decide +kernel) (okS_join (by unfold okS; decide +kernel) h)) ?_
  split <;> (unfold okS; decide +kernel)
theorem shown_tup (xs : List PyData) : (PyData.tuple xs).shown = tupleText (PyData.shownAll xs) := by rw [PyData.shown]
theorem ok1 {a : Str} (ha : okS a) : ∀ x ∈ [a], okS x := fun x h => by rw [List.mem_singleton.mp h]; exact ha
theorem okc {a : Str} {l : List Str} (ha : okS a) (h : ∀ x ∈ l, okS x) : ∀ x ∈ a :: l, okS x := fun x hx => by
  rcases List.mem_cons.mp hx with rfl | hx
  · exact ha
  · exact h x hx
theorem ok0 : ∀ x ∈ ([] : List Str), okS x := fun x hx => by cases hx
theorem okS_repr_b3 (x : B3) : okS (PyData.str x.s).shown := by cases x <;> (unfold okS; decide +kernel)
theorem okS_repr_b2 (x : B2) : okS (PyData.str x.s).shown := by cases x <;> (unfold okS; decide +kernel)
theorem okS_repr_u5 (x : U5) : okS (PyData.str x.s).shown := by cases x <;> (unfold okS; decide +kernel)
theorem okS_repr_nm (x : Nm) : okS (PyData.str x.s).shown := by cases x <;> (unfold okS; decide +kernel)
mutual
theorem shown_ok : ∀ t : Tr, okS t.data.shown
  | .name x => by
    rw [Tr.data, shown_tup]; simp only [PyData.shownAll]
    exact okS_tuple (okc (by unfold okS; decide +kernel) (ok1 (okS_repr_nm x)))
  | .whole n => by
    have : ∀ n : Fin 10, PyData.strOk (Tr.whole n).data.shown = true := by simp only [Tr.data]; decide +kernel
    exact this n
  | .text => by simp only [Tr.data]; unfold okS; decide +kernel
  | .null => by simp only [Tr.data]; unfold okS; decide +kernel
  | .call0 => by simp only [Tr.data]; unfold okS; decide +kernel
  | .join l r => by
    rw [Tr.data, shown_tup]; simp only [PyData.shownAll]
    exact okS_tuple (okc (by unfold okS; decide +kernel) (okc (shown_ok l) (ok1 (shown_ok r))))
  | .bin op l r => by
    rw [Tr.data, shown_tup]; simp only [PyData.shownAll]
    exact okS_tuple (okc (by unfold okS; decide +kernel) (okc (okS_repr_b3 op) (okc (shown_ok l) (ok1 (shown_ok r)))))
  | .give op l g => by
    rw [Tr.data, shown_tup]; simp only [PyData.shownAll]
    exact okS_tuple (okc (by unfold okS; decide +kernel) (okc (okS_repr_b2 op) (okc (shown_ok l) (ok1 (showng_ok g)))))
  | .call1 a => by
    rw [Tr.data, shown_tup]; simp only [PyData.shownAll, shown_tup]
    exact okS_tuple (okc (by unfold okS; decide +kernel) (okc (by unfold okS; decide +kernel) (ok1 (okS_tuple (ok1 (shown_ok a))))))
  | .call2 a b => by
    rw [Tr.data, shown_tup]; simp only [PyData.shownAll, shown_tup]
    exact okS_tuple (okc (by unfold okS; decide +kernel) (okc (by unfold okS; decide +kernel) (ok1 (okS_tuple (okc (shown_ok a) (ok1 (shown_ok b)))))))
  | .una op g => by
    rw [Tr.data, shown_tup]; simp only [PyData.shownAll]
    exact okS_tuple (okc (by unfold okS; decide +kernel) (okc (okS_repr_u5 op) (ok1 (showng_ok g))))
  | .goal g => by rw [Tr.data]; exact showng_ok g
theorem showng_ok : ∀ g : Go, okS g.data.shown
  | .name x => by
    rw [Go.data, shown_tup]; simp only [PyData.shownAll]
    exact okS_tuple (okc (by unfold okS; decide +kernel) (ok1 (okS_repr_nm x)))
  | .key => by simp only [Go.data]; unfold okS; decide +kernel
  | .item a b => by
    rw [Go.data, shown_tup]; simp only [PyData.shownAll, shown_tup]
    exact okS_tuple (okc (by unfold okS; decide +kernel) (okc (shown_ok a) (ok1 (okS_tuple (ok1 (shown_ok b))))))
  | .ind a => by
    rw [Go.data, shown_tup]; simp only [PyData.shownAll]
    exact okS_tuple (okc (by unfold okS; decide +kernel) (okc (by unfold okS; decide +kernel) (ok1 (shown_ok a))))
  | .callG a => by
    rw [Go.data, shown_tup]; simp only [PyData.shownAll, shown_tup]
    exact okS_tuple (okc (by unfold okS; decide +kernel) (okc (by unfold okS; decide +kernel) (ok1 (okS_tuple (ok1 (shown_ok a))))))
end
theorem shown_len (g : Go) : g.data.shown.length ≤ 15 * wg g := by
  obtain ⟨_, h2, _, h4, _⟩ := datag_ok g
  have := PyData.shown_le 13 (by decide) g.data h4
  lia
theorem wg_pos (g : Go) : 40 ≤ wg g := by cases g <;> simp only [wg] <;> lia
theorem wt_pos (t : Tr) : 40 ≤ wt t := by cases t <;> simp only [wt] <;> lia
/- what a reading bears -/
noncomputable def Note.ok : Note → Prop
  | .read _ => True
  | .value s => okS s
  | .call k nm args _ => okS k ∧ okS nm ∧ ∀ a ∈ args, okS a
  | .done w args => okS w ∧ ∀ a ∈ args, okS a
structure Rv.Fit (r : Rv) (W : Nat) : Prop where
  len : r.1.length ≤ W
  ok : ∀ n ∈ r.1, n.ok
  val : ∀ s, r.2 = some s → s.length ≤ 16 * W ∧ okS s
structure Rs.Fit (r : Rs) (W k : Nat) : Prop where
  len : r.1.length ≤ W
  ok : ∀ n ∈ r.1, n.ok
  val : ∀ l, r.2 = some l → (l.map (·.length)).sum ≤ 16 * W ∧ l.length ≤ k ∧ ∀ s ∈ l, okS s
theorem Rv.Fit.up {r : Rv} {W W' : Nat} (h : r.Fit W) (e : W ≤ W') : r.Fit W' := ⟨Nat.le_trans h.len e, h.ok, fun s q => ⟨by have := (h.val s q).1; lia, (h.val s q).2⟩⟩
theorem Rv.Fit.bind {r : Rv} {f : Str → Rv} {W V : Nat} (h : r.Fit W) (k : ∀ s, s.length ≤ 16 * W → okS s → (f s).1.length ≤ V ∧ (∀ n ∈ (f s).1, n.ok) ∧ ∀ u, (f s).2 = some u → u.length ≤ 16 * (W + V) ∧ okS u) : (r.bind f).Fit (W + V) := by
  unfold Rv.bind
  cases e : r.2 with
  | none => exact ⟨Nat.le_trans h.len (Nat.le_add_right ..), h.ok, fun s q => (by cases q)⟩
  | some s =>
    obtain ⟨a, b⟩ := h.val s e
    obtain ⟨k1, k2, k3⟩ := k s a b
    refine ⟨?_, fun n hn => ?_, fun u hu => k3 u hu⟩
    · have := h.len
      simp only [List.length_append]; lia
    · rcases List.mem_append.mp hn with hn | hn
      · exact h.ok n hn
      · exact k2 n hn
theorem Rv.Fit.map {r : Rv} {f : Str → Str} {W V : Nat} (h : r.Fit W) (hw : W ≤ V) (k : ∀ s, s.length ≤ 16 * W → okS s → (f s).length ≤ 16 * V ∧ okS (f s)) : (r.map f).Fit V := by
  unfold Rv.map
  cases e : r.2 with
  | none => exact ⟨Nat.le_trans h.len hw, h.ok, fun s q => (by cases q)⟩
  | some s =>
    obtain ⟨a, b⟩ := h.val s e
    exact ⟨Nat.le_trans h.len hw, h.ok, fun u hu => by cases hu; exact k s a b⟩
theorem Rs.fit_nil : Rs.nil.Fit 0 0 := ⟨Nat.le_refl _, fun n h => (by cases h), fun l h => by cases h; exact ⟨Nat.le_refl _, Nat.le_refl _, fun s h => (by cases h)⟩⟩
theorem Rs.Fit.snoc {r : Rs} {v : Rv} {W V j : Nat} (h : r.Fit W j) (k : v.Fit V) : (r.snoc v).Fit (W + V) (j + 1) := by
  unfold Rs.snoc
  have h1 := h.len
  have h2 := k.len
  cases e : r.2 with
  | none => exact ⟨Nat.le_trans h.len (Nat.le_add_right ..), h.ok, fun s q => (by cases q)⟩
  | some l =>
    have ok : ∀ n ∈ r.1 ++ v.1, n.ok := fun n hn => by
      rcases List.mem_append.mp hn with hn | hn
      · exact h.ok n hn
      · exact k.ok n hn
    dsimp only
    cases e' : v.2 with
    | none => exact ⟨by simp only [List.length_append]; lia, ok, fun s q => (by cases q)⟩
    | some s =>
      refine ⟨by simp only [List.length_append]; lia, ok, fun u hu => ?_⟩
      cases hu
      obtain ⟨a, a2, b⟩ := h.val l e
      obtain ⟨a', b'⟩ := k.val s e'
      refine ⟨by simp only [List.map_append, List.map_cons, List.map_nil, List.sum_append, List.sum_cons, List.sum_nil]; lia, by simp only [List.length_append, List.length_cons, List.length_nil]; lia, fun x hx => ?_⟩
      rcases List.mem_append.mp hx with hx | hx
      · exact b x hx
      · rw [List.mem_singleton.mp hx]; exact b'
theorem len_join (l : List Str) : (Txt.join "," l).length ≤ (l.map (·.length)).sum + l.length := by
  rw [txt_join]
  have := StrLaws.join_length_le "," l
  have e : (("," : Str)).length = 1 := by decide +kernel
  rw [e] at this; lia
theorem callStr_fit {b : Bool} {nm : Str} {l : List Str} {W : Nat} (hn : okS nm) (hl : nm.length ≤ 4) (h : (l.map (·.length)).sum + l.length ≤ W) (ok : ∀ s ∈ l, okS s) : (callStr b nm l).length ≤ W + 8 ∧ okS (callStr b nm l) := by
  have e1 : ((if b = true then (".." : Str) else "")).length ≤ 2 ∧ okS (if b = true then (".." : Str) else "") := by
    cases b
    · exact ⟨by decide +kernel, by unfold okS; decide +kernel⟩
    · exact ⟨by decide +kernel, by unfold okS; decide +kernel⟩
  have e2 : (("<" : Str)).length = 1 := by decide +kernel
  have e3 : ((">" : Str)).length = 1 := by decide +kernel
  have := len_join l
  unfold callStr
  refine ⟨?_, ?_⟩
  · rw [Str.length_append, Str.length_append, Str.length_append, Str.length_append, e2, e3]; lia
  · refine okS.app (okS.app (okS.app (okS.app e1.2 hn) (by unfold okS; decide +kernel)) ?_) (by unfold okS; decide +kernel)
    rw [txt_join]
    exact okS_join (by unfold okS; decide +kernel) ok
theorem Rs.Fit.call {r : Rs} {k nm shown : Str} {b : Bool} {W j : Nat} (h : r.Fit W j) (hj : j ≤ 600) (hk : okS k) (hn : okS nm) (hs : okS shown) (hl : shown.length ≤ 4) : (r.call k nm shown b).Fit (W + 40) := by
  unfold Rs.call
  have h1 := h.len
  cases e : r.2 with
  | none => exact ⟨by dsimp only; lia, h.ok, fun s q => (by cases q)⟩
  | some l =>
    obtain ⟨a, a2, ok⟩ := h.val l e
    obtain ⟨c1, c2⟩ := callStr_fit (b := b) (W := 16 * W + 600) hs hl (by lia) ok
    refine ⟨by simp only [List.length_append, List.length_cons, List.length_nil]; lia, fun n hn' => ?_, fun u hu => ?_⟩
    · rcases List.mem_append.mp hn' with hn' | hn'
      · exact h.ok n hn'
      · rw [List.mem_singleton.mp hn']; exact ⟨hk, hn, ok⟩
    · cases hu; exact ⟨by lia, c2⟩
theorem okL (s : Str) (h : PyData.strOk s = true := by decide +kernel) : okS s := h
theorem fit_app {W V : Nat} {a b : Str} {n : Nat} (ha : a.length ≤ W) (hb : b.length ≤ V) (e : W + V ≤ n) : (a ++ b).length ≤ n := by rw [Str.length_append]; lia
theorem read_fit (x : Nm) {W : Nat} (h : 1 ≤ W) : (readR x).Fit W := by
  refine ⟨h, fun n hn => by rw [List.mem_singleton.mp hn]; trivial, fun s hs => ?_⟩
  cases x <;> cases hs <;> exact ⟨by have := len_nm .A; have := len_nm .B; have := len_nm .X; lia, okS_nm _⟩
theorem lit_fit {s : Str} {W : Nat} (h : s.length ≤ 16 * W) (ok : okS s) : Rv.Fit ([], some s) W := ⟨Nat.zero_le _, fun n hn => (by cases hn), fun u hu => by cases hu; exact ⟨h, ok⟩⟩
theorem e0_len : (("" : Str)).length = 0 := by decide +kernel
theorem map_len {b : Rv} {f : Str → Str} : (b.map f).1 = b.1 := by unfold Rv.map; cases b.2 <;> rfl
theorem paren_len {s op u : Str} (hl : op.length = 1) : ("(" ++ s ++ op ++ u ++ ")" : Str).length = s.length + u.length + 3 := by
  rw [Str.length_append, Str.length_append, Str.length_append, Str.length_append, hl]
  have e1 : (("(" : Str)).length = 1 := by decide +kernel
  have e2 : ((")" : Str)).length = 1 := by decide +kernel
  lia
theorem two_fit {a b : Rv} {op : Str} {W V : Nat} (ha : a.Fit W) (hb : b.Fit V) (hop : okS op) (hl : op.length = 1) : (a.bind fun x => b.map fun y => "(" ++ x ++ op ++ y ++ ")").Fit (W + V + 40) := by
  refine (ha.bind (V := V + 40) fun s hs ok => ?_).up (by lia)
  have h := hb.map (f := fun y => "(" ++ s ++ op ++ y ++ ")") (V := W + (V + 40)) (by lia) fun u hu ok' => by
    refine ⟨?_, okS.app (okS.app (okS.app (okS.app (okL _) ok) hop) ok') (okL _)⟩
    rw [paren_len hl]; lia
  refine ⟨?_, h.ok, h.val⟩
  rw [map_len]
  have := hb.len
  lia
theorem eg_fit {g : Go} {r : Rv} (h : r.Fit (wg g)) : (egOf r g).Fit (wg g + 1) := by
  have vb : (r.bind fun s => ([.value s], some s)).Fit (wg g + 1) := h.bind fun s hs ok => ⟨Nat.le_refl _, fun n hn => by rw [List.mem_singleton.mp hn]; exact ok, fun u hu => by cases hu; exact ⟨by lia, ok⟩⟩
  cases g with
  | name x => exact read_fit x (by lia)
  | ind a => exact vb
  | key => exact vb
  | item a b => exact h.up (Nat.le_succ _)
  | callG a => exact h.up (Nat.le_succ _)
mutual
theorem ev_fit : ∀ t : Tr, (ev t).Fit (wt t)
  | .name x => by simp only [ev, wt]; exact read_fit x (by lia)
  | .whole n => by
    simp only [ev, wt]
    have : ∀ n : Fin 10, (Str.ofString (toString ((n.val : Nat) : Int))).length ≤ 16 * 40 ∧ PyData.strOk (Str.ofString (toString ((n.val : Nat) : Int))) = true := by decide +kernel
    exact lit_fit (this n).1 (this n).2
  | .text => by simp only [ev, wt]; exact lit_fit (by decide +kernel) (okL _)
  | .null => by simp only [ev, wt]; exact lit_fit (by decide +kernel) (okL _)
  | .join l r => by simp only [ev, wt]; exact two_fit (ev_fit l) (ev_fit r) (okL _) (by decide +kernel)
  | .bin op l r => by simp only [ev, wt]; exact two_fit (ev_fit l) (ev_fit r) (okS_b3 op) (len_b3 op)
  | .call0 => by simp only [ev, wt]; exact (Rs.fit_nil.call (by lia) (okL _) (okL _) (okL _) (by decide +kernel)).up (by lia)
  | .call1 a => by simp only [ev, wt]; exact ((Rs.fit_nil.snoc (ev_fit a)).call (by lia) (okL _) (okL _) (okL _) (by decide +kernel)).up (by lia)
  | .call2 a b => by simp only [ev, wt]; exact (((Rs.fit_nil.snoc (ev_fit a)).snoc (ev_fit b)).call (by lia) (okL _) (okL _) (okL _) (by decide +kernel)).up (by lia)
  | .give op l g => by simp only [ev, wt]; exact two_fit (ev_fit l) (en_fit true g) (okS_b2 op) (len_b2 op)
  | .una .not g => by
    simp only [ev, wt]
    have h := eg_fit (en_fit false g)
    refine ⟨by have := h.len; dsimp only; lia, h.ok, fun s hs => ?_⟩
    revert hs
    cases (egOf (en false g) g).2 with
    | none => intro hs; cases hs; exact ⟨by rw [e0_len]; lia, okL _⟩
    | some u => intro hs; cases hs
  | .una .ask g => by
    simp only [ev, wt]
    refine (eg_fit (en_fit false g)).map (by lia) fun s hs ok => ⟨by rw [e0_len]; lia, okL _⟩
  | .una .neg g => by
    simp only [ev, wt]
    refine (eg_fit (en_fit false g)).map (by lia) fun s hs ok => ⟨?_, okS.app (okS.app (okL _) ok) (okL _)⟩
    rw [Str.length_append, Str.length_append]
    have e1 : (("(-" : Str)).length = 2 := by decide +kernel
    have e2 : ((")" : Str)).length = 1 := by decide +kernel
    lia
  | .una .del g => by
    simp only [ev, wt]
    refine lit_fit ?_ (okS.app (okL _) (showng_ok g))
    rw [Str.length_append]
    have e1 : (("*" : Str)).length = 1 := by decide +kernel
    have := shown_len g
    lia
  | .una .cur g => by
    simp only [ev, wt]
    refine (en_fit true g).map (by lia) fun s hs ok => ⟨?_, okS.app (okS.app (okL _) ok) (okL _)⟩
    rw [Str.length_append, Str.length_append]
    have e1 : (("(@" : Str)).length = 2 := by decide +kernel
    have e2 : ((")" : Str)).length = 1 := by decide +kernel
    lia
  | .goal g => by simp only [ev, wt]; exact (eg_fit (en_fit false g)).up (by lia)
theorem en_fit (b : Bool) : ∀ g : Go, (en b g).Fit (wg g)
  | .item x y => by simp only [en, wg]; exact (((Rs.fit_nil.snoc (ev_fit x)).snoc (ev_fit y)).call (by lia) (okL _) (okL _) (okL _) (by decide +kernel)).up (by lia)
  | .ind a => by
    simp only [en, wg]
    refine (ev_fit a).map (by lia) fun s hs ok => ⟨?_, okS.app (okL _) ok⟩
    rw [Str.length_append]
    have e1 : (("$" : Str)).length = 1 := by decide +kernel
    lia
  | .key => by simp only [en, wg]; exact lit_fit (by decide +kernel) (by unfold okS; decide +kernel)
  | .callG a => by simp only [en, wg]; exact ((Rs.fit_nil.snoc (ev_fit a)).call (by lia) (okL _) (okL _) (okL _) (by decide +kernel)).up (by lia)
  | .name x => by
    simp only [en, wg]
    refine lit_fit ?_ (okS.app (okL _) (okS_nm x))
    rw [Str.length_append, len_nm]
    have e1 : (("." : Str)).length = 1 := by decide +kernel
    lia
end
theorem egf (g : Go) : (eg g).Fit (wg g + 1) := eg_fit (en_fit false g)

noncomputable def argOf : Option Stmt → Arguments
  | some (.FunctionDef _ a _ _ _ _ _ _ _ _) => a
  | _ => default
noncomputable def argsAt (i : Nat) : Arguments := argOf (topAt i)
noncomputable def argsI (i : Nat) : Arguments := argOf (initOf (topAt i))
noncomputable def K0 (P : Params) : Frag := [
  (2, (Obj.mk Value.none none (Data.dict (List.toArray [(DictEntry.mk (PyData.keyHash P (Str.ofString "type.__subclasses__.Exception.0")) (Value.str (Str.ofString "type.__subclasses__.Exception.0") 219) (Value.int 34 0)), (DictEntry.mk (PyData.keyHash P (Str.ofString "type.__subclasses__.Exception.n")) (Value.str (Str.ofString "type.__subclasses__.Exception.n") 220) (Value.int 1 0))]) 2) (List.toArray []))),
  (3, (Obj.mk (Value.type "dict") none (Data.dict (List.toArray [(DictEntry.mk (PyData.keyHash P (Str.ofString "__name__")) (Value.str (Str.ofString "__name__") 165) (Value.str (Str.ofString "law_np0293_01") 391)), (DictEntry.mk (PyData.keyHash P (Str.ofString "__doc__")) (Value.str (Str.ofString "__doc__") 166) Value.none), (DictEntry.mk (PyData.keyHash P (Str.ofString "__package__")) (Value.str (Str.ofString "__package__") 167) Value.none), (DictEntry.mk (PyData.keyHash P (Str.ofString "__loader__")) (Value.str (Str.ofString "__loader__") 168) (Value.builtin "__main__.__loader__#opaque")), (DictEntry.mk (PyData.keyHash P (Str.ofString "__spec__")) (Value.str (Str.ofString "__spec__") 169) Value.none), (DictEntry.mk (PyData.keyHash P (Str.ofString "__annotations__")) (Value.str (Str.ofString "__annotations__") 170) (Value.ref 6)), (DictEntry.mk (PyData.keyHash P (Str.ofString "__builtins__")) (Value.str (Str.ofString "__builtins__") 171) (Value.ref 4)), (DictEntry.mk (PyData.keyHash P (Str.ofString "__file__")) (Value.str (Str.ofString "__file__") 173) (Value.str (Str.ofString "/claim/cut.py") 172)), (DictEntry.mk (PyData.keyHash P (Str.ofString "__cached__")) (Value.str (Str.ofString "__cached__") 174) Value.none), (DictEntry.mk (PyData.keyHash P (Str.ofString "SnobolError")) (Value.str (Str.ofString "SnobolError") 222) (Value.ref 34)), (DictEntry.mk (PyData.keyHash P (Str.ofString "Compiled")) (Value.str (Str.ofString "Compiled") 261) (Value.ref 54)), (DictEntry.mk (PyData.keyHash P (Str.ofString "value_orders")) (Value.str (Str.ofString "value_orders") 269) (Value.ref 65)), (DictEntry.mk (PyData.keyHash P (Str.ofString "row_orders")) (Value.str (Str.ofString "row_orders") 278) (Value.ref 72)), (DictEntry.mk (PyData.keyHash P (Str.ofString "unary_orders")) (Value.str (Str.ofString "unary_orders") 287) (Value.ref 79)), (DictEntry.mk (PyData.keyHash P (Str.ofString "binary_orders")) (Value.str (Str.ofString "binary_orders") 296) (Value.ref 86)), (DictEntry.mk (PyData.keyHash P (Str.ofString "name_orders")) (Value.str (Str.ofString "name_orders") 304) (Value.ref 93)), (DictEntry.mk (PyData.keyHash P (Str.ofString "body_orders")) (Value.str (Str.ofString "body_orders") 312) (Value.ref 100)), (DictEntry.mk (PyData.keyHash P (Str.ofString "goto_orders")) (Value.str (Str.ofString "goto_orders") 321) (Value.ref 107)), (DictEntry.mk (PyData.keyHash P (Str.ofString "compile_statement")) (Value.str (Str.ofString "compile_statement") 331) (Value.ref 114)), (DictEntry.mk (PyData.keyHash P (Str.ofString "depth_of")) (Value.str (Str.ofString "depth_of") 341) (Value.ref 121)), (DictEntry.mk (PyData.keyHash P (Str.ofString "change_of")) (Value.str (Str.ofString "change_of") 349) (Value.ref 128)), (DictEntry.mk (PyData.keyHash P (Str.ofString "Statement")) (Value.str (Str.ofString "Statement") 390) (Value.ref 145)), (DictEntry.mk (PyData.keyHash P (Str.ofString "_law_take")) (Value.str (Str.ofString "_law_take") 401) (Value.ref 156)), (DictEntry.mk (PyData.keyHash P (Str.ofString "_law_total")) (Value.str (Str.ofString "_law_total") 410) (Value.ref 163)), (DictEntry.mk (PyData.keyHash P (Str.ofString "_law_tree")) (Value.str (Str.ofString "_law_tree") 416) (Value.ref 168)), (DictEntry.mk (PyData.keyHash P (Str.ofString "_law_goal")) (Value.str (Str.ofString "_law_goal") 425) (Value.ref 175)), (DictEntry.mk (PyData.keyHash P (Str.ofString "_law_value")) (Value.str (Str.ofString "_law_value") 438) (Value.ref 182)), (DictEntry.mk (PyData.keyHash P (Str.ofString "_law_several")) (Value.str (Str.ofString "_law_several") 449) (Value.ref 189)), (DictEntry.mk (PyData.keyHash P (Str.ofString "_law_name")) (Value.str (Str.ofString "_law_name") 461) (Value.ref 196)), (DictEntry.mk (PyData.keyHash P (Str.ofString "_law_pops")) (Value.str (Str.ofString "_law_pops") 471) (Value.ref 203)), (DictEntry.mk (PyData.keyHash P (Str.ofString "_law_done")) (Value.str (Str.ofString "_law_done") 486) (Value.ref 210)), (DictEntry.mk (PyData.keyHash P (Str.ofString "_law_run")) (Value.str (Str.ofString "_law_run") 500) (Value.ref 217)), (DictEntry.mk (PyData.keyHash P (Str.ofString "_law_statement")) (Value.str (Str.ofString "_law_statement") 509) (Value.ref 224)), (DictEntry.mk (PyData.keyHash P (Str.ofString "_law_events")) (Value.str (Str.ofString "_law_events") 522) (Value.ref 231)), (DictEntry.mk (PyData.keyHash P (Str.ofString "_law_gotos_right")) (Value.str (Str.ofString "_law_gotos_right") 530) (Value.ref 238)), (DictEntry.mk (PyData.keyHash P (Str.ofString "law")) (Value.str (Str.ofString "law") 536) (Value.ref 243))]) 36) (List.toArray []))),
  (15, (Obj.mk (Value.type "tuple") none (Data.seq (List.toArray [(Value.type "Exception")]) 0) (List.toArray []))),
  (18, (Obj.mk (Value.type "cell") none (Data.cell (some (Value.ref 34))) (List.toArray []))),
  (23, (Obj.mk (Value.type "tuple") none (Data.seq (List.toArray [(Value.str (Str.ofString "") 201)]) 0) (List.toArray []))),
  (24, (Obj.mk (Value.type "tuple") none (Data.seq (List.toArray [(Value.ref 18)]) 0) (List.toArray []))),
  (25, (Obj.mk (Value.type "tuple") none (Data.seq (List.toArray [(Value.str (Str.ofString "__class__") 205)]) 0) (List.toArray []))),
  (27, (Obj.mk (Value.type "tuple") none (Data.seq (List.toArray [(Value.str (Str.ofString "self") 206), (Value.str (Str.ofString "number") 207), (Value.str (Str.ofString "told") 208)]) 0) (List.toArray []))),
  (28, (Obj.mk (Value.type "tuple") none (Data.seq (List.toArray []) 0) (List.toArray []))),
  (30, (Obj.mk (Value.type "code") none (Data.fields (List.toArray [(Value.str (Str.ofString "__init__") 202), (Value.str (Str.ofString "SnobolError.__init__") 203), (Value.str (Str.ofString "/claim/cut.py") 204), (Value.int 4 0), (Value.int 3 0), (Value.int 0 0), (Value.int 0 0), (Value.int 3 0), (Value.ref 25), (Value.bool true), (Value.int 181 0), (Value.ref 26), Value.none, (Value.ref 27), (Value.ref 28), (Value.ref 29), (Value.int 209 0), (Value.int 4 0), (Value.str (Str.ofString "/claim/cut.py") 210)])) (List.toArray []))),
  (31, (Obj.mk (Value.type "function") none (Data.func (FuncData.mk (Str.ofString "__init__") (Str.ofString "SnobolError.__init__") (argsI 1) (.stmts (bodyI 1)) (scopeI 1) 3 [((Str.ofString "__class__"), 18)] (Value.ref 23) Value.none Value.none (Value.str (Str.ofString "snobol.values") 187) none (Value.ref 30) (Value.ref 24) 0)) (List.toArray []))),
  (32, (Obj.mk (Value.type "tuple") none (Data.seq (List.toArray [(Value.str (Str.ofString "number") 212), (Value.str (Str.ofString "told") 213)]) 0) (List.toArray []))),
  (33, (Obj.mk (Value.type "dict") none (Data.dict (List.toArray [(DictEntry.mk (PyData.keyHash P (Str.ofString "__module__")) (Value.str (Str.ofString "__module__") 196) (Value.str (Str.ofString "snobol.values") 187)), (DictEntry.mk (PyData.keyHash P (Str.ofString "__firstlineno__")) (Value.str (Str.ofString "__firstlineno__") 200) (Value.int 2 199)), (DictEntry.mk (PyData.keyHash P (Str.ofString "__init__")) (Value.str (Str.ofString "__init__") 211) (Value.ref 31)), (DictEntry.mk (PyData.keyHash P (Str.ofString "__static_attributes__")) (Value.str (Str.ofString "__static_attributes__") 214) (Value.ref 32)), (DictEntry.mk (PyData.keyHash P (Str.ofString "__weakref__")) (Value.str (Str.ofString "__weakref__") 217) (Value.ref 35)), (DictEntry.mk (PyData.keyHash P (Str.ofString "__doc__")) (Value.str (Str.ofString "__doc__") 218) Value.none)]) 4) (List.toArray []))),
  (34, (Obj.mk (Value.type "type") none (Data.cls (ClassData.mk (Str.ofString "SnobolError") [(Value.type "Exception")] [(Value.ref 34), (Value.type "Exception"), (Value.type "BaseException"), (Value.type "object")] 33 (Str.ofString "SnobolError") true [] [] false none false)) (List.toArray [(some (Value.ref 15)), none, (some (Value.str (Str.ofString "SnobolError") 189)), (some (Value.str (Str.ofString "SnobolError") 197)), (some (Value.builtin "Exception.__new__")), (some (Value.bool true))]))),
  (35, (Obj.mk (Value.type "getset_descriptor") none (Data.fields (List.toArray [(Value.str (Str.ofString "__weakref__") 216), (Value.ref 34), (Value.builtin "ExceptionGroup.__weakref__"), Value.none])) (List.toArray []))),
  (45, (Obj.mk (Value.type "tuple") none (Data.seq (List.toArray []) 0) (List.toArray []))),
  (47, (Obj.mk (Value.type "tuple") none (Data.seq (List.toArray [(Value.str (Str.ofString "self") 240), (Value.str (Str.ofString "label") 241), (Value.str (Str.ofString "body") 242), (Value.str (Str.ofString "success") 243), (Value.str (Str.ofString "failure") 244), (Value.str (Str.ofString "line") 245)]) 0) (List.toArray []))),
  (48, (Obj.mk (Value.type "tuple") none (Data.seq (List.toArray []) 0) (List.toArray []))),
  (50, (Obj.mk (Value.type "code") none (Data.fields (List.toArray [(Value.str (Str.ofString "__init__") 237), (Value.str (Str.ofString "Compiled.__init__") 238), (Value.str (Str.ofString "/claim/cut.py") 239), (Value.int 11 0), (Value.int 6 0), (Value.int 0 0), (Value.int 0 0), (Value.int 3 0), (Value.ref 45), (Value.bool true), (Value.int 181 0), (Value.ref 46), Value.none, (Value.ref 47), (Value.ref 48), (Value.ref 49), (Value.int 246 0), (Value.int 11 0), (Value.str (Str.ofString "/claim/cut.py") 247)])) (List.toArray []))),
  (51, (Obj.mk (Value.type "function") none (Data.func (FuncData.mk (Str.ofString "__init__") (Str.ofString "Compiled.__init__") (argsI 3) (.stmts (bodyI 3)) (scopeI 3) 3 [] Value.none Value.none Value.none (Value.str (Str.ofString "snobol.compiler") 223) none (Value.ref 50) Value.none 0)) (List.toArray []))),
  (52, (Obj.mk (Value.type "tuple") none (Data.seq (List.toArray [(Value.str (Str.ofString "body") 249), (Value.str (Str.ofString "failure") 250), (Value.str (Str.ofString "label") 251), (Value.str (Str.ofString "line") 252), (Value.str (Str.ofString "success") 253)]) 0) (List.toArray []))),
  (53, (Obj.mk (Value.type "dict") none (Data.dict (List.toArray [(DictEntry.mk (PyData.keyHash P (Str.ofString "__module__")) (Value.str (Str.ofString "__module__") 232) (Value.str (Str.ofString "snobol.compiler") 223)), (DictEntry.mk (PyData.keyHash P (Str.ofString "__firstlineno__")) (Value.str (Str.ofString "__firstlineno__") 236) (Value.int 9 235)), (DictEntry.mk (PyData.keyHash P (Str.ofString "__init__")) (Value.str (Str.ofString "__init__") 248) (Value.ref 51)), (DictEntry.mk (PyData.keyHash P (Str.ofString "__static_attributes__")) (Value.str (Str.ofString "__static_attributes__") 254) (Value.ref 52)), (DictEntry.mk (PyData.keyHash P (Str.ofString "__dict__")) (Value.str (Str.ofString "__dict__") 256) (Value.ref 55)), (DictEntry.mk (PyData.keyHash P (Str.ofString "__weakref__")) (Value.str (Str.ofString "__weakref__") 258) (Value.ref 56)), (DictEntry.mk (PyData.keyHash P (Str.ofString "__doc__")) (Value.str (Str.ofString "__doc__") 259) Value.none)]) 4) (List.toArray []))),
  (54, (Obj.mk (Value.type "type") none (Data.cls (ClassData.mk (Str.ofString "Compiled") [(Value.type "object")] [(Value.ref 54), (Value.type "object")] 53 (Str.ofString "Compiled") true [] [] false none false)) (List.toArray [none, none, (some (Value.str (Str.ofString "Compiled") 225)), (some (Value.str (Str.ofString "Compiled") 233)), (some (Value.builtin "object.__new__")), (some (Value.bool true))]))),
  (55, (Obj.mk (Value.type "getset_descriptor") none (Data.fields (List.toArray [(Value.str (Str.ofString "__dict__") 255), (Value.ref 54), (Value.builtin "function.__dict__"), (Value.builtin "function.__dict__#set")])) (List.toArray []))),
  (56, (Obj.mk (Value.type "getset_descriptor") none (Data.fields (List.toArray [(Value.str (Str.ofString "__weakref__") 257), (Value.ref 54), (Value.builtin "ExceptionGroup.__weakref__"), Value.none])) (List.toArray []))),
  (59, (Obj.mk (Value.type "tuple") none (Data.seq (List.toArray []) 0) (List.toArray []))),
  (61, (Obj.mk (Value.type "tuple") none (Data.seq (List.toArray [(Value.str (Str.ofString "tree") 265), (Value.str (Str.ofString "kind") 266)]) 0) (List.toArray []))),
  (62, (Obj.mk (Value.type "tuple") none (Data.seq (List.toArray []) 0) (List.toArray []))),
  (64, (Obj.mk (Value.type "code") none (Data.fields (List.toArray [(Value.str (Str.ofString "value_orders") 262), (Value.str (Str.ofString "value_orders") 263), (Value.str (Str.ofString "/claim/cut.py") 264), (Value.int 17 0), (Value.int 1 0), (Value.int 0 0), (Value.int 0 0), (Value.int 3 0), (Value.ref 59), (Value.bool true), (Value.int 181 0), (Value.ref 60), Value.none, (Value.ref 61), (Value.ref 62), (Value.ref 63), (Value.int 267 0), (Value.int 17 0), (Value.str (Str.ofString "/claim/cut.py") 268)])) (List.toArray []))),
  (65, (Obj.mk (Value.type "function") none (Data.func (FuncData.mk (Str.ofString "value_orders") (Str.ofString "value_orders") (argsAt 4) (.stmts (bodyAt 4)) (scopeAt 4) 3 [] Value.none Value.none Value.none (Value.str (Str.ofString "snobol.compiler") 223) none (Value.ref 64) Value.none 0)) (List.toArray []))),
  (66, (Obj.mk (Value.type "tuple") none (Data.seq (List.toArray []) 0) (List.toArray []))),
  (68, (Obj.mk (Value.type "tuple") none (Data.seq (List.toArray [(Value.str (Str.ofString "trees") 273), (Value.str (Str.ofString "found") 274), (Value.str (Str.ofString "tree") 275)]) 0) (List.toArray []))),
  (69, (Obj.mk (Value.type "tuple") none (Data.seq (List.toArray []) 0) (List.toArray []))),
  (71, (Obj.mk (Value.type "code") none (Data.fields (List.toArray [(Value.str (Str.ofString "row_orders") 270), (Value.str (Str.ofString "row_orders") 271), (Value.str (Str.ofString "/claim/cut.py") 272), (Value.int 34 0), (Value.int 1 0), (Value.int 0 0), (Value.int 0 0), (Value.int 3 0), (Value.ref 66), (Value.bool true), (Value.int 181 0), (Value.ref 67), Value.none, (Value.ref 68), (Value.ref 69), (Value.ref 70), (Value.int 276 0), (Value.int 34 0), (Value.str (Str.ofString "/claim/cut.py") 277)])) (List.toArray []))),
  (72, (Obj.mk (Value.type "function") none (Data.func (FuncData.mk (Str.ofString "row_orders") (Str.ofString "row_orders") (argsAt 5) (.stmts (bodyAt 5)) (scopeAt 5) 3 [] Value.none Value.none Value.none (Value.str (Str.ofString "snobol.compiler") 223) none (Value.ref 71) Value.none 0)) (List.toArray []))),
  (73, (Obj.mk (Value.type "tuple") none (Data.seq (List.toArray []) 0) (List.toArray []))),
  (75, (Obj.mk (Value.type "tuple") none (Data.seq (List.toArray [(Value.str (Str.ofString "op") 282), (Value.str (Str.ofString "tree") 283), (Value.str (Str.ofString "inner") 284)]) 0) (List.toArray []))),
  (76, (Obj.mk (Value.type "tuple") none (Data.seq (List.toArray []) 0) (List.toArray []))),
  (78, (Obj.mk (Value.type "code") none (Data.fields (List.toArray [(Value.str (Str.ofString "unary_orders") 279), (Value.str (Str.ofString "unary_orders") 280), (Value.str (Str.ofString "/claim/cut.py") 281), (Value.int 39 0), (Value.int 2 0), (Value.int 0 0), (Value.int 0 0), (Value.int 3 0), (Value.ref 73), (Value.bool true), (Value.int 181 0), (Value.ref 74), Value.none, (Value.ref 75), (Value.ref 76), (Value.ref 77), (Value.int 285 0), (Value.int 39 0), (Value.str (Str.ofString "/claim/cut.py") 286)])) (List.toArray []))),
  (79, (Obj.mk (Value.type "function") none (Data.func (FuncData.mk (Str.ofString "unary_orders") (Str.ofString "unary_orders") (argsAt 6) (.stmts (bodyAt 6)) (scopeAt 6) 3 [] Value.none Value.none Value.none (Value.str (Str.ofString "snobol.compiler") 223) none (Value.ref 78) Value.none 0)) (List.toArray []))),
  (80, (Obj.mk (Value.type "tuple") none (Data.seq (List.toArray []) 0) (List.toArray []))),
  (82, (Obj.mk (Value.type "tuple") none (Data.seq (List.toArray [(Value.str (Str.ofString "op") 291), (Value.str (Str.ofString "left") 292), (Value.str (Str.ofString "right") 293)]) 0) (List.toArray []))),
  (83, (Obj.mk (Value.type "tuple") none (Data.seq (List.toArray []) 0) (List.toArray []))),
  (85, (Obj.mk (Value.type "code") none (Data.fields (List.toArray [(Value.str (Str.ofString "binary_orders") 288), (Value.str (Str.ofString "binary_orders") 289), (Value.str (Str.ofString "/claim/cut.py") 290), (Value.int 56 0), (Value.int 3 0), (Value.int 0 0), (Value.int 0 0), (Value.int 3 0), (Value.ref 80), (Value.bool true), (Value.int 181 0), (Value.ref 81), Value.none, (Value.ref 82), (Value.ref 83), (Value.ref 84), (Value.int 294 0), (Value.int 56 0), (Value.str (Str.ofString "/claim/cut.py") 295)])) (List.toArray []))),
  (86, (Obj.mk (Value.type "function") none (Data.func (FuncData.mk (Str.ofString "binary_orders") (Str.ofString "binary_orders") (argsAt 7) (.stmts (bodyAt 7)) (scopeAt 7) 3 [] Value.none Value.none Value.none (Value.str (Str.ofString "snobol.compiler") 223) none (Value.ref 85) Value.none 0)) (List.toArray []))),
  (87, (Obj.mk (Value.type "tuple") none (Data.seq (List.toArray []) 0) (List.toArray []))),
  (89, (Obj.mk (Value.type "tuple") none (Data.seq (List.toArray [(Value.str (Str.ofString "tree") 300), (Value.str (Str.ofString "kind") 301)]) 0) (List.toArray []))),
  (90, (Obj.mk (Value.type "tuple") none (Data.seq (List.toArray []) 0) (List.toArray []))),
  (92, (Obj.mk (Value.type "code") none (Data.fields (List.toArray [(Value.str (Str.ofString "name_orders") 297), (Value.str (Str.ofString "name_orders") 298), (Value.str (Str.ofString "/claim/cut.py") 299), (Value.int 60 0), (Value.int 1 0), (Value.int 0 0), (Value.int 0 0), (Value.int 3 0), (Value.ref 87), (Value.bool true), (Value.int 181 0), (Value.ref 88), Value.none, (Value.ref 89), (Value.ref 90), (Value.ref 91), (Value.int 302 0), (Value.int 60 0), (Value.str (Str.ofString "/claim/cut.py") 303)])) (List.toArray []))),
  (93, (Obj.mk (Value.type "function") none (Data.func (FuncData.mk (Str.ofString "name_orders") (Str.ofString "name_orders") (argsAt 8) (.stmts (bodyAt 8)) (scopeAt 8) 3 [] Value.none Value.none Value.none (Value.str (Str.ofString "snobol.compiler") 223) none (Value.ref 92) Value.none 0)) (List.toArray []))),
  (94, (Obj.mk (Value.type "tuple") none (Data.seq (List.toArray []) 0) (List.toArray []))),
  (96, (Obj.mk (Value.type "tuple") none (Data.seq (List.toArray [(Value.str (Str.ofString "statement") 308), (Value.str (Str.ofString "found") 309)]) 0) (List.toArray []))),
  (97, (Obj.mk (Value.type "tuple") none (Data.seq (List.toArray []) 0) (List.toArray []))),
  (99, (Obj.mk (Value.type "code") none (Data.fields (List.toArray [(Value.str (Str.ofString "body_orders") 305), (Value.str (Str.ofString "body_orders") 306), (Value.str (Str.ofString "/claim/cut.py") 307), (Value.int 73 0), (Value.int 1 0), (Value.int 0 0), (Value.int 0 0), (Value.int 3 0), (Value.ref 94), (Value.bool true), (Value.int 181 0), (Value.ref 95), Value.none, (Value.ref 96), (Value.ref 97), (Value.ref 98), (Value.int 310 0), (Value.int 73 0), (Value.str (Str.ofString "/claim/cut.py") 311)])) (List.toArray []))),
  (100, (Obj.mk (Value.type "function") none (Data.func (FuncData.mk (Str.ofString "body_orders") (Str.ofString "body_orders") (argsAt 9) (.stmts (bodyAt 9)) (scopeAt 9) 3 [] Value.none Value.none Value.none (Value.str (Str.ofString "snobol.compiler") 223) none (Value.ref 99) Value.none 0)) (List.toArray []))),
  (101, (Obj.mk (Value.type "tuple") none (Data.seq (List.toArray []) 0) (List.toArray []))),
  (103, (Obj.mk (Value.type "tuple") none (Data.seq (List.toArray [(Value.str (Str.ofString "go") 316), (Value.str (Str.ofString "kind") 317), (Value.str (Str.ofString "tree") 318)]) 0) (List.toArray []))),
  (104, (Obj.mk (Value.type "tuple") none (Data.seq (List.toArray []) 0) (List.toArray []))),
  (106, (Obj.mk (Value.type "code") none (Data.fields (List.toArray [(Value.str (Str.ofString "goto_orders") 313), (Value.str (Str.ofString "goto_orders") 314), (Value.str (Str.ofString "/claim/cut.py") 315), (Value.int 85 0), (Value.int 1 0), (Value.int 0 0), (Value.int 0 0), (Value.int 3 0), (Value.ref 101), (Value.bool true), (Value.int 181 0), (Value.ref 102), Value.none, (Value.ref 103), (Value.ref 104), (Value.ref 105), (Value.int 319 0), (Value.int 85 0), (Value.str (Str.ofString "/claim/cut.py") 320)])) (List.toArray []))),
  (107, (Obj.mk (Value.type "function") none (Data.func (FuncData.mk (Str.ofString "goto_orders") (Str.ofString "goto_orders") (argsAt 10) (.stmts (bodyAt 10)) (scopeAt 10) 3 [] Value.none Value.none Value.none (Value.str (Str.ofString "snobol.compiler") 223) none (Value.ref 106) Value.none 0)) (List.toArray []))),
  (108, (Obj.mk (Value.type "tuple") none (Data.seq (List.toArray []) 0) (List.toArray []))),
  (110, (Obj.mk (Value.type "tuple") none (Data.seq (List.toArray [(Value.str (Str.ofString "statement") 325), (Value.str (Str.ofString "always") 326), (Value.str (Str.ofString "success") 327), (Value.str (Str.ofString "failure") 328)]) 0) (List.toArray []))),
  (111, (Obj.mk (Value.type "tuple") none (Data.seq (List.toArray []) 0) (List.toArray []))),
  (113, (Obj.mk (Value.type "code") none (Data.fields (List.toArray [(Value.str (Str.ofString "compile_statement") 322), (Value.str (Str.ofString "compile_statement") 323), (Value.str (Str.ofString "/claim/cut.py") 324), (Value.int 96 0), (Value.int 1 0), (Value.int 0 0), (Value.int 0 0), (Value.int 3 0), (Value.ref 108), (Value.bool true), (Value.int 181 0), (Value.ref 109), Value.none, (Value.ref 110), (Value.ref 111), (Value.ref 112), (Value.int 329 0), (Value.int 96 0), (Value.str (Str.ofString "/claim/cut.py") 330)])) (List.toArray []))),
  (114, (Obj.mk (Value.type "function") none (Data.func (FuncData.mk (Str.ofString "compile_statement") (Str.ofString "compile_statement") (argsAt 11) (.stmts (bodyAt 11)) (scopeAt 11) 3 [] Value.none Value.none Value.none (Value.str (Str.ofString "snobol.compiler") 223) none (Value.ref 113) Value.none 0)) (List.toArray []))),
  (115, (Obj.mk (Value.type "tuple") none (Data.seq (List.toArray []) 0) (List.toArray []))),
  (117, (Obj.mk (Value.type "tuple") none (Data.seq (List.toArray [(Value.str (Str.ofString "orders") 335), (Value.str (Str.ofString "high") 336), (Value.str (Str.ofString "most") 337), (Value.str (Str.ofString "order") 338)]) 0) (List.toArray []))),
  (118, (Obj.mk (Value.type "tuple") none (Data.seq (List.toArray []) 0) (List.toArray []))),
  (120, (Obj.mk (Value.type "code") none (Data.fields (List.toArray [(Value.str (Str.ofString "depth_of") 332), (Value.str (Str.ofString "depth_of") 333), (Value.str (Str.ofString "/claim/cut.py") 334), (Value.int 101 0), (Value.int 1 0), (Value.int 0 0), (Value.int 0 0), (Value.int 3 0), (Value.ref 115), (Value.bool true), (Value.int 181 0), (Value.ref 116), Value.none, (Value.ref 117), (Value.ref 118), (Value.ref 119), (Value.int 339 0), (Value.int 101 0), (Value.str (Str.ofString "/claim/cut.py") 340)])) (List.toArray []))),
  (121, (Obj.mk (Value.type "function") none (Data.func (FuncData.mk (Str.ofString "depth_of") (Str.ofString "depth_of") (argsAt 12) (.stmts (bodyAt 12)) (scopeAt 12) 3 [] Value.none Value.none Value.none (Value.str (Str.ofString "snobol.compiler") 223) none (Value.ref 120) Value.none 0)) (List.toArray []))),
  (122, (Obj.mk (Value.type "tuple") none (Data.seq (List.toArray []) 0) (List.toArray []))),
  (124, (Obj.mk (Value.type "tuple") none (Data.seq (List.toArray [(Value.str (Str.ofString "order") 345), (Value.str (Str.ofString "word") 346)]) 0) (List.toArray []))),
  (125, (Obj.mk (Value.type "tuple") none (Data.seq (List.toArray []) 0) (List.toArray []))),
  (127, (Obj.mk (Value.type "code") none (Data.fields (List.toArray [(Value.str (Str.ofString "change_of") 342), (Value.str (Str.ofString "change_of") 343), (Value.str (Str.ofString "/claim/cut.py") 344), (Value.int 107 0), (Value.int 1 0), (Value.int 0 0), (Value.int 0 0), (Value.int 3 0), (Value.ref 122), (Value.bool true), (Value.int 181 0), (Value.ref 123), Value.none, (Value.ref 124), (Value.ref 125), (Value.ref 126), (Value.int 347 0), (Value.int 107 0), (Value.str (Str.ofString "/claim/cut.py") 348)])) (List.toArray []))),
  (128, (Obj.mk (Value.type "function") none (Data.func (FuncData.mk (Str.ofString "change_of") (Str.ofString "change_of") (argsAt 13) (.stmts (bodyAt 13)) (scopeAt 13) 3 [] Value.none Value.none Value.none (Value.str (Str.ofString "snobol.compiler") 223) none (Value.ref 127) Value.none 0)) (List.toArray []))),
  (136, (Obj.mk (Value.type "tuple") none (Data.seq (List.toArray []) 0) (List.toArray []))),
  (138, (Obj.mk (Value.type "tuple") none (Data.seq (List.toArray [(Value.str (Str.ofString "self") 367), (Value.str (Str.ofString "line") 368), (Value.str (Str.ofString "text") 369)]) 0) (List.toArray []))),
  (139, (Obj.mk (Value.type "tuple") none (Data.seq (List.toArray []) 0) (List.toArray []))),
  (141, (Obj.mk (Value.type "code") none (Data.fields (List.toArray [(Value.str (Str.ofString "__init__") 364), (Value.str (Str.ofString "Statement.__init__") 365), (Value.str (Str.ofString "/claim/cut.py") 366), (Value.int 123 0), (Value.int 3 0), (Value.int 0 0), (Value.int 0 0), (Value.int 3 0), (Value.ref 136), (Value.bool true), (Value.int 181 0), (Value.ref 137), Value.none, (Value.ref 138), (Value.ref 139), (Value.ref 140), (Value.int 370 0), (Value.int 123 0), (Value.str (Str.ofString "/claim/cut.py") 371)])) (List.toArray []))),
  (142, (Obj.mk (Value.type "function") none (Data.func (FuncData.mk (Str.ofString "__init__") (Str.ofString "Statement.__init__") (argsI 15) (.stmts (bodyI 15)) (scopeI 15) 3 [] Value.none Value.none Value.none (Value.str (Str.ofString "snobol.reader") 350) none (Value.ref 141) Value.none 0)) (List.toArray []))),
  (143, (Obj.mk (Value.type "tuple") none (Data.seq (List.toArray [(Value.str (Str.ofString "go_always") 373), (Value.str (Str.ofString "go_failure") 374), (Value.str (Str.ofString "go_success") 375), (Value.str (Str.ofString "is_replaced") 376), (Value.str (Str.ofString "label") 377), (Value.str (Str.ofString "line") 378), (Value.str (Str.ofString "pattern") 379), (Value.str (Str.ofString "replacement") 380), (Value.str (Str.ofString "subject") 381), (Value.str (Str.ofString "text") 382)]) 0) (List.toArray []))),
  (144, (Obj.mk (Value.type "dict") none (Data.dict (List.toArray [(DictEntry.mk (PyData.keyHash P (Str.ofString "__module__")) (Value.str (Str.ofString "__module__") 359) (Value.str (Str.ofString "snobol.reader") 350)), (DictEntry.mk (PyData.keyHash P (Str.ofString "__firstlineno__")) (Value.str (Str.ofString "__firstlineno__") 363) (Value.int 121 362)), (DictEntry.mk (PyData.keyHash P (Str.ofString "__init__")) (Value.str (Str.ofString "__init__") 372) (Value.ref 142)), (DictEntry.mk (PyData.keyHash P (Str.ofString "__static_attributes__")) (Value.str (Str.ofString "__static_attributes__") 383) (Value.ref 143)), (DictEntry.mk (PyData.keyHash P (Str.ofString "__dict__")) (Value.str (Str.ofString "__dict__") 385) (Value.ref 146)), (DictEntry.mk (PyData.keyHash P (Str.ofString "__weakref__")) (Value.str (Str.ofString "__weakref__") 387) (Value.ref 147)), (DictEntry.mk (PyData.keyHash P (Str.ofString "__doc__")) (Value.str (Str.ofString "__doc__") 388) Value.none)]) 4) (List.toArray []))),
  (145, (Obj.mk (Value.type "type") none (Data.cls (ClassData.mk (Str.ofString "Statement") [(Value.type "object")] [(Value.ref 145), (Value.type "object")] 144 (Str.ofString "Statement") true [] [] false none false)) (List.toArray [none, none, (some (Value.str (Str.ofString "Statement") 352)), (some (Value.str (Str.ofString "Statement") 360)), (some (Value.builtin "object.__new__")), (some (Value.bool true))]))),
  (146, (Obj.mk (Value.type "getset_descriptor") none (Data.fields (List.toArray [(Value.str (Str.ofString "__dict__") 384), (Value.ref 145), (Value.builtin "function.__dict__"), (Value.builtin "function.__dict__#set")])) (List.toArray []))),
  (147, (Obj.mk (Value.type "getset_descriptor") none (Data.fields (List.toArray [(Value.str (Str.ofString "__weakref__") 386), (Value.ref 145), (Value.builtin "ExceptionGroup.__weakref__"), Value.none])) (List.toArray []))),
  (150, (Obj.mk (Value.type "tuple") none (Data.seq (List.toArray []) 0) (List.toArray []))),
  (152, (Obj.mk (Value.type "tuple") none (Data.seq (List.toArray [(Value.str (Str.ofString "box") 396), (Value.str (Str.ofString "many") 397), (Value.str (Str.ofString "digit") 398)]) 0) (List.toArray []))),
  (153, (Obj.mk (Value.type "tuple") none (Data.seq (List.toArray []) 0) (List.toArray []))),
  (155, (Obj.mk (Value.type "code") none (Data.fields (List.toArray [(Value.str (Str.ofString "_law_take") 393), (Value.str (Str.ofString "_law_take") 394), (Value.str (Str.ofString "/claim/cut.py") 395), (Value.int 135 0), (Value.int 2 0), (Value.int 0 0), (Value.int 0 0), (Value.int 3 0), (Value.ref 150), (Value.bool true), (Value.int 181 0), (Value.ref 151), Value.none, (Value.ref 152), (Value.ref 153), (Value.ref 154), (Value.int 399 0), (Value.int 135 0), (Value.str (Str.ofString "/claim/cut.py") 400)])) (List.toArray []))),
  (156, (Obj.mk (Value.type "function") none (Data.func (FuncData.mk (Str.ofString "_law_take") (Str.ofString "_law_take") (argsAt 17) (.stmts (bodyAt 17)) (scopeAt 17) 3 [] Value.none Value.none Value.none (Value.str (Str.ofString "law_np0293_01") 391) none (Value.ref 155) Value.none 0)) (List.toArray []))),
  (157, (Obj.mk (Value.type "tuple") none (Data.seq (List.toArray []) 0) (List.toArray []))),
  (159, (Obj.mk (Value.type "tuple") none (Data.seq (List.toArray [(Value.str (Str.ofString "script") 405), (Value.str (Str.ofString "grand") 406), (Value.str (Str.ofString "one") 407)]) 0) (List.toArray []))),
  (160, (Obj.mk (Value.type "tuple") none (Data.seq (List.toArray []) 0) (List.toArray []))),
  (162, (Obj.mk (Value.type "code") none (Data.fields (List.toArray [(Value.str (Str.ofString "_law_total") 402), (Value.str (Str.ofString "_law_total") 403), (Value.str (Str.ofString "/claim/cut.py") 404), (Value.int 142 0), (Value.int 1 0), (Value.int 0 0), (Value.int 0 0), (Value.int 3 0), (Value.ref 157), (Value.bool true), (Value.int 181 0), (Value.ref 158), Value.none, (Value.ref 159), (Value.ref 160), (Value.ref 161), (Value.int 408 0), (Value.int 142 0), (Value.str (Str.ofString "/claim/cut.py") 409)])) (List.toArray []))),
  (163, (Obj.mk (Value.type "function") none (Data.func (FuncData.mk (Str.ofString "_law_total") (Str.ofString "_law_total") (argsAt 18) (.stmts (bodyAt 18)) (scopeAt 18) 3 [] Value.none Value.none Value.none (Value.str (Str.ofString "law_np0293_01") 391) none (Value.ref 162) Value.none 0)) (List.toArray []))),
  (164, (Obj.mk (Value.type "tuple") none (Data.seq (List.toArray []) 0) (List.toArray []))),
  (167, (Obj.mk (Value.type "code") none (Data.fields (List.toArray [(Value.str (Str.ofString "_law_tree") 411), (Value.str (Str.ofString "_law_tree") 412), (Value.str (Str.ofString "/claim/cut.py") 413), (Value.int 147 0), (Value.int 2 0), (Value.int 0 0), (Value.int 0 0), (Value.int 3 0), (Value.ref 164), (Value.bool true), (Value.int 181 0), (Value.ref 165), Value.none, Value.none, Value.none, (Value.ref 166), (Value.int 414 0), (Value.int 147 0), (Value.str (Str.ofString "/claim/cut.py") 415)])) (List.toArray []))),
  (168, (Obj.mk (Value.type "function") none (Data.func (FuncData.mk (Str.ofString "_law_tree") (Str.ofString "_law_tree") (argsAt 19) (.stmts (bodyAt 19)) (scopeAt 19) 3 [] Value.none Value.none Value.none (Value.str (Str.ofString "law_np0293_01") 391) none (Value.ref 167) Value.none 0)) (List.toArray []))),
  (169, (Obj.mk (Value.type "tuple") none (Data.seq (List.toArray []) 0) (List.toArray []))),
  (171, (Obj.mk (Value.type "tuple") none (Data.seq (List.toArray [(Value.str (Str.ofString "box") 420), (Value.str (Str.ofString "deep") 421), (Value.str (Str.ofString "form") 422)]) 0) (List.toArray []))),
  (172, (Obj.mk (Value.type "tuple") none (Data.seq (List.toArray []) 0) (List.toArray []))),
  (174, (Obj.mk (Value.type "code") none (Data.fields (List.toArray [(Value.str (Str.ofString "_law_goal") 417), (Value.str (Str.ofString "_law_goal") 418), (Value.str (Str.ofString "/claim/cut.py") 419), (Value.int 166 0), (Value.int 2 0), (Value.int 0 0), (Value.int 0 0), (Value.int 3 0), (Value.ref 169), (Value.bool true), (Value.int 181 0), (Value.ref 170), Value.none, (Value.ref 171), (Value.ref 172), (Value.ref 173), (Value.int 423 0), (Value.int 166 0), (Value.str (Str.ofString "/claim/cut.py") 424)])) (List.toArray []))),
  (175, (Obj.mk (Value.type "function") none (Data.func (FuncData.mk (Str.ofString "_law_goal") (Str.ofString "_law_goal") (argsAt 20) (.stmts (bodyAt 20)) (scopeAt 20) 3 [] Value.none Value.none Value.none (Value.str (Str.ofString "law_np0293_01") 391) none (Value.ref 174) Value.none 0)) (List.toArray []))),
  (176, (Obj.mk (Value.type "tuple") none (Data.seq (List.toArray []) 0) (List.toArray []))),
  (178, (Obj.mk (Value.type "tuple") none (Data.seq (List.toArray [(Value.str (Str.ofString "tree") 429), (Value.str (Str.ofString "notes") 430), (Value.str (Str.ofString "kind") 431), (Value.str (Str.ofString "found") 432), (Value.str (Str.ofString "name") 433), (Value.str (Str.ofString "left") 434), (Value.str (Str.ofString "right") 435)]) 0) (List.toArray []))),
  (179, (Obj.mk (Value.type "tuple") none (Data.seq (List.toArray []) 0) (List.toArray []))),
  (181, (Obj.mk (Value.type "code") none (Data.fields (List.toArray [(Value.str (Str.ofString "_law_value") 426), (Value.str (Str.ofString "_law_value") 427), (Value.str (Str.ofString "/claim/cut.py") 428), (Value.int 177 0), (Value.int 2 0), (Value.int 0 0), (Value.int 0 0), (Value.int 3 0), (Value.ref 176), (Value.bool true), (Value.int 181 0), (Value.ref 177), Value.none, (Value.ref 178), (Value.ref 179), (Value.ref 180), (Value.int 436 0), (Value.int 177 0), (Value.str (Str.ofString "/claim/cut.py") 437)])) (List.toArray []))),
  (182, (Obj.mk (Value.type "function") none (Data.func (FuncData.mk (Str.ofString "_law_value") (Str.ofString "_law_value") (argsAt 21) (.stmts (bodyAt 21)) (scopeAt 21) 3 [] Value.none Value.none Value.none (Value.str (Str.ofString "law_np0293_01") 391) none (Value.ref 181) Value.none 0)) (List.toArray []))),
  (183, (Obj.mk (Value.type "tuple") none (Data.seq (List.toArray []) 0) (List.toArray []))),
  (185, (Obj.mk (Value.type "tuple") none (Data.seq (List.toArray [(Value.str (Str.ofString "trees") 442), (Value.str (Str.ofString "notes") 443), (Value.str (Str.ofString "found") 444), (Value.str (Str.ofString "tree") 445), (Value.str (Str.ofString "value") 446)]) 0) (List.toArray []))),
  (186, (Obj.mk (Value.type "tuple") none (Data.seq (List.toArray []) 0) (List.toArray []))),
  (188, (Obj.mk (Value.type "code") none (Data.fields (List.toArray [(Value.str (Str.ofString "_law_several") 439), (Value.str (Str.ofString "_law_several") 440), (Value.str (Str.ofString "/claim/cut.py") 441), (Value.int 207 0), (Value.int 2 0), (Value.int 0 0), (Value.int 0 0), (Value.int 3 0), (Value.ref 183), (Value.bool true), (Value.int 181 0), (Value.ref 184), Value.none, (Value.ref 185), (Value.ref 186), (Value.ref 187), (Value.int 447 0), (Value.int 207 0), (Value.str (Str.ofString "/claim/cut.py") 448)])) (List.toArray []))),
  (189, (Obj.mk (Value.type "function") none (Data.func (FuncData.mk (Str.ofString "_law_several") (Str.ofString "_law_several") (argsAt 22) (.stmts (bodyAt 22)) (scopeAt 22) 3 [] Value.none Value.none Value.none (Value.str (Str.ofString "law_np0293_01") 391) none (Value.ref 188) Value.none 0)) (List.toArray []))),
  (190, (Obj.mk (Value.type "tuple") none (Data.seq (List.toArray []) 0) (List.toArray []))),
  (192, (Obj.mk (Value.type "tuple") none (Data.seq (List.toArray [(Value.str (Str.ofString "tree") 453), (Value.str (Str.ofString "notes") 454), (Value.str (Str.ofString "as_name") 455), (Value.str (Str.ofString "kind") 456), (Value.str (Str.ofString "found") 457), (Value.str (Str.ofString "inner") 458)]) 0) (List.toArray []))),
  (193, (Obj.mk (Value.type "tuple") none (Data.seq (List.toArray []) 0) (List.toArray []))),
  (195, (Obj.mk (Value.type "code") none (Data.fields (List.toArray [(Value.str (Str.ofString "_law_name") 450), (Value.str (Str.ofString "_law_name") 451), (Value.str (Str.ofString "/claim/cut.py") 452), (Value.int 215 0), (Value.int 3 0), (Value.int 0 0), (Value.int 0 0), (Value.int 3 0), (Value.ref 190), (Value.bool true), (Value.int 181 0), (Value.ref 191), Value.none, (Value.ref 192), (Value.ref 193), (Value.ref 194), (Value.int 459 0), (Value.int 215 0), (Value.str (Str.ofString "/claim/cut.py") 460)])) (List.toArray []))),
  (196, (Obj.mk (Value.type "function") none (Data.func (FuncData.mk (Str.ofString "_law_name") (Str.ofString "_law_name") (argsAt 23) (.stmts (bodyAt 23)) (scopeAt 23) 3 [] Value.none Value.none Value.none (Value.str (Str.ofString "law_np0293_01") 391) none (Value.ref 195) Value.none 0)) (List.toArray []))),
  (197, (Obj.mk (Value.type "tuple") none (Data.seq (List.toArray []) 0) (List.toArray []))),
  (199, (Obj.mk (Value.type "tuple") none (Data.seq (List.toArray [(Value.str (Str.ofString "stack") 465), (Value.str (Str.ofString "many") 466), (Value.str (Str.ofString "found") 467), (Value.str (Str.ofString "turn") 468)]) 0) (List.toArray []))),
  (200, (Obj.mk (Value.type "tuple") none (Data.seq (List.toArray []) 0) (List.toArray []))),
  (202, (Obj.mk (Value.type "code") none (Data.fields (List.toArray [(Value.str (Str.ofString "_law_pops") 462), (Value.str (Str.ofString "_law_pops") 463), (Value.str (Str.ofString "/claim/cut.py") 464), (Value.int 228 0), (Value.int 2 0), (Value.int 0 0), (Value.int 0 0), (Value.int 3 0), (Value.ref 197), (Value.bool true), (Value.int 181 0), (Value.ref 198), Value.none, (Value.ref 199), (Value.ref 200), (Value.ref 201), (Value.int 469 0), (Value.int 228 0), (Value.str (Str.ofString "/claim/cut.py") 470)])) (List.toArray []))),
  (203, (Obj.mk (Value.type "function") none (Data.func (FuncData.mk (Str.ofString "_law_pops") (Str.ofString "_law_pops") (argsAt 24) (.stmts (bodyAt 24)) (scopeAt 24) 3 [] Value.none Value.none Value.none (Value.str (Str.ofString "law_np0293_01") 391) none (Value.ref 202) Value.none 0)) (List.toArray []))),
  (204, (Obj.mk (Value.type "tuple") none (Data.seq (List.toArray []) 0) (List.toArray []))),
  (206, (Obj.mk (Value.type "tuple") none (Data.seq (List.toArray [(Value.str (Str.ofString "order") 475), (Value.str (Str.ofString "stack") 476), (Value.str (Str.ofString "notes") 477), (Value.str (Str.ofString "word") 478), (Value.str (Str.ofString "many") 479), (Value.str (Str.ofString "args") 480), (Value.str (Str.ofString "name") 481), (Value.str (Str.ofString "left") 482), (Value.str (Str.ofString "right") 483)]) 0) (List.toArray []))),
  (207, (Obj.mk (Value.type "tuple") none (Data.seq (List.toArray []) 0) (List.toArray []))),
  (209, (Obj.mk (Value.type "code") none (Data.fields (List.toArray [(Value.str (Str.ofString "_law_done") 472), (Value.str (Str.ofString "_law_done") 473), (Value.str (Str.ofString "/claim/cut.py") 474), (Value.int 233 0), (Value.int 3 0), (Value.int 0 0), (Value.int 0 0), (Value.int 3 0), (Value.ref 204), (Value.bool true), (Value.int 181 0), (Value.ref 205), Value.none, (Value.ref 206), (Value.ref 207), (Value.ref 208), (Value.int 484 0), (Value.int 233 0), (Value.str (Str.ofString "/claim/cut.py") 485)])) (List.toArray []))),
  (210, (Obj.mk (Value.type "function") none (Data.func (FuncData.mk (Str.ofString "_law_done") (Str.ofString "_law_done") (argsAt 25) (.stmts (bodyAt 25)) (scopeAt 25) 3 [] Value.none Value.none Value.none (Value.str (Str.ofString "law_np0293_01") 391) none (Value.ref 209) Value.none 0)) (List.toArray []))),
  (211, (Obj.mk (Value.type "tuple") none (Data.seq (List.toArray []) 0) (List.toArray []))),
  (213, (Obj.mk (Value.type "tuple") none (Data.seq (List.toArray [(Value.str (Str.ofString "orders") 490), (Value.str (Str.ofString "notes") 491), (Value.str (Str.ofString "stack") 492), (Value.str (Str.ofString "guards") 493), (Value.str (Str.ofString "at") 494), (Value.str (Str.ofString "high") 495), (Value.str (Str.ofString "order") 496), (Value.str (Str.ofString "height") 497)]) 0) (List.toArray []))),
  (214, (Obj.mk (Value.type "tuple") none (Data.seq (List.toArray []) 0) (List.toArray []))),
  (216, (Obj.mk (Value.type "code") none (Data.fields (List.toArray [(Value.str (Str.ofString "_law_run") 487), (Value.str (Str.ofString "_law_run") 488), (Value.str (Str.ofString "/claim/cut.py") 489), (Value.int 269 0), (Value.int 2 0), (Value.int 0 0), (Value.int 0 0), (Value.int 3 0), (Value.ref 211), (Value.bool true), (Value.int 181 0), (Value.ref 212), Value.none, (Value.ref 213), (Value.ref 214), (Value.ref 215), (Value.int 498 0), (Value.int 269 0), (Value.str (Str.ofString "/claim/cut.py") 499)])) (List.toArray []))),
  (217, (Obj.mk (Value.type "function") none (Data.func (FuncData.mk (Str.ofString "_law_run") (Str.ofString "_law_run") (argsAt 26) (.stmts (bodyAt 26)) (scopeAt 26) 3 [] Value.none Value.none Value.none (Value.str (Str.ofString "law_np0293_01") 391) none (Value.ref 216) Value.none 0)) (List.toArray []))),
  (218, (Obj.mk (Value.type "tuple") none (Data.seq (List.toArray []) 0) (List.toArray []))),
  (220, (Obj.mk (Value.type "tuple") none (Data.seq (List.toArray [(Value.str (Str.ofString "box") 504), (Value.str (Str.ofString "form") 505), (Value.str (Str.ofString "found") 506)]) 0) (List.toArray []))),
  (221, (Obj.mk (Value.type "tuple") none (Data.seq (List.toArray []) 0) (List.toArray []))),
  (223, (Obj.mk (Value.type "code") none (Data.fields (List.toArray [(Value.str (Str.ofString "_law_statement") 501), (Value.str (Str.ofString "_law_statement") 502), (Value.str (Str.ofString "/claim/cut.py") 503), (Value.int 286 0), (Value.int 2 0), (Value.int 0 0), (Value.int 0 0), (Value.int 3 0), (Value.ref 218), (Value.bool true), (Value.int 181 0), (Value.ref 219), Value.none, (Value.ref 220), (Value.ref 221), (Value.ref 222), (Value.int 507 0), (Value.int 286 0), (Value.str (Str.ofString "/claim/cut.py") 508)])) (List.toArray []))),
  (224, (Obj.mk (Value.type "function") none (Data.func (FuncData.mk (Str.ofString "_law_statement") (Str.ofString "_law_statement") (argsAt 27) (.stmts (bodyAt 27)) (scopeAt 27) 3 [] Value.none Value.none Value.none (Value.str (Str.ofString "law_np0293_01") 391) none (Value.ref 223) Value.none 0)) (List.toArray []))),
  (225, (Obj.mk (Value.type "tuple") none (Data.seq (List.toArray []) 0) (List.toArray []))),
  (227, (Obj.mk (Value.type "tuple") none (Data.seq (List.toArray [(Value.str (Str.ofString "statement") 513), (Value.str (Str.ofString "notes") 514), (Value.str (Str.ofString "is_set") 515), (Value.str (Str.ofString "matched") 516), (Value.str (Str.ofString "subject") 517), (Value.str (Str.ofString "pattern") 518), (Value.str (Str.ofString "value") 519)]) 0) (List.toArray []))),
  (228, (Obj.mk (Value.type "tuple") none (Data.seq (List.toArray []) 0) (List.toArray []))),
  (230, (Obj.mk (Value.type "code") none (Data.fields (List.toArray [(Value.str (Str.ofString "_law_events") 510), (Value.str (Str.ofString "_law_events") 511), (Value.str (Str.ofString "/claim/cut.py") 512), (Value.int 296 0), (Value.int 2 0), (Value.int 0 0), (Value.int 0 0), (Value.int 3 0), (Value.ref 225), (Value.bool true), (Value.int 181 0), (Value.ref 226), Value.none, (Value.ref 227), (Value.ref 228), (Value.ref 229), (Value.int 520 0), (Value.int 296 0), (Value.str (Str.ofString "/claim/cut.py") 521)])) (List.toArray []))),
  (231, (Obj.mk (Value.type "function") none (Data.func (FuncData.mk (Str.ofString "_law_events") (Str.ofString "_law_events") (argsAt 28) (.stmts (bodyAt 28)) (scopeAt 28) 3 [] Value.none Value.none Value.none (Value.str (Str.ofString "law_np0293_01") 391) none (Value.ref 230) Value.none 0)) (List.toArray []))),
  (232, (Obj.mk (Value.type "tuple") none (Data.seq (List.toArray []) 0) (List.toArray []))),
  (234, (Obj.mk (Value.type "tuple") none (Data.seq (List.toArray [(Value.str (Str.ofString "statement") 526), (Value.str (Str.ofString "made") 527)]) 0) (List.toArray []))),
  (235, (Obj.mk (Value.type "tuple") none (Data.seq (List.toArray []) 0) (List.toArray []))),
  (237, (Obj.mk (Value.type "code") none (Data.fields (List.toArray [(Value.str (Str.ofString "_law_gotos_right") 523), (Value.str (Str.ofString "_law_gotos_right") 524), (Value.str (Str.ofString "/claim/cut.py") 525), (Value.int 314 0), (Value.int 1 0), (Value.int 0 0), (Value.int 0 0), (Value.int 3 0), (Value.ref 232), (Value.bool true), (Value.int 181 0), (Value.ref 233), Value.none, (Value.ref 234), (Value.ref 235), (Value.ref 236), (Value.int 528 0), (Value.int 314 0), (Value.str (Str.ofString "/claim/cut.py") 529)])) (List.toArray []))),
  (238, (Obj.mk (Value.type "function") none (Data.func (FuncData.mk (Str.ofString "_law_gotos_right") (Str.ofString "_law_gotos_right") (argsAt 29) (.stmts (bodyAt 29)) (scopeAt 29) 3 [] Value.none Value.none Value.none (Value.str (Str.ofString "law_np0293_01") 391) none (Value.ref 237) Value.none 0)) (List.toArray []))),
  (239, (Obj.mk (Value.type "tuple") none (Data.seq (List.toArray []) 0) (List.toArray []))),
  (242, (Obj.mk (Value.type "code") none (Data.fields (List.toArray [(Value.str (Str.ofString "law") 531), (Value.str (Str.ofString "law") 532), (Value.str (Str.ofString "/claim/cut.py") 533), (Value.int 328 0), (Value.int 1 0), (Value.int 0 0), (Value.int 0 0), (Value.int 3 0), (Value.ref 239), (Value.bool true), (Value.int 181 0), (Value.ref 240), Value.none, Value.none, Value.none, (Value.ref 241), (Value.int 534 0), (Value.int 328 0), (Value.str (Str.ofString "/claim/cut.py") 535)])) (List.toArray []))),
  (243, (Obj.mk (Value.type "function") none (Data.func (FuncData.mk (Str.ofString "law") (Str.ofString "law") (argsAt 30) (.stmts (bodyAt 30)) (scopeAt 30) 3 [] Value.none Value.none Value.none (Value.str (Str.ofString "law_np0293_01") 391) none (Value.ref 242) Value.none 0)) (List.toArray [])))]
noncomputable def as0 : List Addr := [2, 3, 15, 18, 23, 24, 25, 27, 28, 30, 31, 32, 33, 34, 35, 45, 47, 48, 50, 51, 52, 53, 54, 55, 56, 59, 61, 62, 64, 65, 66, 68, 69, 71, 72, 73, 75, 76, 78, 79, 80, 82, 83, 85, 86, 87, 89, 90, 92, 93, 94, 96, 97, 99, 100, 101, 103, 104, 106, 107, 108, 110, 111, 113, 114, 115, 117, 118, 120, 121, 122, 124, 125, 127, 128, 136, 138, 139, 141, 142, 143, 144, 145, 146, 147, 150, 152, 153, 155, 156, 157, 159, 160, 162, 163, 164, 167, 168, 169, 171, 172, 174, 175, 176, 178, 179, 181, 182, 183, 185, 186, 188, 189, 190, 192, 193, 195, 196, 197, 199, 200, 202, 203, 204, 206, 207, 209, 210, 211, 213, 214, 216, 217, 218, 220, 221, 223, 224, 225, 227, 228, 230, 231, 232, 234, 235, 237, 238, 239, 242, 243]
noncomputable def q0 : Program := { PySem.Challenge.pw_np0293_01 with main := { PySem.Challenge.pw_np0293_01.main with body := PySem.Challenge.pw_np0293_01.main.body.drop 30 } }
noncomputable def loose0 : List Str := ["SnobolError", "Compiled", "value_orders", "row_orders", "unary_orders", "binary_orders", "name_orders", "body_orders", "goto_orders", "compile_statement", "depth_of", "change_of", "Statement", "_law_take", "_law_total", "_law_tree", "_law_goal", "_law_value", "_law_several", "_law_name", "_law_pops", "_law_done", "_law_run", "_law_statement", "_law_events", "_law_gotos_right"]
theorem as0_eq : ∀ P : Params, as0 = (K0 P).map (·.1) := fun _ => by kernel_rfl
noncomputable def hook0 : Hook := kHook K0 as0 as0_eq
noncomputable def b11v0 (_ : Params) : Obj := (Obj.mk (Value.type "tuple") none (Data.seq (List.toArray []) 0) (List.toArray []))
noncomputable def b12v0 (_ : Params) : Obj := (Obj.mk Value.none none (Data.fields (List.toArray [])) (List.toArray []))
noncomputable def b13v0 (_ : Params) : Obj := (Obj.mk (Value.type "code") none (Data.fields (List.toArray [(Value.str (Str.ofString "<module>") 182), (Value.str (Str.ofString "<module>") 183), (Value.str (Str.ofString "/claim/cut.py") 184), (Value.int 1 0), (Value.int 0 0), (Value.int 0 0), (Value.int 0 0), (Value.int 0 0), (Value.ref 11), (Value.bool false), (Value.int 181 0), (Value.ref 12), Value.none, Value.none, Value.none, Value.none, (Value.int 185 0), (Value.int 1 0), (Value.str (Str.ofString "/claim/cut.py") 186)])) (List.toArray []))
noncomputable def b14v0 (_ : Params) : Obj := (Obj.mk (Value.type "frame") none Data.plain (List.toArray [(some (Value.ref 13)), (some (Value.ref 3)), (some (Value.ref 3)), none, (some (Value.str (Str.ofString "__main__") 164)), none, (some (Value.ref 0))]))
noncomputable def hp0 (P : Params) : Heap := Heap.mk (Array.mk [boot_o_0 P, boot_o_1 P, boot_o_2 P, boot_o_3 P, boot_o_4 P, boot_o_5 P, boot_o_6 P, boot_o_7 P, boot_o_8 P, boot_o_9 P, boot_o_10 P, b11v0 P, b12v0 P, b13v0 P, b14v0 P]) {}
noncomputable def b2v1 (P : Params) : Obj := (Obj.mk Value.none none (Data.dict (List.toArray [(DictEntry.mk (PyData.keyHash P (Str.ofString "type.__subclasses__.Exception.0")) (Value.str (Str.ofString "type.__subclasses__.Exception.0") 219) (Value.int 34 0)), (DictEntry.mk (PyData.keyHash P (Str.ofString "type.__subclasses__.Exception.n")) (Value.str (Str.ofString "type.__subclasses__.Exception.n") 220) (Value.int 1 0))]) 2) (List.toArray []))
noncomputable def b3v1 (P : Params) : Obj := (Obj.mk (Value.type "dict") none (Data.dict (List.toArray [(DictEntry.mk (PyData.keyHash P (Str.ofString "__name__")) (Value.str (Str.ofString "__name__") 165) (Value.str (Str.ofString "snobol.values") 187)), (DictEntry.mk (PyData.keyHash P (Str.ofString "__doc__")) (Value.str (Str.ofString "__doc__") 166) Value.none), (DictEntry.mk (PyData.keyHash P (Str.ofString "__package__")) (Value.str (Str.ofString "__package__") 167) Value.none), (DictEntry.mk (PyData.keyHash P (Str.ofString "__loader__")) (Value.str (Str.ofString "__loader__") 168) (Value.builtin "__main__.__loader__#opaque")), (DictEntry.mk (PyData.keyHash P (Str.ofString "__spec__")) (Value.str (Str.ofString "__spec__") 169) Value.none), (DictEntry.mk (PyData.keyHash P (Str.ofString "__annotations__")) (Value.str (Str.ofString "__annotations__") 170) (Value.ref 6)), (DictEntry.mk (PyData.keyHash P (Str.ofString "__builtins__")) (Value.str (Str.ofString "__builtins__") 171) (Value.ref 4)), (DictEntry.mk (PyData.keyHash P (Str.ofString "__file__")) (Value.str (Str.ofString "__file__") 173) (Value.str (Str.ofString "/claim/cut.py") 172)), (DictEntry.mk (PyData.keyHash P (Str.ofString "__cached__")) (Value.str (Str.ofString "__cached__") 174) Value.none), (DictEntry.mk (PyData.keyHash P (Str.ofString "SnobolError")) (Value.str (Str.ofString "SnobolError") 222) (Value.ref 34))]) 10) (List.toArray []))
noncomputable def b12v1 (_ : Params) : Obj := (Obj.mk Value.none none (Data.fields (List.toArray [(Value.int 2 0), (Value.int 0 0), (Value.ref 21)])) (List.toArray []))
noncomputable def b15v1 (_ : Params) : Obj := (Obj.mk (Value.type "tuple") none (Data.seq (List.toArray [(Value.type "Exception")]) 0) (List.toArray []))
noncomputable def b16v1 (_ : Params) : Obj := (Obj.mk (Value.type "builtin_function_or_method") none (Data.fields (List.toArray [(Value.builtin "type.__prepare__"), (Value.type "type")])) (List.toArray []))
noncomputable def b17v1 (P : Params) : Obj := (Obj.mk (Value.type "dict") none (Data.dict (List.toArray [(DictEntry.mk (PyData.keyHash P (Str.ofString "__module__")) (Value.str (Str.ofString "__module__") 196) (Value.str (Str.ofString "snobol.values") 187)), (DictEntry.mk (PyData.keyHash P (Str.ofString "__qualname__")) (Value.str (Str.ofString "__qualname__") 198) (Value.str (Str.ofString "SnobolError") 197)), (DictEntry.mk (PyData.keyHash P (Str.ofString "__firstlineno__")) (Value.str (Str.ofString "__firstlineno__") 200) (Value.int 2 199)), (DictEntry.mk (PyData.keyHash P (Str.ofString "__init__")) (Value.str (Str.ofString "__init__") 211) (Value.ref 31)), (DictEntry.mk (PyData.keyHash P (Str.ofString "__static_attributes__")) (Value.str (Str.ofString "__static_attributes__") 214) (Value.ref 32)), (DictEntry.mk (PyData.keyHash P (Str.ofString "__classcell__")) (Value.str (Str.ofString "__classcell__") 215) (Value.ref 18))]) 6) (List.toArray []))
noncomputable def b18v1 (_ : Params) : Obj := (Obj.mk (Value.type "cell") none (Data.cell (some (Value.ref 34))) (List.toArray []))
noncomputable def b19v1 (_ : Params) : Obj := (Obj.mk (Value.type "tuple") none (Data.seq (List.toArray []) 0) (List.toArray []))
noncomputable def b20v1 (_ : Params) : Obj := (Obj.mk Value.none none (Data.fields (List.toArray [(Value.int 4 0), (Value.int 4 0), (Value.ref 30)])) (List.toArray []))
noncomputable def b21v1 (_ : Params) : Obj := (Obj.mk (Value.type "code") none (Data.fields (List.toArray [(Value.str (Str.ofString "SnobolError") 191), (Value.str (Str.ofString "SnobolError") 192), (Value.str (Str.ofString "/claim/cut.py") 193), (Value.int 2 0), (Value.int 0 0), (Value.int 0 0), (Value.int 0 0), (Value.int 0 0), (Value.ref 19), (Value.bool false), (Value.int 181 0), (Value.ref 20), Value.none, Value.none, Value.none, Value.none, (Value.int 194 0), (Value.int 2 0), (Value.str (Str.ofString "/claim/cut.py") 195)])) (List.toArray []))
noncomputable def b22v1 (_ : Params) : Obj := (Obj.mk (Value.type "frame") none Data.plain (List.toArray [(some (Value.ref 21)), (some (Value.ref 3)), (some (Value.ref 17)), none, (some (Value.str (Str.ofString "snobol.values") 187)), none, (some (Value.ref 0))]))
noncomputable def b23v1 (_ : Params) : Obj := (Obj.mk (Value.type "tuple") none (Data.seq (List.toArray [(Value.str (Str.ofString "") 201)]) 0) (List.toArray []))
noncomputable def b24v1 (_ : Params) : Obj := (Obj.mk (Value.type "tuple") none (Data.seq (List.toArray [(Value.ref 18)]) 0) (List.toArray []))
noncomputable def b25v1 (_ : Params) : Obj := (Obj.mk (Value.type "tuple") none (Data.seq (List.toArray [(Value.str (Str.ofString "__class__") 205)]) 0) (List.toArray []))
noncomputable def b26v1 (_ : Params) : Obj := (Obj.mk Value.none none (Data.fields (List.toArray [])) (List.toArray []))
noncomputable def b27v1 (_ : Params) : Obj := (Obj.mk (Value.type "tuple") none (Data.seq (List.toArray [(Value.str (Str.ofString "self") 206), (Value.str (Str.ofString "number") 207), (Value.str (Str.ofString "told") 208)]) 0) (List.toArray []))
noncomputable def b28v1 (_ : Params) : Obj := (Obj.mk (Value.type "tuple") none (Data.seq (List.toArray []) 0) (List.toArray []))
noncomputable def b29v1 (_ : Params) : Obj := (Obj.mk Value.none none (Data.func (FuncData.mk (Str.ofString "__init__") (Str.ofString "SnobolError.__init__") (argsI 1) (.stmts (bodyI 1)) (scopeI 1) 0 [] Value.none Value.none Value.none Value.none none Value.none Value.none 0)) (List.toArray []))
noncomputable def b30v1 (_ : Params) : Obj := (Obj.mk (Value.type "code") none (Data.fields (List.toArray [(Value.str (Str.ofString "__init__") 202), (Value.str (Str.ofString "SnobolError.__init__") 203), (Value.str (Str.ofString "/claim/cut.py") 204), (Value.int 4 0), (Value.int 3 0), (Value.int 0 0), (Value.int 0 0), (Value.int 3 0), (Value.ref 25), (Value.bool true), (Value.int 181 0), (Value.ref 26), Value.none, (Value.ref 27), (Value.ref 28), (Value.ref 29), (Value.int 209 0), (Value.int 4 0), (Value.str (Str.ofString "/claim/cut.py") 210)])) (List.toArray []))
noncomputable def b31v1 (_ : Params) : Obj := (Obj.mk (Value.type "function") none (Data.func (FuncData.mk (Str.ofString "__init__") (Str.ofString "SnobolError.__init__") (argsI 1) (.stmts (bodyI 1)) (scopeI 1) 3 [((Str.ofString "__class__"), 18)] (Value.ref 23) Value.none Value.none (Value.str (Str.ofString "snobol.values") 187) none (Value.ref 30) (Value.ref 24) 0)) (List.toArray []))
noncomputable def b32v1 (_ : Params) : Obj := (Obj.mk (Value.type "tuple") none (Data.seq (List.toArray [(Value.str (Str.ofString "number") 212), (Value.str (Str.ofString "told") 213)]) 0) (List.toArray []))
noncomputable def b33v1 (P : Params) : Obj := (Obj.mk (Value.type "dict") none (Data.dict (List.toArray [(DictEntry.mk (PyData.keyHash P (Str.ofString "__module__")) (Value.str (Str.ofString "__module__") 196) (Value.str (Str.ofString "snobol.values") 187)), (DictEntry.mk (PyData.keyHash P (Str.ofString "__firstlineno__")) (Value.str (Str.ofString "__firstlineno__") 200) (Value.int 2 199)), (DictEntry.mk (PyData.keyHash P (Str.ofString "__init__")) (Value.str (Str.ofString "__init__") 211) (Value.ref 31)), (DictEntry.mk (PyData.keyHash P (Str.ofString "__static_attributes__")) (Value.str (Str.ofString "__static_attributes__") 214) (Value.ref 32)), (DictEntry.mk (PyData.keyHash P (Str.ofString "__weakref__")) (Value.str (Str.ofString "__weakref__") 217) (Value.ref 35)), (DictEntry.mk (PyData.keyHash P (Str.ofString "__doc__")) (Value.str (Str.ofString "__doc__") 218) Value.none)]) 4) (List.toArray []))
noncomputable def b34v1 (_ : Params) : Obj := (Obj.mk (Value.type "type") none (Data.cls (ClassData.mk (Str.ofString "SnobolError") [(Value.type "Exception")] [(Value.ref 34), (Value.type "Exception"), (Value.type "BaseException"), (Value.type "object")] 33 (Str.ofString "SnobolError") true [] [] false none false)) (List.toArray [(some (Value.ref 15)), none, (some (Value.str (Str.ofString "SnobolError") 189)), (some (Value.str (Str.ofString "SnobolError") 197)), (some (Value.builtin "Exception.__new__")), (some (Value.bool true))]))
noncomputable def b35v1 (_ : Params) : Obj := (Obj.mk (Value.type "getset_descriptor") none (Data.fields (List.toArray [(Value.str (Str.ofString "__weakref__") 216), (Value.ref 34), (Value.builtin "ExceptionGroup.__weakref__"), Value.none])) (List.toArray []))
noncomputable def b36v1 (_ : Params) : Obj := (Obj.mk (Value.type "super") none (Data.fields (List.toArray [(Value.ref 34), (Value.ref 34), (Value.ref 34)])) (List.toArray []))
noncomputable def b37v1 (_ : Params) : Obj := (Obj.mk (Value.type "builtin_function_or_method") none (Data.fields (List.toArray [(Value.builtin "object.__init_subclass__"), (Value.ref 34)])) (List.toArray []))
noncomputable def hp1 (P : Params) : Heap := Heap.mk (Array.mk [boot_o_0 P, boot_o_1 P, b2v1 P, b3v1 P, boot_o_4 P, boot_o_5 P, boot_o_6 P, boot_o_7 P, boot_o_8 P, boot_o_9 P, boot_o_10 P, b11v0 P, b12v1 P, b13v0 P, b14v0 P, b15v1 P, b16v1 P, b17v1 P, b18v1 P, b19v1 P, b20v1 P, b21v1 P, b22v1 P, b23v1 P, b24v1 P, b25v1 P, b26v1 P, b27v1 P, b28v1 P, b29v1 P, b30v1 P, b31v1 P, b32v1 P, b33v1 P, b34v1 P, b35v1 P, b36v1 P, b37v1 P]) {}
noncomputable def b3v2 (P : Params) : Obj := (Obj.mk (Value.type "dict") none (Data.dict (List.toArray [(DictEntry.mk (PyData.keyHash P (Str.ofString "__name__")) (Value.str (Str.ofString "__name__") 165) (Value.str (Str.ofString "snobol.compiler") 223)), (DictEntry.mk (PyData.keyHash P (Str.ofString "__doc__")) (Value.str (Str.ofString "__doc__") 166) Value.none), (DictEntry.mk (PyData.keyHash P (Str.ofString "__package__")) (Value.str (Str.ofString "__package__") 167) Value.none), (DictEntry.mk (PyData.keyHash P (Str.ofString "__loader__")) (Value.str (Str.ofString "__loader__") 168) (Value.builtin "__main__.__loader__#opaque")), (DictEntry.mk (PyData.keyHash P (Str.ofString "__spec__")) (Value.str (Str.ofString "__spec__") 169) Value.none), (DictEntry.mk (PyData.keyHash P (Str.ofString "__annotations__")) (Value.str (Str.ofString "__annotations__") 170) (Value.ref 6)), (DictEntry.mk (PyData.keyHash P (Str.ofString "__builtins__")) (Value.str (Str.ofString "__builtins__") 171) (Value.ref 4)), (DictEntry.mk (PyData.keyHash P (Str.ofString "__file__")) (Value.str (Str.ofString "__file__") 173) (Value.str (Str.ofString "/claim/cut.py") 172)), (DictEntry.mk (PyData.keyHash P (Str.ofString "__cached__")) (Value.str (Str.ofString "__cached__") 174) Value.none), (DictEntry.mk (PyData.keyHash P (Str.ofString "SnobolError")) (Value.str (Str.ofString "SnobolError") 222) (Value.ref 34)), (DictEntry.mk (PyData.keyHash P (Str.ofString "Compiled")) (Value.str (Str.ofString "Compiled") 261) (Value.ref 54))]) 11) (List.toArray []))
noncomputable def b12v2 (_ : Params) : Obj := (Obj.mk Value.none none (Data.fields (List.toArray [(Value.int 2 0), (Value.int 0 0), (Value.ref 21), (Value.int 9 0), (Value.int 0 0), (Value.ref 43)])) (List.toArray []))
noncomputable def b38v2 (_ : Params) : Obj := (Obj.mk (Value.type "tuple") none (Data.seq (List.toArray []) 0) (List.toArray []))
noncomputable def b39v2 (_ : Params) : Obj := (Obj.mk (Value.type "builtin_function_or_method") none (Data.fields (List.toArray [(Value.builtin "type.__prepare__"), (Value.type "type")])) (List.toArray []))
noncomputable def b40v2 (P : Params) : Obj := (Obj.mk (Value.type "dict") none (Data.dict (List.toArray [(DictEntry.mk (PyData.keyHash P (Str.ofString "__module__")) (Value.str (Str.ofString "__module__") 232) (Value.str (Str.ofString "snobol.compiler") 223)), (DictEntry.mk (PyData.keyHash P (Str.ofString "__qualname__")) (Value.str (Str.ofString "__qualname__") 234) (Value.str (Str.ofString "Compiled") 233)), (DictEntry.mk (PyData.keyHash P (Str.ofString "__firstlineno__")) (Value.str (Str.ofString "__firstlineno__") 236) (Value.int 9 235)), (DictEntry.mk (PyData.keyHash P (Str.ofString "__init__")) (Value.str (Str.ofString "__init__") 248) (Value.ref 51)), (DictEntry.mk (PyData.keyHash P (Str.ofString "__static_attributes__")) (Value.str (Str.ofString "__static_attributes__") 254) (Value.ref 52))]) 5) (List.toArray []))
noncomputable def b41v2 (_ : Params) : Obj := (Obj.mk (Value.type "tuple") none (Data.seq (List.toArray []) 0) (List.toArray []))
noncomputable def b42v2 (_ : Params) : Obj := (Obj.mk Value.none none (Data.fields (List.toArray [(Value.int 11 0), (Value.int 4 0), (Value.ref 50)])) (List.toArray []))
noncomputable def b43v2 (_ : Params) : Obj := (Obj.mk (Value.type "code") none (Data.fields (List.toArray [(Value.str (Str.ofString "Compiled") 227), (Value.str (Str.ofString "Compiled") 228), (Value.str (Str.ofString "/claim/cut.py") 229), (Value.int 9 0), (Value.int 0 0), (Value.int 0 0), (Value.int 0 0), (Value.int 0 0), (Value.ref 41), (Value.bool false), (Value.int 181 0), (Value.ref 42), Value.none, Value.none, Value.none, Value.none, (Value.int 230 0), (Value.int 9 0), (Value.str (Str.ofString "/claim/cut.py") 231)])) (List.toArray []))
noncomputable def b44v2 (_ : Params) : Obj := (Obj.mk (Value.type "frame") none Data.plain (List.toArray [(some (Value.ref 43)), (some (Value.ref 3)), (some (Value.ref 40)), none, (some (Value.str (Str.ofString "snobol.compiler") 223)), none, (some (Value.ref 0))]))
noncomputable def b45v2 (_ : Params) : Obj := (Obj.mk (Value.type "tuple") none (Data.seq (List.toArray []) 0) (List.toArray []))
noncomputable def b46v2 (_ : Params) : Obj := (Obj.mk Value.none none (Data.fields (List.toArray [])) (List.toArray []))
noncomputable def b47v2 (_ : Params) : Obj := (Obj.mk (Value.type "tuple") none (Data.seq (List.toArray [(Value.str (Str.ofString "self") 240), (Value.str (Str.ofString "label") 241), (Value.str (Str.ofString "body") 242), (Value.str (Str.ofString "success") 243), (Value.str (Str.ofString "failure") 244), (Value.str (Str.ofString "line") 245)]) 0) (List.toArray []))
noncomputable def b48v2 (_ : Params) : Obj := (Obj.mk (Value.type "tuple") none (Data.seq (List.toArray []) 0) (List.toArray []))
noncomputable def b49v2 (_ : Params) : Obj := (Obj.mk Value.none none (Data.func (FuncData.mk (Str.ofString "__init__") (Str.ofString "Compiled.__init__") (argsI 3) (.stmts (bodyI 3)) (scopeI 3) 0 [] Value.none Value.none Value.none Value.none none Value.none Value.none 0)) (List.toArray []))
noncomputable def b50v2 (_ : Params) : Obj := (Obj.mk (Value.type "code") none (Data.fields (List.toArray [(Value.str (Str.ofString "__init__") 237), (Value.str (Str.ofString "Compiled.__init__") 238), (Value.str (Str.ofString "/claim/cut.py") 239), (Value.int 11 0), (Value.int 6 0), (Value.int 0 0), (Value.int 0 0), (Value.int 3 0), (Value.ref 45), (Value.bool true), (Value.int 181 0), (Value.ref 46), Value.none, (Value.ref 47), (Value.ref 48), (Value.ref 49), (Value.int 246 0), (Value.int 11 0), (Value.str (Str.ofString "/claim/cut.py") 247)])) (List.toArray []))
noncomputable def b51v2 (_ : Params) : Obj := (Obj.mk (Value.type "function") none (Data.func (FuncData.mk (Str.ofString "__init__") (Str.ofString "Compiled.__init__") (argsI 3) (.stmts (bodyI 3)) (scopeI 3) 3 [] Value.none Value.none Value.none (Value.str (Str.ofString "snobol.compiler") 223) none (Value.ref 50) Value.none 0)) (List.toArray []))
noncomputable def b52v2 (_ : Params) : Obj := (Obj.mk (Value.type "tuple") none (Data.seq (List.toArray [(Value.str (Str.ofString "body") 249), (Value.str (Str.ofString "failure") 250), (Value.str (Str.ofString "label") 251), (Value.str (Str.ofString "line") 252), (Value.str (Str.ofString "success") 253)]) 0) (List.toArray []))
noncomputable def b53v2 (P : Params) : Obj := (Obj.mk (Value.type "dict") none (Data.dict (List.toArray [(DictEntry.mk (PyData.keyHash P (Str.ofString "__module__")) (Value.str (Str.ofString "__module__") 232) (Value.str (Str.ofString "snobol.compiler") 223)), (DictEntry.mk (PyData.keyHash P (Str.ofString "__firstlineno__")) (Value.str (Str.ofString "__firstlineno__") 236) (Value.int 9 235)), (DictEntry.mk (PyData.keyHash P (Str.ofString "__init__")) (Value.str (Str.ofString "__init__") 248) (Value.ref 51)), (DictEntry.mk (PyData.keyHash P (Str.ofString "__static_attributes__")) (Value.str (Str.ofString "__static_attributes__") 254) (Value.ref 52)), (DictEntry.mk (PyData.keyHash P (Str.ofString "__dict__")) (Value.str (Str.ofString "__dict__") 256) (Value.ref 55)), (DictEntry.mk (PyData.keyHash P (Str.ofString "__weakref__")) (Value.str (Str.ofString "__weakref__") 258) (Value.ref 56)), (DictEntry.mk (PyData.keyHash P (Str.ofString "__doc__")) (Value.str (Str.ofString "__doc__") 259) Value.none)]) 4) (List.toArray []))
noncomputable def b54v2 (_ : Params) : Obj := (Obj.mk (Value.type "type") none (Data.cls (ClassData.mk (Str.ofString "Compiled") [(Value.type "object")] [(Value.ref 54), (Value.type "object")] 53 (Str.ofString "Compiled") true [] [] false none false)) (List.toArray [none, none, (some (Value.str (Str.ofString "Compiled") 225)), (some (Value.str (Str.ofString "Compiled") 233)), (some (Value.builtin "object.__new__")), (some (Value.bool true))]))
noncomputable def b55v2 (_ : Params) : Obj := (Obj.mk (Value.type "getset_descriptor") none (Data.fields (List.toArray [(Value.str (Str.ofString "__dict__") 255), (Value.ref 54), (Value.builtin "function.__dict__"), (Value.builtin "function.__dict__#set")])) (List.toArray []))
noncomputable def b56v2 (_ : Params) : Obj := (Obj.mk (Value.type "getset_descriptor") none (Data.fields (List.toArray [(Value.str (Str.ofString "__weakref__") 257), (Value.ref 54), (Value.builtin "ExceptionGroup.__weakref__"), Value.none])) (List.toArray []))
noncomputable def b57v2 (_ : Params) : Obj := (Obj.mk (Value.type "super") none (Data.fields (List.toArray [(Value.ref 54), (Value.ref 54), (Value.ref 54)])) (List.toArray []))
noncomputable def b58v2 (_ : Params) : Obj := (Obj.mk (Value.type "builtin_function_or_method") none (Data.fields (List.toArray [(Value.builtin "object.__init_subclass__"), (Value.ref 54)])) (List.toArray []))
noncomputable def hp2 (P : Params) : Heap := Heap.mk (Array.mk [boot_o_0 P, boot_o_1 P, b2v1 P, b3v2 P, boot_o_4 P, boot_o_5 P, boot_o_6 P, boot_o_7 P, boot_o_8 P, boot_o_9 P, boot_o_10 P, b11v0 P, b12v2 P, b13v0 P, b14v0 P, b15v1 P, b16v1 P, b17v1 P, b18v1 P, b19v1 P, b20v1 P, b21v1 P, b22v1 P, b23v1 P, b24v1 P, b25v1 P, b26v1 P, b27v1 P, b28v1 P, b29v1 P, b30v1 P, b31v1 P, b32v1 P, b33v1 P, b34v1 P, b35v1 P, b36v1 P, b37v1 P, b38v2 P, b39v2 P, b40v2 P, b41v2 P, b42v2 P, b43v2 P, b44v2 P, b45v2 P, b46v2 P, b47v2 P, b48v2 P, b49v2 P, b50v2 P, b51v2 P, b52v2 P, b53v2 P, b54v2 P, b55v2 P, b56v2 P, b57v2 P, b58v2 P]) {}
noncomputable def b3v3 (P : Params) : Obj := (Obj.mk (Value.type "dict") none (Data.dict (List.toArray [(DictEntry.mk (PyData.keyHash P (Str.ofString "__name__")) (Value.str (Str.ofString "__name__") 165) (Value.str (Str.ofString "snobol.compiler") 223)), (DictEntry.mk (PyData.keyHash P (Str.ofString "__doc__")) (Value.str (Str.ofString "__doc__") 166) Value.none), (DictEntry.mk (PyData.keyHash P (Str.ofString "__package__")) (Value.str (Str.ofString "__package__") 167) Value.none), (DictEntry.mk (PyData.keyHash P (Str.ofString "__loader__")) (Value.str (Str.ofString "__loader__") 168) (Value.builtin "__main__.__loader__#opaque")), (DictEntry.mk (PyData.keyHash P (Str.ofString "__spec__")) (Value.str (Str.ofString "__spec__") 169) Value.none), (DictEntry.mk (PyData.keyHash P (Str.ofString "__annotations__")) (Value.str (Str.ofString "__annotations__") 170) (Value.ref 6)), (DictEntry.mk (PyData.keyHash P (Str.ofString "__builtins__")) (Value.str (Str.ofString "__builtins__") 171) (Value.ref 4)), (DictEntry.mk (PyData.keyHash P (Str.ofString "__file__")) (Value.str (Str.ofString "__file__") 173) (Value.str (Str.ofString "/claim/cut.py") 172)), (DictEntry.mk (PyData.keyHash P (Str.ofString "__cached__")) (Value.str (Str.ofString "__cached__") 174) Value.none), (DictEntry.mk (PyData.keyHash P (Str.ofString "SnobolError")) (Value.str (Str.ofString "SnobolError") 222) (Value.ref 34)), (DictEntry.mk (PyData.keyHash P (Str.ofString "Compiled")) (Value.str (Str.ofString "Compiled") 261) (Value.ref 54)), (DictEntry.mk (PyData.keyHash P (Str.ofString "value_orders")) (Value.str (Str.ofString "value_orders") 269) (Value.ref 65)), (DictEntry.mk (PyData.keyHash P (Str.ofString "row_orders")) (Value.str (Str.ofString "row_orders") 278) (Value.ref 72)), (DictEntry.mk (PyData.keyHash P (Str.ofString "unary_orders")) (Value.str (Str.ofString "unary_orders") 287) (Value.ref 79)), (DictEntry.mk (PyData.keyHash P (Str.ofString "binary_orders")) (Value.str (Str.ofString "binary_orders") 296) (Value.ref 86)), (DictEntry.mk (PyData.keyHash P (Str.ofString "name_orders")) (Value.str (Str.ofString "name_orders") 304) (Value.ref 93)), (DictEntry.mk (PyData.keyHash P (Str.ofString "body_orders")) (Value.str (Str.ofString "body_orders") 312) (Value.ref 100)), (DictEntry.mk (PyData.keyHash P (Str.ofString "goto_orders")) (Value.str (Str.ofString "goto_orders") 321) (Value.ref 107)), (DictEntry.mk (PyData.keyHash P (Str.ofString "compile_statement")) (Value.str (Str.ofString "compile_statement") 331) (Value.ref 114)), (DictEntry.mk (PyData.keyHash P (Str.ofString "depth_of")) (Value.str (Str.ofString "depth_of") 341) (Value.ref 121)), (DictEntry.mk (PyData.keyHash P (Str.ofString "change_of")) (Value.str (Str.ofString "change_of") 349) (Value.ref 128))]) 21) (List.toArray []))
noncomputable def b12v3 (_ : Params) : Obj := (Obj.mk Value.none none (Data.fields (List.toArray [(Value.int 2 0), (Value.int 0 0), (Value.ref 21), (Value.int 9 0), (Value.int 0 0), (Value.ref 43), (Value.int 17 0), (Value.int 0 0), (Value.ref 64), (Value.int 34 0), (Value.int 0 0), (Value.ref 71), (Value.int 39 0), (Value.int 0 0), (Value.ref 78), (Value.int 56 0), (Value.int 0 0), (Value.ref 85), (Value.int 60 0), (Value.int 0 0), (Value.ref 92), (Value.int 73 0), (Value.int 0 0), (Value.ref 99), (Value.int 85 0), (Value.int 0 0), (Value.ref 106), (Value.int 96 0), (Value.int 0 0), (Value.ref 113), (Value.int 101 0), (Value.int 0 0), (Value.ref 120), (Value.int 107 0), (Value.int 0 0), (Value.ref 127)])) (List.toArray []))
noncomputable def b59v3 (_ : Params) : Obj := (Obj.mk (Value.type "tuple") none (Data.seq (List.toArray []) 0) (List.toArray []))
noncomputable def b60v3 (_ : Params) : Obj := (Obj.mk Value.none none (Data.fields (List.toArray [])) (List.toArray []))
noncomputable def b61v3 (_ : Params) : Obj := (Obj.mk (Value.type "tuple") none (Data.seq (List.toArray [(Value.str (Str.ofString "tree") 265), (Value.str (Str.ofString "kind") 266)]) 0) (List.toArray []))
noncomputable def b62v3 (_ : Params) : Obj := (Obj.mk (Value.type "tuple") none (Data.seq (List.toArray []) 0) (List.toArray []))
noncomputable def b63v3 (_ : Params) : Obj := (Obj.mk Value.none none (Data.func (FuncData.mk (Str.ofString "value_orders") (Str.ofString "value_orders") (argsAt 4) (.stmts (bodyAt 4)) (scopeAt 4) 0 [] Value.none Value.none Value.none Value.none none Value.none Value.none 0)) (List.toArray []))
noncomputable def b64v3 (_ : Params) : Obj := (Obj.mk (Value.type "code") none (Data.fields (List.toArray [(Value.str (Str.ofString "value_orders") 262), (Value.str (Str.ofString "value_orders") 263), (Value.str (Str.ofString "/claim/cut.py") 264), (Value.int 17 0), (Value.int 1 0), (Value.int 0 0), (Value.int 0 0), (Value.int 3 0), (Value.ref 59), (Value.bool true), (Value.int 181 0), (Value.ref 60), Value.none, (Value.ref 61), (Value.ref 62), (Value.ref 63), (Value.int 267 0), (Value.int 17 0), (Value.str (Str.ofString "/claim/cut.py") 268)])) (List.toArray []))
noncomputable def b65v3 (_ : Params) : Obj := (Obj.mk (Value.type "function") none (Data.func (FuncData.mk (Str.ofString "value_orders") (Str.ofString "value_orders") (argsAt 4) (.stmts (bodyAt 4)) (scopeAt 4) 3 [] Value.none Value.none Value.none (Value.str (Str.ofString "snobol.compiler") 223) none (Value.ref 64) Value.none 0)) (List.toArray []))
noncomputable def b66v3 (_ : Params) : Obj := (Obj.mk (Value.type "tuple") none (Data.seq (List.toArray []) 0) (List.toArray []))
noncomputable def b67v3 (_ : Params) : Obj := (Obj.mk Value.none none (Data.fields (List.toArray [])) (List.toArray []))
noncomputable def b68v3 (_ : Params) : Obj := (Obj.mk (Value.type "tuple") none (Data.seq (List.toArray [(Value.str (Str.ofString "trees") 273), (Value.str (Str.ofString "found") 274), (Value.str (Str.ofString "tree") 275)]) 0) (List.toArray []))
noncomputable def b69v3 (_ : Params) : Obj := (Obj.mk (Value.type "tuple") none (Data.seq (List.toArray []) 0) (List.toArray []))
noncomputable def b70v3 (_ : Params) : Obj := (Obj.mk Value.none none (Data.func (FuncData.mk (Str.ofString "row_orders") (Str.ofString "row_orders") (argsAt 5) (.stmts (bodyAt 5)) (scopeAt 5) 0 [] Value.none Value.none Value.none Value.none none Value.none Value.none 0)) (List.toArray []))
noncomputable def b71v3 (_ : Params) : Obj := (Obj.mk (Value.type "code") none (Data.fields (List.toArray [(Value.str (Str.ofString "row_orders") 270), (Value.str (Str.ofString "row_orders") 271), (Value.str (Str.ofString "/claim/cut.py") 272), (Value.int 34 0), (Value.int 1 0), (Value.int 0 0), (Value.int 0 0), (Value.int 3 0), (Value.ref 66), (Value.bool true), (Value.int 181 0), (Value.ref 67), Value.none, (Value.ref 68), (Value.ref 69), (Value.ref 70), (Value.int 276 0), (Value.int 34 0), (Value.str (Str.ofString "/claim/cut.py") 277)])) (List.toArray []))
noncomputable def b72v3 (_ : Params) : Obj := (Obj.mk (Value.type "function") none (Data.func (FuncData.mk (Str.ofString "row_orders") (Str.ofString "row_orders") (argsAt 5) (.stmts (bodyAt 5)) (scopeAt 5) 3 [] Value.none Value.none Value.none (Value.str (Str.ofString "snobol.compiler") 223) none (Value.ref 71) Value.none 0)) (List.toArray []))
noncomputable def b73v3 (_ : Params) : Obj := (Obj.mk (Value.type "tuple") none (Data.seq (List.toArray []) 0) (List.toArray []))
noncomputable def b74v3 (_ : Params) : Obj := (Obj.mk Value.none none (Data.fields (List.toArray [])) (List.toArray []))
noncomputable def b75v3 (_ : Params) : Obj := (Obj.mk (Value.type "tuple") none (Data.seq (List.toArray [(Value.str (Str.ofString "op") 282), (Value.str (Str.ofString "tree") 283), (Value.str (Str.ofString "inner") 284)]) 0) (List.toArray []))
noncomputable def b76v3 (_ : Params) : Obj := (Obj.mk (Value.type "tuple") none (Data.seq (List.toArray []) 0) (List.toArray []))
noncomputable def b77v3 (_ : Params) : Obj := (Obj.mk Value.none none (Data.func (FuncData.mk (Str.ofString "unary_orders") (Str.ofString "unary_orders") (argsAt 6) (.stmts (bodyAt 6)) (scopeAt 6) 0 [] Value.none Value.none Value.none Value.none none Value.none Value.none 0)) (List.toArray []))
noncomputable def b78v3 (_ : Params) : Obj := (Obj.mk (Value.type "code") none (Data.fields (List.toArray [(Value.str (Str.ofString "unary_orders") 279), (Value.str (Str.ofString "unary_orders") 280), (Value.str (Str.ofString "/claim/cut.py") 281), (Value.int 39 0), (Value.int 2 0), (Value.int 0 0), (Value.int 0 0), (Value.int 3 0), (Value.ref 73), (Value.bool true), (Value.int 181 0), (Value.ref 74), Value.none, (Value.ref 75), (Value.ref 76), (Value.ref 77), (Value.int 285 0), (Value.int 39 0), (Value.str (Str.ofString "/claim/cut.py") 286)])) (List.toArray []))
noncomputable def b79v3 (_ : Params) : Obj := (Obj.mk (Value.type "function") none (Data.func (FuncData.mk (Str.ofString "unary_orders") (Str.ofString "unary_orders") (argsAt 6) (.stmts (bodyAt 6)) (scopeAt 6) 3 [] Value.none Value.none Value.none (Value.str (Str.ofString "snobol.compiler") 223) none (Value.ref 78) Value.none 0)) (List.toArray []))
noncomputable def b80v3 (_ : Params) : Obj := (Obj.mk (Value.type "tuple") none (Data.seq (List.toArray []) 0) (List.toArray []))
noncomputable def b81v3 (_ : Params) : Obj := (Obj.mk Value.none none (Data.fields (List.toArray [])) (List.toArray []))
noncomputable def b82v3 (_ : Params) : Obj := (Obj.mk (Value.type "tuple") none (Data.seq (List.toArray [(Value.str (Str.ofString "op") 291), (Value.str (Str.ofString "left") 292), (Value.str (Str.ofString "right") 293)]) 0) (List.toArray []))
noncomputable def b83v3 (_ : Params) : Obj := (Obj.mk (Value.type "tuple") none (Data.seq (List.toArray []) 0) (List.toArray []))
noncomputable def b84v3 (_ : Params) : Obj := (Obj.mk Value.none none (Data.func (FuncData.mk (Str.ofString "binary_orders") (Str.ofString "binary_orders") (argsAt 7) (.stmts (bodyAt 7)) (scopeAt 7) 0 [] Value.none Value.none Value.none Value.none none Value.none Value.none 0)) (List.toArray []))
noncomputable def b85v3 (_ : Params) : Obj := (Obj.mk (Value.type "code") none (Data.fields (List.toArray [(Value.str (Str.ofString "binary_orders") 288), (Value.str (Str.ofString "binary_orders") 289), (Value.str (Str.ofString "/claim/cut.py") 290), (Value.int 56 0), (Value.int 3 0), (Value.int 0 0), (Value.int 0 0), (Value.int 3 0), (Value.ref 80), (Value.bool true), (Value.int 181 0), (Value.ref 81), Value.none, (Value.ref 82), (Value.ref 83), (Value.ref 84), (Value.int 294 0), (Value.int 56 0), (Value.str (Str.ofString "/claim/cut.py") 295)])) (List.toArray []))
noncomputable def b86v3 (_ : Params) : Obj := (Obj.mk (Value.type "function") none (Data.func (FuncData.mk (Str.ofString "binary_orders") (Str.ofString "binary_orders") (argsAt 7) (.stmts (bodyAt 7)) (scopeAt 7) 3 [] Value.none Value.none Value.none (Value.str (Str.ofString "snobol.compiler") 223) none (Value.ref 85) Value.none 0)) (List.toArray []))
noncomputable def b87v3 (_ : Params) : Obj := (Obj.mk (Value.type "tuple") none (Data.seq (List.toArray []) 0) (List.toArray []))
noncomputable def b88v3 (_ : Params) : Obj := (Obj.mk Value.none none (Data.fields (List.toArray [])) (List.toArray []))
noncomputable def b89v3 (_ : Params) : Obj := (Obj.mk (Value.type "tuple") none (Data.seq (List.toArray [(Value.str (Str.ofString "tree") 300), (Value.str (Str.ofString "kind") 301)]) 0) (List.toArray []))
noncomputable def b90v3 (_ : Params) : Obj := (Obj.mk (Value.type "tuple") none (Data.seq (List.toArray []) 0) (List.toArray []))
noncomputable def b91v3 (_ : Params) : Obj := (Obj.mk Value.none none (Data.func (FuncData.mk (Str.ofString "name_orders") (Str.ofString "name_orders") (argsAt 8) (.stmts (bodyAt 8)) (scopeAt 8) 0 [] Value.none Value.none Value.none Value.none none Value.none Value.none 0)) (List.toArray []))
noncomputable def b92v3 (_ : Params) : Obj := (Obj.mk (Value.type "code") none (Data.fields (List.toArray [(Value.str (Str.ofString "name_orders") 297), (Value.str (Str.ofString "name_orders") 298), (Value.str (Str.ofString "/claim/cut.py") 299), (Value.int 60 0), (Value.int 1 0), (Value.int 0 0), (Value.int 0 0), (Value.int 3 0), (Value.ref 87), (Value.bool true), (Value.int 181 0), (Value.ref 88), Value.none, (Value.ref 89), (Value.ref 90), (Value.ref 91), (Value.int 302 0), (Value.int 60 0), (Value.str (Str.ofString "/claim/cut.py") 303)])) (List.toArray []))
noncomputable def b93v3 (_ : Params) : Obj := (Obj.mk (Value.type "function") none (Data.func (FuncData.mk (Str.ofString "name_orders") (Str.ofString "name_orders") (argsAt 8) (.stmts (bodyAt 8)) (scopeAt 8) 3 [] Value.none Value.none Value.none (Value.str (Str.ofString "snobol.compiler") 223) none (Value.ref 92) Value.none 0)) (List.toArray []))
noncomputable def b94v3 (_ : Params) : Obj := (Obj.mk (Value.type "tuple") none (Data.seq (List.toArray []) 0) (List.toArray []))
noncomputable def b95v3 (_ : Params) : Obj := (Obj.mk Value.none none (Data.fields (List.toArray [])) (List.toArray []))
noncomputable def b96v3 (_ : Params) : Obj := (Obj.mk (Value.type "tuple") none (Data.seq (List.toArray [(Value.str (Str.ofString "statement") 308), (Value.str (Str.ofString "found") 309)]) 0) (List.toArray []))
noncomputable def b97v3 (_ : Params) : Obj := (Obj.mk (Value.type "tuple") none (Data.seq (List.toArray []) 0) (List.toArray []))
noncomputable def b98v3 (_ : Params) : Obj := (Obj.mk Value.none none (Data.func (FuncData.mk (Str.ofString "body_orders") (Str.ofString "body_orders") (argsAt 9) (.stmts (bodyAt 9)) (scopeAt 9) 0 [] Value.none Value.none Value.none Value.none none Value.none Value.none 0)) (List.toArray []))
noncomputable def b99v3 (_ : Params) : Obj := (Obj.mk (Value.type "code") none (Data.fields (List.toArray [(Value.str (Str.ofString "body_orders") 305), (Value.str (Str.ofString "body_orders") 306), (Value.str (Str.ofString "/claim/cut.py") 307), (Value.int 73 0), (Value.int 1 0), (Value.int 0 0), (Value.int 0 0), (Value.int 3 0), (Value.ref 94), (Value.bool true), (Value.int 181 0), (Value.ref 95), Value.none, (Value.ref 96), (Value.ref 97), (Value.ref 98), (Value.int 310 0), (Value.int 73 0), (Value.str (Str.ofString "/claim/cut.py") 311)])) (List.toArray []))
noncomputable def b100v3 (_ : Params) : Obj := (Obj.mk (Value.type "function") none (Data.func (FuncData.mk (Str.ofString "body_orders") (Str.ofString "body_orders") (argsAt 9) (.stmts (bodyAt 9)) (scopeAt 9) 3 [] Value.none Value.none Value.none (Value.str (Str.ofString "snobol.compiler") 223) none (Value.ref 99) Value.none 0)) (List.toArray []))
noncomputable def b101v3 (_ : Params) : Obj := (Obj.mk (Value.type "tuple") none (Data.seq (List.toArray []) 0) (List.toArray []))
noncomputable def b102v3 (_ : Params) : Obj := (Obj.mk Value.none none (Data.fields (List.toArray [])) (List.toArray []))
noncomputable def b103v3 (_ : Params) : Obj := (Obj.mk (Value.type "tuple") none (Data.seq (List.toArray [(Value.str (Str.ofString "go") 316), (Value.str (Str.ofString "kind") 317), (Value.str (Str.ofString "tree") 318)]) 0) (List.toArray []))
noncomputable def b104v3 (_ : Params) : Obj := (Obj.mk (Value.type "tuple") none (Data.seq (List.toArray []) 0) (List.toArray []))
noncomputable def b105v3 (_ : Params) : Obj := (Obj.mk Value.none none (Data.func (FuncData.mk (Str.ofString "goto_orders") (Str.ofString "goto_orders") (argsAt 10) (.stmts (bodyAt 10)) (scopeAt 10) 0 [] Value.none Value.none Value.none Value.none none Value.none Value.none 0)) (List.toArray []))
noncomputable def b106v3 (_ : Params) : Obj := (Obj.mk (Value.type "code") none (Data.fields (List.toArray [(Value.str (Str.ofString "goto_orders") 313), (Value.str (Str.ofString "goto_orders") 314), (Value.str (Str.ofString "/claim/cut.py") 315), (Value.int 85 0), (Value.int 1 0), (Value.int 0 0), (Value.int 0 0), (Value.int 3 0), (Value.ref 101), (Value.bool true), (Value.int 181 0), (Value.ref 102), Value.none, (Value.ref 103), (Value.ref 104), (Value.ref 105), (Value.int 319 0), (Value.int 85 0), (Value.str (Str.ofString "/claim/cut.py") 320)])) (List.toArray []))
noncomputable def b107v3 (_ : Params) : Obj := (Obj.mk (Value.type "function") none (Data.func (FuncData.mk (Str.ofString "goto_orders") (Str.ofString "goto_orders") (argsAt 10) (.stmts (bodyAt 10)) (scopeAt 10) 3 [] Value.none Value.none Value.none (Value.str (Str.ofString "snobol.compiler") 223) none (Value.ref 106) Value.none 0)) (List.toArray []))
noncomputable def b108v3 (_ : Params) : Obj := (Obj.mk (Value.type "tuple") none (Data.seq (List.toArray []) 0) (List.toArray []))
noncomputable def b109v3 (_ : Params) : Obj := (Obj.mk Value.none none (Data.fields (List.toArray [])) (List.toArray []))
noncomputable def b110v3 (_ : Params) : Obj := (Obj.mk (Value.type "tuple") none (Data.seq (List.toArray [(Value.str (Str.ofString "statement") 325), (Value.str (Str.ofString "always") 326), (Value.str (Str.ofString "success") 327), (Value.str (Str.ofString "failure") 328)]) 0) (List.toArray []))
noncomputable def b111v3 (_ : Params) : Obj := (Obj.mk (Value.type "tuple") none (Data.seq (List.toArray []) 0) (List.toArray []))
noncomputable def b112v3 (_ : Params) : Obj := (Obj.mk Value.none none (Data.func (FuncData.mk (Str.ofString "compile_statement") (Str.ofString "compile_statement") (argsAt 11) (.stmts (bodyAt 11)) (scopeAt 11) 0 [] Value.none Value.none Value.none Value.none none Value.none Value.none 0)) (List.toArray []))
noncomputable def b113v3 (_ : Params) : Obj := (Obj.mk (Value.type "code") none (Data.fields (List.toArray [(Value.str (Str.ofString "compile_statement") 322), (Value.str (Str.ofString "compile_statement") 323), (Value.str (Str.ofString "/claim/cut.py") 324), (Value.int 96 0), (Value.int 1 0), (Value.int 0 0), (Value.int 0 0), (Value.int 3 0), (Value.ref 108), (Value.bool true), (Value.int 181 0), (Value.ref 109), Value.none, (Value.ref 110), (Value.ref 111), (Value.ref 112), (Value.int 329 0), (Value.int 96 0), (Value.str (Str.ofString "/claim/cut.py") 330)])) (List.toArray []))
noncomputable def b114v3 (_ : Params) : Obj := (Obj.mk (Value.type "function") none (Data.func (FuncData.mk (Str.ofString "compile_statement") (Str.ofString "compile_statement") (argsAt 11) (.stmts (bodyAt 11)) (scopeAt 11) 3 [] Value.none Value.none Value.none (Value.str (Str.ofString "snobol.compiler") 223) none (Value.ref 113) Value.none 0)) (List.toArray []))
noncomputable def b115v3 (_ : Params) : Obj := (Obj.mk (Value.type "tuple") none (Data.seq (List.toArray []) 0) (List.toArray []))
noncomputable def b116v3 (_ : Params) : Obj := (Obj.mk Value.none none (Data.fields (List.toArray [])) (List.toArray []))
noncomputable def b117v3 (_ : Params) : Obj := (Obj.mk (Value.type "tuple") none (Data.seq (List.toArray [(Value.str (Str.ofString "orders") 335), (Value.str (Str.ofString "high") 336), (Value.str (Str.ofString "most") 337), (Value.str (Str.ofString "order") 338)]) 0) (List.toArray []))
noncomputable def b118v3 (_ : Params) : Obj := (Obj.mk (Value.type "tuple") none (Data.seq (List.toArray []) 0) (List.toArray []))
noncomputable def b119v3 (_ : Params) : Obj := (Obj.mk Value.none none (Data.func (FuncData.mk (Str.ofString "depth_of") (Str.ofString "depth_of") (argsAt 12) (.stmts (bodyAt 12)) (scopeAt 12) 0 [] Value.none Value.none Value.none Value.none none Value.none Value.none 0)) (List.toArray []))
noncomputable def b120v3 (_ : Params) : Obj := (Obj.mk (Value.type "code") none (Data.fields (List.toArray [(Value.str (Str.ofString "depth_of") 332), (Value.str (Str.ofString "depth_of") 333), (Value.str (Str.ofString "/claim/cut.py") 334), (Value.int 101 0), (Value.int 1 0), (Value.int 0 0), (Value.int 0 0), (Value.int 3 0), (Value.ref 115), (Value.bool true), (Value.int 181 0), (Value.ref 116), Value.none, (Value.ref 117), (Value.ref 118), (Value.ref 119), (Value.int 339 0), (Value.int 101 0), (Value.str (Str.ofString "/claim/cut.py") 340)])) (List.toArray []))
noncomputable def b121v3 (_ : Params) : Obj := (Obj.mk (Value.type "function") none (Data.func (FuncData.mk (Str.ofString "depth_of") (Str.ofString "depth_of") (argsAt 12) (.stmts (bodyAt 12)) (scopeAt 12) 3 [] Value.none Value.none Value.none (Value.str (Str.ofString "snobol.compiler") 223) none (Value.ref 120) Value.none 0)) (List.toArray []))
noncomputable def b122v3 (_ : Params) : Obj := (Obj.mk (Value.type "tuple") none (Data.seq (List.toArray []) 0) (List.toArray []))
noncomputable def b123v3 (_ : Params) : Obj := (Obj.mk Value.none none (Data.fields (List.toArray [])) (List.toArray []))
noncomputable def b124v3 (_ : Params) : Obj := (Obj.mk (Value.type "tuple") none (Data.seq (List.toArray [(Value.str (Str.ofString "order") 345), (Value.str (Str.ofString "word") 346)]) 0) (List.toArray []))
noncomputable def b125v3 (_ : Params) : Obj := (Obj.mk (Value.type "tuple") none (Data.seq (List.toArray []) 0) (List.toArray []))
noncomputable def b126v3 (_ : Params) : Obj := (Obj.mk Value.none none (Data.func (FuncData.mk (Str.ofString "change_of") (Str.ofString "change_of") (argsAt 13) (.stmts (bodyAt 13)) (scopeAt 13) 0 [] Value.none Value.none Value.none Value.none none Value.none Value.none 0)) (List.toArray []))
noncomputable def b127v3 (_ : Params) : Obj := (Obj.mk (Value.type "code") none (Data.fields (List.toArray [(Value.str (Str.ofString "change_of") 342), (Value.str (Str.ofString "change_of") 343), (Value.str (Str.ofString "/claim/cut.py") 344), (Value.int 107 0), (Value.int 1 0), (Value.int 0 0), (Value.int 0 0), (Value.int 3 0), (Value.ref 122), (Value.bool true), (Value.int 181 0), (Value.ref 123), Value.none, (Value.ref 124), (Value.ref 125), (Value.ref 126), (Value.int 347 0), (Value.int 107 0), (Value.str (Str.ofString "/claim/cut.py") 348)])) (List.toArray []))
noncomputable def b128v3 (_ : Params) : Obj := (Obj.mk (Value.type "function") none (Data.func (FuncData.mk (Str.ofString "change_of") (Str.ofString "change_of") (argsAt 13) (.stmts (bodyAt 13)) (scopeAt 13) 3 [] Value.none Value.none Value.none (Value.str (Str.ofString "snobol.compiler") 223) none (Value.ref 127) Value.none 0)) (List.toArray []))
noncomputable def hp3 (P : Params) : Heap := Heap.mk (Array.mk [boot_o_0 P, boot_o_1 P, b2v1 P, b3v3 P, boot_o_4 P, boot_o_5 P, boot_o_6 P, boot_o_7 P, boot_o_8 P, boot_o_9 P, boot_o_10 P, b11v0 P, b12v3 P, b13v0 P, b14v0 P, b15v1 P, b16v1 P, b17v1 P, b18v1 P, b19v1 P, b20v1 P, b21v1 P, b22v1 P, b23v1 P, b24v1 P, b25v1 P, b26v1 P, b27v1 P, b28v1 P, b29v1 P, b30v1 P, b31v1 P, b32v1 P, b33v1 P, b34v1 P, b35v1 P, b36v1 P, b37v1 P, b38v2 P, b39v2 P, b40v2 P, b41v2 P, b42v2 P, b43v2 P, b44v2 P, b45v2 P, b46v2 P, b47v2 P, b48v2 P, b49v2 P, b50v2 P, b51v2 P, b52v2 P, b53v2 P, b54v2 P, b55v2 P, b56v2 P, b57v2 P, b58v2 P, b59v3 P, b60v3 P, b61v3 P, b62v3 P, b63v3 P, b64v3 P, b65v3 P, b66v3 P, b67v3 P, b68v3 P, b69v3 P, b70v3 P, b71v3 P, b72v3 P, b73v3 P, b74v3 P, b75v3 P, b76v3 P, b77v3 P, b78v3 P, b79v3 P, b80v3 P, b81v3 P, b82v3 P, b83v3 P, b84v3 P, b85v3 P, b86v3 P, b87v3 P, b88v3 P, b89v3 P, b90v3 P, b91v3 P, b92v3 P, b93v3 P, b94v3 P, b95v3 P, b96v3 P, b97v3 P, b98v3 P, b99v3 P, b100v3 P, b101v3 P, b102v3 P, b103v3 P, b104v3 P, b105v3 P, b106v3 P, b107v3 P, b108v3 P, b109v3 P, b110v3 P, b111v3 P, b112v3 P, b113v3 P, b114v3 P, b115v3 P, b116v3 P, b117v3 P, b118v3 P, b119v3 P, b120v3 P, b121v3 P, b122v3 P, b123v3 P, b124v3 P, b125v3 P, b126v3 P, b127v3 P, b128v3 P]) {}
noncomputable def b3v4 (P : Params) : Obj := (Obj.mk (Value.type "dict") none (Data.dict (List.toArray [(DictEntry.mk (PyData.keyHash P (Str.ofString "__name__")) (Value.str (Str.ofString "__name__") 165) (Value.str (Str.ofString "snobol.reader") 350)), (DictEntry.mk (PyData.keyHash P (Str.ofString "__doc__")) (Value.str (Str.ofString "__doc__") 166) Value.none), (DictEntry.mk (PyData.keyHash P (Str.ofString "__package__")) (Value.str (Str.ofString "__package__") 167) Value.none), (DictEntry.mk (PyData.keyHash P (Str.ofString "__loader__")) (Value.str (Str.ofString "__loader__") 168) (Value.builtin "__main__.__loader__#opaque")), (DictEntry.mk (PyData.keyHash P (Str.ofString "__spec__")) (Value.str (Str.ofString "__spec__") 169) Value.none), (DictEntry.mk (PyData.keyHash P (Str.ofString "__annotations__")) (Value.str (Str.ofString "__annotations__") 170) (Value.ref 6)), (DictEntry.mk (PyData.keyHash P (Str.ofString "__builtins__")) (Value.str (Str.ofString "__builtins__") 171) (Value.ref 4)), (DictEntry.mk (PyData.keyHash P (Str.ofString "__file__")) (Value.str (Str.ofString "__file__") 173) (Value.str (Str.ofString "/claim/cut.py") 172)), (DictEntry.mk (PyData.keyHash P (Str.ofString "__cached__")) (Value.str (Str.ofString "__cached__") 174) Value.none), (DictEntry.mk (PyData.keyHash P (Str.ofString "SnobolError")) (Value.str (Str.ofString "SnobolError") 222) (Value.ref 34)), (DictEntry.mk (PyData.keyHash P (Str.ofString "Compiled")) (Value.str (Str.ofString "Compiled") 261) (Value.ref 54)), (DictEntry.mk (PyData.keyHash P (Str.ofString "value_orders")) (Value.str (Str.ofString "value_orders") 269) (Value.ref 65)), (DictEntry.mk (PyData.keyHash P (Str.ofString "row_orders")) (Value.str (Str.ofString "row_orders") 278) (Value.ref 72)), (DictEntry.mk (PyData.keyHash P (Str.ofString "unary_orders")) (Value.str (Str.ofString "unary_orders") 287) (Value.ref 79)), (DictEntry.mk (PyData.keyHash P (Str.ofString "binary_orders")) (Value.str (Str.ofString "binary_orders") 296) (Value.ref 86)), (DictEntry.mk (PyData.keyHash P (Str.ofString "name_orders")) (Value.str (Str.ofString "name_orders") 304) (Value.ref 93)), (DictEntry.mk (PyData.keyHash P (Str.ofString "body_orders")) (Value.str (Str.ofString "body_orders") 312) (Value.ref 100)), (DictEntry.mk (PyData.keyHash P (Str.ofString "goto_orders")) (Value.str (Str.ofString "goto_orders") 321) (Value.ref 107)), (DictEntry.mk (PyData.keyHash P (Str.ofString "compile_statement")) (Value.str (Str.ofString "compile_statement") 331) (Value.ref 114)), (DictEntry.mk (PyData.keyHash P (Str.ofString "depth_of")) (Value.str (Str.ofString "depth_of") 341) (Value.ref 121)), (DictEntry.mk (PyData.keyHash P (Str.ofString "change_of")) (Value.str (Str.ofString "change_of") 349) (Value.ref 128)), (DictEntry.mk (PyData.keyHash P (Str.ofString "Statement")) (Value.str (Str.ofString "Statement") 390) (Value.ref 145))]) 22) (List.toArray []))
noncomputable def b12v4 (_ : Params) : Obj := (Obj.mk Value.none none (Data.fields (List.toArray [(Value.int 2 0), (Value.int 0 0), (Value.ref 21), (Value.int 9 0), (Value.int 0 0), (Value.ref 43), (Value.int 17 0), (Value.int 0 0), (Value.ref 64), (Value.int 34 0), (Value.int 0 0), (Value.ref 71), (Value.int 39 0), (Value.int 0 0), (Value.ref 78), (Value.int 56 0), (Value.int 0 0), (Value.ref 85), (Value.int 60 0), (Value.int 0 0), (Value.ref 92), (Value.int 73 0), (Value.int 0 0), (Value.ref 99), (Value.int 85 0), (Value.int 0 0), (Value.ref 106), (Value.int 96 0), (Value.int 0 0), (Value.ref 113), (Value.int 101 0), (Value.int 0 0), (Value.ref 120), (Value.int 107 0), (Value.int 0 0), (Value.ref 127), (Value.int 121 0), (Value.int 0 0), (Value.ref 134)])) (List.toArray []))
noncomputable def b129v4 (_ : Params) : Obj := (Obj.mk (Value.type "tuple") none (Data.seq (List.toArray []) 0) (List.toArray []))
noncomputable def b130v4 (_ : Params) : Obj := (Obj.mk (Value.type "builtin_function_or_method") none (Data.fields (List.toArray [(Value.builtin "type.__prepare__"), (Value.type "type")])) (List.toArray []))
noncomputable def b131v4 (P : Params) : Obj := (Obj.mk (Value.type "dict") none (Data.dict (List.toArray [(DictEntry.mk (PyData.keyHash P (Str.ofString "__module__")) (Value.str (Str.ofString "__module__") 359) (Value.str (Str.ofString "snobol.reader") 350)), (DictEntry.mk (PyData.keyHash P (Str.ofString "__qualname__")) (Value.str (Str.ofString "__qualname__") 361) (Value.str (Str.ofString "Statement") 360)), (DictEntry.mk (PyData.keyHash P (Str.ofString "__firstlineno__")) (Value.str (Str.ofString "__firstlineno__") 363) (Value.int 121 362)), (DictEntry.mk (PyData.keyHash P (Str.ofString "__init__")) (Value.str (Str.ofString "__init__") 372) (Value.ref 142)), (DictEntry.mk (PyData.keyHash P (Str.ofString "__static_attributes__")) (Value.str (Str.ofString "__static_attributes__") 383) (Value.ref 143))]) 5) (List.toArray []))
noncomputable def b132v4 (_ : Params) : Obj := (Obj.mk (Value.type "tuple") none (Data.seq (List.toArray []) 0) (List.toArray []))
noncomputable def b133v4 (_ : Params) : Obj := (Obj.mk Value.none none (Data.fields (List.toArray [(Value.int 123 0), (Value.int 4 0), (Value.ref 141)])) (List.toArray []))
noncomputable def b134v4 (_ : Params) : Obj := (Obj.mk (Value.type "code") none (Data.fields (List.toArray [(Value.str (Str.ofString "Statement") 354), (Value.str (Str.ofString "Statement") 355), (Value.str (Str.ofString "/claim/cut.py") 356), (Value.int 121 0), (Value.int 0 0), (Value.int 0 0), (Value.int 0 0), (Value.int 0 0), (Value.ref 132), (Value.bool false), (Value.int 181 0), (Value.ref 133), Value.none, Value.none, Value.none, Value.none, (Value.int 357 0), (Value.int 121 0), (Value.str (Str.ofString "/claim/cut.py") 358)])) (List.toArray []))
noncomputable def b135v4 (_ : Params) : Obj := (Obj.mk (Value.type "frame") none Data.plain (List.toArray [(some (Value.ref 134)), (some (Value.ref 3)), (some (Value.ref 131)), none, (some (Value.str (Str.ofString "snobol.reader") 350)), none, (some (Value.ref 0))]))
noncomputable def b136v4 (_ : Params) : Obj := (Obj.mk (Value.type "tuple") none (Data.seq (List.toArray []) 0) (List.toArray []))
noncomputable def b137v4 (_ : Params) : Obj := (Obj.mk Value.none none (Data.fields (List.toArray [])) (List.toArray []))
noncomputable def b138v4 (_ : Params) : Obj := (Obj.mk (Value.type "tuple") none (Data.seq (List.toArray [(Value.str (Str.ofString "self") 367), (Value.str (Str.ofString "line") 368), (Value.str (Str.ofString "text") 369)]) 0) (List.toArray []))
noncomputable def b139v4 (_ : Params) : Obj := (Obj.mk (Value.type "tuple") none (Data.seq (List.toArray []) 0) (List.toArray []))
noncomputable def b140v4 (_ : Params) : Obj := (Obj.mk Value.none none (Data.func (FuncData.mk (Str.ofString "__init__") (Str.ofString "Statement.__init__") (argsI 15) (.stmts (bodyI 15)) (scopeI 15) 0 [] Value.none Value.none Value.none Value.none none Value.none Value.none 0)) (List.toArray []))
noncomputable def b141v4 (_ : Params) : Obj := (Obj.mk (Value.type "code") none (Data.fields (List.toArray [(Value.str (Str.ofString "__init__") 364), (Value.str (Str.ofString "Statement.__init__") 365), (Value.str (Str.ofString "/claim/cut.py") 366), (Value.int 123 0), (Value.int 3 0), (Value.int 0 0), (Value.int 0 0), (Value.int 3 0), (Value.ref 136), (Value.bool true), (Value.int 181 0), (Value.ref 137), Value.none, (Value.ref 138), (Value.ref 139), (Value.ref 140), (Value.int 370 0), (Value.int 123 0), (Value.str (Str.ofString "/claim/cut.py") 371)])) (List.toArray []))
noncomputable def b142v4 (_ : Params) : Obj := (Obj.mk (Value.type "function") none (Data.func (FuncData.mk (Str.ofString "__init__") (Str.ofString "Statement.__init__") (argsI 15) (.stmts (bodyI 15)) (scopeI 15) 3 [] Value.none Value.none Value.none (Value.str (Str.ofString "snobol.reader") 350) none (Value.ref 141) Value.none 0)) (List.toArray []))
noncomputable def b143v4 (_ : Params) : Obj := (Obj.mk (Value.type "tuple") none (Data.seq (List.toArray [(Value.str (Str.ofString "go_always") 373), (Value.str (Str.ofString "go_failure") 374), (Value.str (Str.ofString "go_success") 375), (Value.str (Str.ofString "is_replaced") 376), (Value.str (Str.ofString "label") 377), (Value.str (Str.ofString "line") 378), (Value.str (Str.ofString "pattern") 379), (Value.str (Str.ofString "replacement") 380), (Value.str (Str.ofString "subject") 381), (Value.str (Str.ofString "text") 382)]) 0) (List.toArray []))
noncomputable def b144v4 (P : Params) : Obj := (Obj.mk (Value.type "dict") none (Data.dict (List.toArray [(DictEntry.mk (PyData.keyHash P (Str.ofString "__module__")) (Value.str (Str.ofString "__module__") 359) (Value.str (Str.ofString "snobol.reader") 350)), (DictEntry.mk (PyData.keyHash P (Str.ofString "__firstlineno__")) (Value.str (Str.ofString "__firstlineno__") 363) (Value.int 121 362)), (DictEntry.mk (PyData.keyHash P (Str.ofString "__init__")) (Value.str (Str.ofString "__init__") 372) (Value.ref 142)), (DictEntry.mk (PyData.keyHash P (Str.ofString "__static_attributes__")) (Value.str (Str.ofString "__static_attributes__") 383) (Value.ref 143)), (DictEntry.mk (PyData.keyHash P (Str.ofString "__dict__")) (Value.str (Str.ofString "__dict__") 385) (Value.ref 146)), (DictEntry.mk (PyData.keyHash P (Str.ofString "__weakref__")) (Value.str (Str.ofString "__weakref__") 387) (Value.ref 147)), (DictEntry.mk (PyData.keyHash P (Str.ofString "__doc__")) (Value.str (Str.ofString "__doc__") 388) Value.none)]) 4) (List.toArray []))
noncomputable def b145v4 (_ : Params) : Obj := (Obj.mk (Value.type "type") none (Data.cls (ClassData.mk (Str.ofString "Statement") [(Value.type "object")] [(Value.ref 145), (Value.type "object")] 144 (Str.ofString "Statement") true [] [] false none false)) (List.toArray [none, none, (some (Value.str (Str.ofString "Statement") 352)), (some (Value.str (Str.ofString "Statement") 360)), (some (Value.builtin "object.__new__")), (some (Value.bool true))]))
noncomputable def b146v4 (_ : Params) : Obj := (Obj.mk (Value.type "getset_descriptor") none (Data.fields (List.toArray [(Value.str (Str.ofString "__dict__") 384), (Value.ref 145), (Value.builtin "function.__dict__"), (Value.builtin "function.__dict__#set")])) (List.toArray []))
noncomputable def b147v4 (_ : Params) : Obj := (Obj.mk (Value.type "getset_descriptor") none (Data.fields (List.toArray [(Value.str (Str.ofString "__weakref__") 386), (Value.ref 145), (Value.builtin "ExceptionGroup.__weakref__"), Value.none])) (List.toArray []))
noncomputable def b148v4 (_ : Params) : Obj := (Obj.mk (Value.type "super") none (Data.fields (List.toArray [(Value.ref 145), (Value.ref 145), (Value.ref 145)])) (List.toArray []))
noncomputable def b149v4 (_ : Params) : Obj := (Obj.mk (Value.type "builtin_function_or_method") none (Data.fields (List.toArray [(Value.builtin "object.__init_subclass__"), (Value.ref 145)])) (List.toArray []))
noncomputable def hp4 (P : Params) : Heap := Heap.mk (Array.mk [boot_o_0 P, boot_o_1 P, b2v1 P, b3v4 P, boot_o_4 P, boot_o_5 P, boot_o_6 P, boot_o_7 P, boot_o_8 P, boot_o_9 P, boot_o_10 P, b11v0 P, b12v4 P, b13v0 P, b14v0 P, b15v1 P, b16v1 P, b17v1 P, b18v1 P, b19v1 P, b20v1 P, b21v1 P, b22v1 P, b23v1 P, b24v1 P, b25v1 P, b26v1 P, b27v1 P, b28v1 P, b29v1 P, b30v1 P, b31v1 P, b32v1 P, b33v1 P, b34v1 P, b35v1 P, b36v1 P, b37v1 P, b38v2 P, b39v2 P, b40v2 P, b41v2 P, b42v2 P, b43v2 P, b44v2 P, b45v2 P, b46v2 P, b47v2 P, b48v2 P, b49v2 P, b50v2 P, b51v2 P, b52v2 P, b53v2 P, b54v2 P, b55v2 P, b56v2 P, b57v2 P, b58v2 P, b59v3 P, b60v3 P, b61v3 P, b62v3 P, b63v3 P, b64v3 P, b65v3 P, b66v3 P, b67v3 P, b68v3 P, b69v3 P, b70v3 P, b71v3 P, b72v3 P, b73v3 P, b74v3 P, b75v3 P, b76v3 P, b77v3 P, b78v3 P, b79v3 P, b80v3 P, b81v3 P, b82v3 P, b83v3 P, b84v3 P, b85v3 P, b86v3 P, b87v3 P, b88v3 P, b89v3 P, b90v3 P, b91v3 P, b92v3 P, b93v3 P, b94v3 P, b95v3 P, b96v3 P, b97v3 P, b98v3 P, b99v3 P, b100v3 P, b101v3 P, b102v3 P, b103v3 P, b104v3 P, b105v3 P, b106v3 P, b107v3 P, b108v3 P, b109v3 P, b110v3 P, b111v3 P, b112v3 P, b113v3 P, b114v3 P, b115v3 P, b116v3 P, b117v3 P, b118v3 P, b119v3 P, b120v3 P, b121v3 P, b122v3 P, b123v3 P, b124v3 P, b125v3 P, b126v3 P, b127v3 P, b128v3 P, b129v4 P, b130v4 P, b131v4 P, b132v4 P, b133v4 P, b134v4 P, b135v4 P, b136v4 P, b137v4 P, b138v4 P, b139v4 P, b140v4 P, b141v4 P, b142v4 P, b143v4 P, b144v4 P, b145v4 P, b146v4 P, b147v4 P, b148v4 P, b149v4 P]) {}
noncomputable def b3v5 (P : Params) : Obj := (Obj.mk (Value.type "dict") none (Data.dict (List.toArray [(DictEntry.mk (PyData.keyHash P (Str.ofString "__name__")) (Value.str (Str.ofString "__name__") 165) (Value.str (Str.ofString "law_np0293_01") 391)), (DictEntry.mk (PyData.keyHash P (Str.ofString "__doc__")) (Value.str (Str.ofString "__doc__") 166) Value.none), (DictEntry.mk (PyData.keyHash P (Str.ofString "__package__")) (Value.str (Str.ofString "__package__") 167) Value.none), (DictEntry.mk (PyData.keyHash P (Str.ofString "__loader__")) (Value.str (Str.ofString "__loader__") 168) (Value.builtin "__main__.__loader__#opaque")), (DictEntry.mk (PyData.keyHash P (Str.ofString "__spec__")) (Value.str (Str.ofString "__spec__") 169) Value.none), (DictEntry.mk (PyData.keyHash P (Str.ofString "__annotations__")) (Value.str (Str.ofString "__annotations__") 170) (Value.ref 6)), (DictEntry.mk (PyData.keyHash P (Str.ofString "__builtins__")) (Value.str (Str.ofString "__builtins__") 171) (Value.ref 4)), (DictEntry.mk (PyData.keyHash P (Str.ofString "__file__")) (Value.str (Str.ofString "__file__") 173) (Value.str (Str.ofString "/claim/cut.py") 172)), (DictEntry.mk (PyData.keyHash P (Str.ofString "__cached__")) (Value.str (Str.ofString "__cached__") 174) Value.none), (DictEntry.mk (PyData.keyHash P (Str.ofString "SnobolError")) (Value.str (Str.ofString "SnobolError") 222) (Value.ref 34)), (DictEntry.mk (PyData.keyHash P (Str.ofString "Compiled")) (Value.str (Str.ofString "Compiled") 261) (Value.ref 54)), (DictEntry.mk (PyData.keyHash P (Str.ofString "value_orders")) (Value.str (Str.ofString "value_orders") 269) (Value.ref 65)), (DictEntry.mk (PyData.keyHash P (Str.ofString "row_orders")) (Value.str (Str.ofString "row_orders") 278) (Value.ref 72)), (DictEntry.mk (PyData.keyHash P (Str.ofString "unary_orders")) (Value.str (Str.ofString "unary_orders") 287) (Value.ref 79)), (DictEntry.mk (PyData.keyHash P (Str.ofString "binary_orders")) (Value.str (Str.ofString "binary_orders") 296) (Value.ref 86)), (DictEntry.mk (PyData.keyHash P (Str.ofString "name_orders")) (Value.str (Str.ofString "name_orders") 304) (Value.ref 93)), (DictEntry.mk (PyData.keyHash P (Str.ofString "body_orders")) (Value.str (Str.ofString "body_orders") 312) (Value.ref 100)), (DictEntry.mk (PyData.keyHash P (Str.ofString "goto_orders")) (Value.str (Str.ofString "goto_orders") 321) (Value.ref 107)), (DictEntry.mk (PyData.keyHash P (Str.ofString "compile_statement")) (Value.str (Str.ofString "compile_statement") 331) (Value.ref 114)), (DictEntry.mk (PyData.keyHash P (Str.ofString "depth_of")) (Value.str (Str.ofString "depth_of") 341) (Value.ref 121)), (DictEntry.mk (PyData.keyHash P (Str.ofString "change_of")) (Value.str (Str.ofString "change_of") 349) (Value.ref 128)), (DictEntry.mk (PyData.keyHash P (Str.ofString "Statement")) (Value.str (Str.ofString "Statement") 390) (Value.ref 145)), (DictEntry.mk (PyData.keyHash P (Str.ofString "_law_take")) (Value.str (Str.ofString "_law_take") 401) (Value.ref 156)), (DictEntry.mk (PyData.keyHash P (Str.ofString "_law_total")) (Value.str (Str.ofString "_law_total") 410) (Value.ref 163)), (DictEntry.mk (PyData.keyHash P (Str.ofString "_law_tree")) (Value.str (Str.ofString "_law_tree") 416) (Value.ref 168)), (DictEntry.mk (PyData.keyHash P (Str.ofString "_law_goal")) (Value.str (Str.ofString "_law_goal") 425) (Value.ref 175)), (DictEntry.mk (PyData.keyHash P (Str.ofString "_law_value")) (Value.str (Str.ofString "_law_value") 438) (Value.ref 182)), (DictEntry.mk (PyData.keyHash P (Str.ofString "_law_several")) (Value.str (Str.ofString "_law_several") 449) (Value.ref 189))]) 28) (List.toArray []))
noncomputable def b12v5 (_ : Params) : Obj := (Obj.mk Value.none none (Data.fields (List.toArray [(Value.int 2 0), (Value.int 0 0), (Value.ref 21), (Value.int 9 0), (Value.int 0 0), (Value.ref 43), (Value.int 17 0), (Value.int 0 0), (Value.ref 64), (Value.int 34 0), (Value.int 0 0), (Value.ref 71), (Value.int 39 0), (Value.int 0 0), (Value.ref 78), (Value.int 56 0), (Value.int 0 0), (Value.ref 85), (Value.int 60 0), (Value.int 0 0), (Value.ref 92), (Value.int 73 0), (Value.int 0 0), (Value.ref 99), (Value.int 85 0), (Value.int 0 0), (Value.ref 106), (Value.int 96 0), (Value.int 0 0), (Value.ref 113), (Value.int 101 0), (Value.int 0 0), (Value.ref 120), (Value.int 107 0), (Value.int 0 0), (Value.ref 127), (Value.int 121 0), (Value.int 0 0), (Value.ref 134), (Value.int 135 0), (Value.int 0 0), (Value.ref 155), (Value.int 142 0), (Value.int 0 0), (Value.ref 162), (Value.int 147 0), (Value.int 0 0), (Value.ref 167), (Value.int 166 0), (Value.int 0 0), (Value.ref 174), (Value.int 177 0), (Value.int 0 0), (Value.ref 181), (Value.int 207 0), (Value.int 0 0), (Value.ref 188)])) (List.toArray []))
noncomputable def b150v5 (_ : Params) : Obj := (Obj.mk (Value.type "tuple") none (Data.seq (List.toArray []) 0) (List.toArray []))
noncomputable def b151v5 (_ : Params) : Obj := (Obj.mk Value.none none (Data.fields (List.toArray [])) (List.toArray []))
noncomputable def b152v5 (_ : Params) : Obj := (Obj.mk (Value.type "tuple") none (Data.seq (List.toArray [(Value.str (Str.ofString "box") 396), (Value.str (Str.ofString "many") 397), (Value.str (Str.ofString "digit") 398)]) 0) (List.toArray []))
noncomputable def b153v5 (_ : Params) : Obj := (Obj.mk (Value.type "tuple") none (Data.seq (List.toArray []) 0) (List.toArray []))
noncomputable def b154v5 (_ : Params) : Obj := (Obj.mk Value.none none (Data.func (FuncData.mk (Str.ofString "_law_take") (Str.ofString "_law_take") (argsAt 17) (.stmts (bodyAt 17)) (scopeAt 17) 0 [] Value.none Value.none Value.none Value.none none Value.none Value.none 0)) (List.toArray []))
noncomputable def b155v5 (_ : Params) : Obj := (Obj.mk (Value.type "code") none (Data.fields (List.toArray [(Value.str (Str.ofString "_law_take") 393), (Value.str (Str.ofString "_law_take") 394), (Value.str (Str.ofString "/claim/cut.py") 395), (Value.int 135 0), (Value.int 2 0), (Value.int 0 0), (Value.int 0 0), (Value.int 3 0), (Value.ref 150), (Value.bool true), (Value.int 181 0), (Value.ref 151), Value.none, (Value.ref 152), (Value.ref 153), (Value.ref 154), (Value.int 399 0), (Value.int 135 0), (Value.str (Str.ofString "/claim/cut.py") 400)])) (List.toArray []))
noncomputable def b156v5 (_ : Params) : Obj := (Obj.mk (Value.type "function") none (Data.func (FuncData.mk (Str.ofString "_law_take") (Str.ofString "_law_take") (argsAt 17) (.stmts (bodyAt 17)) (scopeAt 17) 3 [] Value.none Value.none Value.none (Value.str (Str.ofString "law_np0293_01") 391) none (Value.ref 155) Value.none 0)) (List.toArray []))
noncomputable def b157v5 (_ : Params) : Obj := (Obj.mk (Value.type "tuple") none (Data.seq (List.toArray []) 0) (List.toArray []))
noncomputable def b158v5 (_ : Params) : Obj := (Obj.mk Value.none none (Data.fields (List.toArray [])) (List.toArray []))
noncomputable def b159v5 (_ : Params) : Obj := (Obj.mk (Value.type "tuple") none (Data.seq (List.toArray [(Value.str (Str.ofString "script") 405), (Value.str (Str.ofString "grand") 406), (Value.str (Str.ofString "one") 407)]) 0) (List.toArray []))
noncomputable def b160v5 (_ : Params) : Obj := (Obj.mk (Value.type "tuple") none (Data.seq (List.toArray []) 0) (List.toArray []))
noncomputable def b161v5 (_ : Params) : Obj := (Obj.mk Value.none none (Data.func (FuncData.mk (Str.ofString "_law_total") (Str.ofString "_law_total") (argsAt 18) (.stmts (bodyAt 18)) (scopeAt 18) 0 [] Value.none Value.none Value.none Value.none none Value.none Value.none 0)) (List.toArray []))
noncomputable def b162v5 (_ : Params) : Obj := (Obj.mk (Value.type "code") none (Data.fields (List.toArray [(Value.str (Str.ofString "_law_total") 402), (Value.str (Str.ofString "_law_total") 403), (Value.str (Str.ofString "/claim/cut.py") 404), (Value.int 142 0), (Value.int 1 0), (Value.int 0 0), (Value.int 0 0), (Value.int 3 0), (Value.ref 157), (Value.bool true), (Value.int 181 0), (Value.ref 158), Value.none, (Value.ref 159), (Value.ref 160), (Value.ref 161), (Value.int 408 0), (Value.int 142 0), (Value.str (Str.ofString "/claim/cut.py") 409)])) (List.toArray []))
noncomputable def b163v5 (_ : Params) : Obj := (Obj.mk (Value.type "function") none (Data.func (FuncData.mk (Str.ofString "_law_total") (Str.ofString "_law_total") (argsAt 18) (.stmts (bodyAt 18)) (scopeAt 18) 3 [] Value.none Value.none Value.none (Value.str (Str.ofString "law_np0293_01") 391) none (Value.ref 162) Value.none 0)) (List.toArray []))
noncomputable def b164v5 (_ : Params) : Obj := (Obj.mk (Value.type "tuple") none (Data.seq (List.toArray []) 0) (List.toArray []))
noncomputable def b165v5 (_ : Params) : Obj := (Obj.mk Value.none none (Data.fields (List.toArray [])) (List.toArray []))
noncomputable def b166v5 (_ : Params) : Obj := (Obj.mk Value.none none (Data.func (FuncData.mk (Str.ofString "_law_tree") (Str.ofString "_law_tree") (argsAt 19) (.stmts (bodyAt 19)) (scopeAt 19) 0 [] Value.none Value.none Value.none Value.none none Value.none Value.none 0)) (List.toArray []))
noncomputable def b167v5 (_ : Params) : Obj := (Obj.mk (Value.type "code") none (Data.fields (List.toArray [(Value.str (Str.ofString "_law_tree") 411), (Value.str (Str.ofString "_law_tree") 412), (Value.str (Str.ofString "/claim/cut.py") 413), (Value.int 147 0), (Value.int 2 0), (Value.int 0 0), (Value.int 0 0), (Value.int 3 0), (Value.ref 164), (Value.bool true), (Value.int 181 0), (Value.ref 165), Value.none, Value.none, Value.none, (Value.ref 166), (Value.int 414 0), (Value.int 147 0), (Value.str (Str.ofString "/claim/cut.py") 415)])) (List.toArray []))
noncomputable def b168v5 (_ : Params) : Obj := (Obj.mk (Value.type "function") none (Data.func (FuncData.mk (Str.ofString "_law_tree") (Str.ofString "_law_tree") (argsAt 19) (.stmts (bodyAt 19)) (scopeAt 19) 3 [] Value.none Value.none Value.none (Value.str (Str.ofString "law_np0293_01") 391) none (Value.ref 167) Value.none 0)) (List.toArray []))
noncomputable def b169v5 (_ : Params) : Obj := (Obj.mk (Value.type "tuple") none (Data.seq (List.toArray []) 0) (List.toArray []))
noncomputable def b170v5 (_ : Params) : Obj := (Obj.mk Value.none none (Data.fields (List.toArray [])) (List.toArray []))
noncomputable def b171v5 (_ : Params) : Obj := (Obj.mk (Value.type "tuple") none (Data.seq (List.toArray [(Value.str (Str.ofString "box") 420), (Value.str (Str.ofString "deep") 421), (Value.str (Str.ofString "form") 422)]) 0) (List.toArray []))
noncomputable def b172v5 (_ : Params) : Obj := (Obj.mk (Value.type "tuple") none (Data.seq (List.toArray []) 0) (List.toArray []))
noncomputable def b173v5 (_ : Params) : Obj := (Obj.mk Value.none none (Data.func (FuncData.mk (Str.ofString "_law_goal") (Str.ofString "_law_goal") (argsAt 20) (.stmts (bodyAt 20)) (scopeAt 20) 0 [] Value.none Value.none Value.none Value.none none Value.none Value.none 0)) (List.toArray []))
noncomputable def b174v5 (_ : Params) : Obj := (Obj.mk (Value.type "code") none (Data.fields (List.toArray [(Value.str (Str.ofString "_law_goal") 417), (Value.str (Str.ofString "_law_goal") 418), (Value.str (Str.ofString "/claim/cut.py") 419), (Value.int 166 0), (Value.int 2 0), (Value.int 0 0), (Value.int 0 0), (Value.int 3 0), (Value.ref 169), (Value.bool true), (Value.int 181 0), (Value.ref 170), Value.none, (Value.ref 171), (Value.ref 172), (Value.ref 173), (Value.int 423 0), (Value.int 166 0), (Value.str (Str.ofString "/claim/cut.py") 424)])) (List.toArray []))
noncomputable def b175v5 (_ : Params) : Obj := (Obj.mk (Value.type "function") none (Data.func (FuncData.mk (Str.ofString "_law_goal") (Str.ofString "_law_goal") (argsAt 20) (.stmts (bodyAt 20)) (scopeAt 20) 3 [] Value.none Value.none Value.none (Value.str (Str.ofString "law_np0293_01") 391) none (Value.ref 174) Value.none 0)) (List.toArray []))
noncomputable def b176v5 (_ : Params) : Obj := (Obj.mk (Value.type "tuple") none (Data.seq (List.toArray []) 0) (List.toArray []))
noncomputable def b177v5 (_ : Params) : Obj := (Obj.mk Value.none none (Data.fields (List.toArray [])) (List.toArray []))
noncomputable def b178v5 (_ : Params) : Obj := (Obj.mk (Value.type "tuple") none (Data.seq (List.toArray [(Value.str (Str.ofString "tree") 429), (Value.str (Str.ofString "notes") 430), (Value.str (Str.ofString "kind") 431), (Value.str (Str.ofString "found") 432), (Value.str (Str.ofString "name") 433), (Value.str (Str.ofString "left") 434), (Value.str (Str.ofString "right") 435)]) 0) (List.toArray []))
noncomputable def b179v5 (_ : Params) : Obj := (Obj.mk (Value.type "tuple") none (Data.seq (List.toArray []) 0) (List.toArray []))
noncomputable def b180v5 (_ : Params) : Obj := (Obj.mk Value.none none (Data.func (FuncData.mk (Str.ofString "_law_value") (Str.ofString "_law_value") (argsAt 21) (.stmts (bodyAt 21)) (scopeAt 21) 0 [] Value.none Value.none Value.none Value.none none Value.none Value.none 0)) (List.toArray []))
noncomputable def b181v5 (_ : Params) : Obj := (Obj.mk (Value.type "code") none (Data.fields (List.toArray [(Value.str (Str.ofString "_law_value") 426), (Value.str (Str.ofString "_law_value") 427), (Value.str (Str.ofString "/claim/cut.py") 428), (Value.int 177 0), (Value.int 2 0), (Value.int 0 0), (Value.int 0 0), (Value.int 3 0), (Value.ref 176), (Value.bool true), (Value.int 181 0), (Value.ref 177), Value.none, (Value.ref 178), (Value.ref 179), (Value.ref 180), (Value.int 436 0), (Value.int 177 0), (Value.str (Str.ofString "/claim/cut.py") 437)])) (List.toArray []))
noncomputable def b182v5 (_ : Params) : Obj := (Obj.mk (Value.type "function") none (Data.func (FuncData.mk (Str.ofString "_law_value") (Str.ofString "_law_value") (argsAt 21) (.stmts (bodyAt 21)) (scopeAt 21) 3 [] Value.none Value.none Value.none (Value.str (Str.ofString "law_np0293_01") 391) none (Value.ref 181) Value.none 0)) (List.toArray []))
noncomputable def b183v5 (_ : Params) : Obj := (Obj.mk (Value.type "tuple") none (Data.seq (List.toArray []) 0) (List.toArray []))
noncomputable def b184v5 (_ : Params) : Obj := (Obj.mk Value.none none (Data.fields (List.toArray [])) (List.toArray []))
noncomputable def b185v5 (_ : Params) : Obj := (Obj.mk (Value.type "tuple") none (Data.seq (List.toArray [(Value.str (Str.ofString "trees") 442), (Value.str (Str.ofString "notes") 443), (Value.str (Str.ofString "found") 444), (Value.str (Str.ofString "tree") 445), (Value.str (Str.ofString "value") 446)]) 0) (List.toArray []))
noncomputable def b186v5 (_ : Params) : Obj := (Obj.mk (Value.type "tuple") none (Data.seq (List.toArray []) 0) (List.toArray []))
noncomputable def b187v5 (_ : Params) : Obj := (Obj.mk Value.none none (Data.func (FuncData.mk (Str.ofString "_law_several") (Str.ofString "_law_several") (argsAt 22) (.stmts (bodyAt 22)) (scopeAt 22) 0 [] Value.none Value.none Value.none Value.none none Value.none Value.none 0)) (List.toArray []))
noncomputable def b188v5 (_ : Params) : Obj := (Obj.mk (Value.type "code") none (Data.fields (List.toArray [(Value.str (Str.ofString "_law_several") 439), (Value.str (Str.ofString "_law_several") 440), (Value.str (Str.ofString "/claim/cut.py") 441), (Value.int 207 0), (Value.int 2 0), (Value.int 0 0), (Value.int 0 0), (Value.int 3 0), (Value.ref 183), (Value.bool true), (Value.int 181 0), (Value.ref 184), Value.none, (Value.ref 185), (Value.ref 186), (Value.ref 187), (Value.int 447 0), (Value.int 207 0), (Value.str (Str.ofString "/claim/cut.py") 448)])) (List.toArray []))
noncomputable def b189v5 (_ : Params) : Obj := (Obj.mk (Value.type "function") none (Data.func (FuncData.mk (Str.ofString "_law_several") (Str.ofString "_law_several") (argsAt 22) (.stmts (bodyAt 22)) (scopeAt 22) 3 [] Value.none Value.none Value.none (Value.str (Str.ofString "law_np0293_01") 391) none (Value.ref 188) Value.none 0)) (List.toArray []))
noncomputable def hp5 (P : Params) : Heap := Heap.mk (Array.mk [boot_o_0 P, boot_o_1 P, b2v1 P, b3v5 P, boot_o_4 P, boot_o_5 P, boot_o_6 P, boot_o_7 P, boot_o_8 P, boot_o_9 P, boot_o_10 P, b11v0 P, b12v5 P, b13v0 P, b14v0 P, b15v1 P, b16v1 P, b17v1 P, b18v1 P, b19v1 P, b20v1 P, b21v1 P, b22v1 P, b23v1 P, b24v1 P, b25v1 P, b26v1 P, b27v1 P, b28v1 P, b29v1 P, b30v1 P, b31v1 P, b32v1 P, b33v1 P, b34v1 P, b35v1 P, b36v1 P, b37v1 P, b38v2 P, b39v2 P, b40v2 P, b41v2 P, b42v2 P, b43v2 P, b44v2 P, b45v2 P, b46v2 P, b47v2 P, b48v2 P, b49v2 P, b50v2 P, b51v2 P, b52v2 P, b53v2 P, b54v2 P, b55v2 P, b56v2 P, b57v2 P, b58v2 P, b59v3 P, b60v3 P, b61v3 P, b62v3 P, b63v3 P, b64v3 P, b65v3 P, b66v3 P, b67v3 P, b68v3 P, b69v3 P, b70v3 P, b71v3 P, b72v3 P, b73v3 P, b74v3 P, b75v3 P, b76v3 P, b77v3 P, b78v3 P, b79v3 P, b80v3 P, b81v3 P, b82v3 P, b83v3 P, b84v3 P, b85v3 P, b86v3 P, b87v3 P, b88v3 P, b89v3 P, b90v3 P, b91v3 P, b92v3 P, b93v3 P, b94v3 P, b95v3 P, b96v3 P, b97v3 P, b98v3 P, b99v3 P, b100v3 P, b101v3 P, b102v3 P, b103v3 P, b104v3 P, b105v3 P, b106v3 P, b107v3 P, b108v3 P, b109v3 P, b110v3 P, b111v3 P, b112v3 P, b113v3 P, b114v3 P, b115v3 P, b116v3 P, b117v3 P, b118v3 P, b119v3 P, b120v3 P, b121v3 P, b122v3 P, b123v3 P, b124v3 P, b125v3 P, b126v3 P, b127v3 P, b128v3 P, b129v4 P, b130v4 P, b131v4 P, b132v4 P, b133v4 P, b134v4 P, b135v4 P, b136v4 P, b137v4 P, b138v4 P, b139v4 P, b140v4 P, b141v4 P, b142v4 P, b143v4 P, b144v4 P, b145v4 P, b146v4 P, b147v4 P, b148v4 P, b149v4 P, b150v5 P, b151v5 P, b152v5 P, b153v5 P, b154v5 P, b155v5 P, b156v5 P, b157v5 P, b158v5 P, b159v5 P, b160v5 P, b161v5 P, b162v5 P, b163v5 P, b164v5 P, b165v5 P, b166v5 P, b167v5 P, b168v5 P, b169v5 P, b170v5 P, b171v5 P, b172v5 P, b173v5 P, b174v5 P, b175v5 P, b176v5 P, b177v5 P, b178v5 P, b179v5 P, b180v5 P, b181v5 P, b182v5 P, b183v5 P, b184v5 P, b185v5 P, b186v5 P, b187v5 P, b188v5 P, b189v5 P]) {}
noncomputable def b3v6 (P : Params) : Obj := (Obj.mk (Value.type "dict") none (Data.dict (List.toArray [(DictEntry.mk (PyData.keyHash P (Str.ofString "__name__")) (Value.str (Str.ofString "__name__") 165) (Value.str (Str.ofString "law_np0293_01") 391)), (DictEntry.mk (PyData.keyHash P (Str.ofString "__doc__")) (Value.str (Str.ofString "__doc__") 166) Value.none), (DictEntry.mk (PyData.keyHash P (Str.ofString "__package__")) (Value.str (Str.ofString "__package__") 167) Value.none), (DictEntry.mk (PyData.keyHash P (Str.ofString "__loader__")) (Value.str (Str.ofString "__loader__") 168) (Value.builtin "__main__.__loader__#opaque")), (DictEntry.mk (PyData.keyHash P (Str.ofString "__spec__")) (Value.str (Str.ofString "__spec__") 169) Value.none), (DictEntry.mk (PyData.keyHash P (Str.ofString "__annotations__")) (Value.str (Str.ofString "__annotations__") 170) (Value.ref 6)), (DictEntry.mk (PyData.keyHash P (Str.ofString "__builtins__")) (Value.str (Str.ofString "__builtins__") 171) (Value.ref 4)), (DictEntry.mk (PyData.keyHash P (Str.ofString "__file__")) (Value.str (Str.ofString "__file__") 173) (Value.str (Str.ofString "/claim/cut.py") 172)), (DictEntry.mk (PyData.keyHash P (Str.ofString "__cached__")) (Value.str (Str.ofString "__cached__") 174) Value.none), (DictEntry.mk (PyData.keyHash P (Str.ofString "SnobolError")) (Value.str (Str.ofString "SnobolError") 222) (Value.ref 34)), (DictEntry.mk (PyData.keyHash P (Str.ofString "Compiled")) (Value.str (Str.ofString "Compiled") 261) (Value.ref 54)), (DictEntry.mk (PyData.keyHash P (Str.ofString "value_orders")) (Value.str (Str.ofString "value_orders") 269) (Value.ref 65)), (DictEntry.mk (PyData.keyHash P (Str.ofString "row_orders")) (Value.str (Str.ofString "row_orders") 278) (Value.ref 72)), (DictEntry.mk (PyData.keyHash P (Str.ofString "unary_orders")) (Value.str (Str.ofString "unary_orders") 287) (Value.ref 79)), (DictEntry.mk (PyData.keyHash P (Str.ofString "binary_orders")) (Value.str (Str.ofString "binary_orders") 296) (Value.ref 86)), (DictEntry.mk (PyData.keyHash P (Str.ofString "name_orders")) (Value.str (Str.ofString "name_orders") 304) (Value.ref 93)), (DictEntry.mk (PyData.keyHash P (Str.ofString "body_orders")) (Value.str (Str.ofString "body_orders") 312) (Value.ref 100)), (DictEntry.mk (PyData.keyHash P (Str.ofString "goto_orders")) (Value.str (Str.ofString "goto_orders") 321) (Value.ref 107)), (DictEntry.mk (PyData.keyHash P (Str.ofString "compile_statement")) (Value.str (Str.ofString "compile_statement") 331) (Value.ref 114)), (DictEntry.mk (PyData.keyHash P (Str.ofString "depth_of")) (Value.str (Str.ofString "depth_of") 341) (Value.ref 121)), (DictEntry.mk (PyData.keyHash P (Str.ofString "change_of")) (Value.str (Str.ofString "change_of") 349) (Value.ref 128)), (DictEntry.mk (PyData.keyHash P (Str.ofString "Statement")) (Value.str (Str.ofString "Statement") 390) (Value.ref 145)), (DictEntry.mk (PyData.keyHash P (Str.ofString "_law_take")) (Value.str (Str.ofString "_law_take") 401) (Value.ref 156)), (DictEntry.mk (PyData.keyHash P (Str.ofString "_law_total")) (Value.str (Str.ofString "_law_total") 410) (Value.ref 163)), (DictEntry.mk (PyData.keyHash P (Str.ofString "_law_tree")) (Value.str (Str.ofString "_law_tree") 416) (Value.ref 168)), (DictEntry.mk (PyData.keyHash P (Str.ofString "_law_goal")) (Value.str (Str.ofString "_law_goal") 425) (Value.ref 175)), (DictEntry.mk (PyData.keyHash P (Str.ofString "_law_value")) (Value.str (Str.ofString "_law_value") 438) (Value.ref 182)), (DictEntry.mk (PyData.keyHash P (Str.ofString "_law_several")) (Value.str (Str.ofString "_law_several") 449) (Value.ref 189)), (DictEntry.mk (PyData.keyHash P (Str.ofString "_law_name")) (Value.str (Str.ofString "_law_name") 461) (Value.ref 196)), (DictEntry.mk (PyData.keyHash P (Str.ofString "_law_pops")) (Value.str (Str.ofString "_law_pops") 471) (Value.ref 203)), (DictEntry.mk (PyData.keyHash P (Str.ofString "_law_done")) (Value.str (Str.ofString "_law_done") 486) (Value.ref 210)), (DictEntry.mk (PyData.keyHash P (Str.ofString "_law_run")) (Value.str (Str.ofString "_law_run") 500) (Value.ref 217)), (DictEntry.mk (PyData.keyHash P (Str.ofString "_law_statement")) (Value.str (Str.ofString "_law_statement") 509) (Value.ref 224)), (DictEntry.mk (PyData.keyHash P (Str.ofString "_law_events")) (Value.str (Str.ofString "_law_events") 522) (Value.ref 231)), (DictEntry.mk (PyData.keyHash P (Str.ofString "_law_gotos_right")) (Value.str (Str.ofString "_law_gotos_right") 530) (Value.ref 238)), (DictEntry.mk (PyData.keyHash P (Str.ofString "law")) (Value.str (Str.ofString "law") 536) (Value.ref 243))]) 36) (List.toArray []))
noncomputable def b12v6 (_ : Params) : Obj := (Obj.mk Value.none none (Data.fields (List.toArray [(Value.int 2 0), (Value.int 0 0), (Value.ref 21), (Value.int 9 0), (Value.int 0 0), (Value.ref 43), (Value.int 17 0), (Value.int 0 0), (Value.ref 64), (Value.int 34 0), (Value.int 0 0), (Value.ref 71), (Value.int 39 0), (Value.int 0 0), (Value.ref 78), (Value.int 56 0), (Value.int 0 0), (Value.ref 85), (Value.int 60 0), (Value.int 0 0), (Value.ref 92), (Value.int 73 0), (Value.int 0 0), (Value.ref 99), (Value.int 85 0), (Value.int 0 0), (Value.ref 106), (Value.int 96 0), (Value.int 0 0), (Value.ref 113), (Value.int 101 0), (Value.int 0 0), (Value.ref 120), (Value.int 107 0), (Value.int 0 0), (Value.ref 127), (Value.int 121 0), (Value.int 0 0), (Value.ref 134), (Value.int 135 0), (Value.int 0 0), (Value.ref 155), (Value.int 142 0), (Value.int 0 0), (Value.ref 162), (Value.int 147 0), (Value.int 0 0), (Value.ref 167), (Value.int 166 0), (Value.int 0 0), (Value.ref 174), (Value.int 177 0), (Value.int 0 0), (Value.ref 181), (Value.int 207 0), (Value.int 0 0), (Value.ref 188), (Value.int 215 0), (Value.int 0 0), (Value.ref 195), (Value.int 228 0), (Value.int 0 0), (Value.ref 202), (Value.int 233 0), (Value.int 0 0), (Value.ref 209), (Value.int 269 0), (Value.int 0 0), (Value.ref 216), (Value.int 286 0), (Value.int 0 0), (Value.ref 223), (Value.int 296 0), (Value.int 0 0), (Value.ref 230), (Value.int 314 0), (Value.int 0 0), (Value.ref 237), (Value.int 328 0), (Value.int 0 0), (Value.ref 242)])) (List.toArray []))
noncomputable def b190v6 (_ : Params) : Obj := (Obj.mk (Value.type "tuple") none (Data.seq (List.toArray []) 0) (List.toArray []))
noncomputable def b191v6 (_ : Params) : Obj := (Obj.mk Value.none none (Data.fields (List.toArray [])) (List.toArray []))
noncomputable def b192v6 (_ : Params) : Obj := (Obj.mk (Value.type "tuple") none (Data.seq (List.toArray [(Value.str (Str.ofString "tree") 453), (Value.str (Str.ofString "notes") 454), (Value.str (Str.ofString "as_name") 455), (Value.str (Str.ofString "kind") 456), (Value.str (Str.ofString "found") 457), (Value.str (Str.ofString "inner") 458)]) 0) (List.toArray []))
noncomputable def b193v6 (_ : Params) : Obj := (Obj.mk (Value.type "tuple") none (Data.seq (List.toArray []) 0) (List.toArray []))
noncomputable def b194v6 (_ : Params) : Obj := (Obj.mk Value.none none (Data.func (FuncData.mk (Str.ofString "_law_name") (Str.ofString "_law_name") (argsAt 23) (.stmts (bodyAt 23)) (scopeAt 23) 0 [] Value.none Value.none Value.none Value.none none Value.none Value.none 0)) (List.toArray []))
noncomputable def b195v6 (_ : Params) : Obj := (Obj.mk (Value.type "code") none (Data.fields (List.toArray [(Value.str (Str.ofString "_law_name") 450), (Value.str (Str.ofString "_law_name") 451), (Value.str (Str.ofString "/claim/cut.py") 452), (Value.int 215 0), (Value.int 3 0), (Value.int 0 0), (Value.int 0 0), (Value.int 3 0), (Value.ref 190), (Value.bool true), (Value.int 181 0), (Value.ref 191), Value.none, (Value.ref 192), (Value.ref 193), (Value.ref 194), (Value.int 459 0), (Value.int 215 0), (Value.str (Str.ofString "/claim/cut.py") 460)])) (List.toArray []))
noncomputable def b196v6 (_ : Params) : Obj := (Obj.mk (Value.type "function") none (Data.func (FuncData.mk (Str.ofString "_law_name") (Str.ofString "_law_name") (argsAt 23) (.stmts (bodyAt 23)) (scopeAt 23) 3 [] Value.none Value.none Value.none (Value.str (Str.ofString "law_np0293_01") 391) none (Value.ref 195) Value.none 0)) (List.toArray []))
noncomputable def b197v6 (_ : Params) : Obj := (Obj.mk (Value.type "tuple") none (Data.seq (List.toArray []) 0) (List.toArray []))
noncomputable def b198v6 (_ : Params) : Obj := (Obj.mk Value.none none (Data.fields (List.toArray [])) (List.toArray []))
noncomputable def b199v6 (_ : Params) : Obj := (Obj.mk (Value.type "tuple") none (Data.seq (List.toArray [(Value.str (Str.ofString "stack") 465), (Value.str (Str.ofString "many") 466), (Value.str (Str.ofString "found") 467), (Value.str (Str.ofString "turn") 468)]) 0) (List.toArray []))
noncomputable def b200v6 (_ : Params) : Obj := (Obj.mk (Value.type "tuple") none (Data.seq (List.toArray []) 0) (List.toArray []))
noncomputable def b201v6 (_ : Params) : Obj := (Obj.mk Value.none none (Data.func (FuncData.mk (Str.ofString "_law_pops") (Str.ofString "_law_pops") (argsAt 24) (.stmts (bodyAt 24)) (scopeAt 24) 0 [] Value.none Value.none Value.none Value.none none Value.none Value.none 0)) (List.toArray []))
noncomputable def b202v6 (_ : Params) : Obj := (Obj.mk (Value.type "code") none (Data.fields (List.toArray [(Value.str (Str.ofString "_law_pops") 462), (Value.str (Str.ofString "_law_pops") 463), (Value.str (Str.ofString "/claim/cut.py") 464), (Value.int 228 0), (Value.int 2 0), (Value.int 0 0), (Value.int 0 0), (Value.int 3 0), (Value.ref 197), (Value.bool true), (Value.int 181 0), (Value.ref 198), Value.none, (Value.ref 199), (Value.ref 200), (Value.ref 201), (Value.int 469 0), (Value.int 228 0), (Value.str (Str.ofString "/claim/cut.py") 470)])) (List.toArray []))
noncomputable def b203v6 (_ : Params) : Obj := (Obj.mk (Value.type "function") none (Data.func (FuncData.mk (Str.ofString "_law_pops") (Str.ofString "_law_pops") (argsAt 24) (.stmts (bodyAt 24)) (scopeAt 24) 3 [] Value.none Value.none Value.none (Value.str (Str.ofString "law_np0293_01") 391) none (Value.ref 202) Value.none 0)) (List.toArray []))
noncomputable def b204v6 (_ : Params) : Obj := (Obj.mk (Value.type "tuple") none (Data.seq (List.toArray []) 0) (List.toArray []))
noncomputable def b205v6 (_ : Params) : Obj := (Obj.mk Value.none none (Data.fields (List.toArray [])) (List.toArray []))
noncomputable def b206v6 (_ : Params) : Obj := (Obj.mk (Value.type "tuple") none (Data.seq (List.toArray [(Value.str (Str.ofString "order") 475), (Value.str (Str.ofString "stack") 476), (Value.str (Str.ofString "notes") 477), (Value.str (Str.ofString "word") 478), (Value.str (Str.ofString "many") 479), (Value.str (Str.ofString "args") 480), (Value.str (Str.ofString "name") 481), (Value.str (Str.ofString "left") 482), (Value.str (Str.ofString "right") 483)]) 0) (List.toArray []))
noncomputable def b207v6 (_ : Params) : Obj := (Obj.mk (Value.type "tuple") none (Data.seq (List.toArray []) 0) (List.toArray []))
noncomputable def b208v6 (_ : Params) : Obj := (Obj.mk Value.none none (Data.func (FuncData.mk (Str.ofString "_law_done") (Str.ofString "_law_done") (argsAt 25) (.stmts (bodyAt 25)) (scopeAt 25) 0 [] Value.none Value.none Value.none Value.none none Value.none Value.none 0)) (List.toArray []))
noncomputable def b209v6 (_ : Params) : Obj := (Obj.mk (Value.type "code") none (Data.fields (List.toArray [(Value.str (Str.ofString "_law_done") 472), (Value.str (Str.ofString "_law_done") 473), (Value.str (Str.ofString "/claim/cut.py") 474), (Value.int 233 0), (Value.int 3 0), (Value.int 0 0), (Value.int 0 0), (Value.int 3 0), (Value.ref 204), (Value.bool true), (Value.int 181 0), (Value.ref 205), Value.none, (Value.ref 206), (Value.ref 207), (Value.ref 208), (Value.int 484 0), (Value.int 233 0), (Value.str (Str.ofString "/claim/cut.py") 485)])) (List.toArray []))
noncomputable def b210v6 (_ : Params) : Obj := (Obj.mk (Value.type "function") none (Data.func (FuncData.mk (Str.ofString "_law_done") (Str.ofString "_law_done") (argsAt 25) (.stmts (bodyAt 25)) (scopeAt 25) 3 [] Value.none Value.none Value.none (Value.str (Str.ofString "law_np0293_01") 391) none (Value.ref 209) Value.none 0)) (List.toArray []))
noncomputable def b211v6 (_ : Params) : Obj := (Obj.mk (Value.type "tuple") none (Data.seq (List.toArray []) 0) (List.toArray []))
noncomputable def b212v6 (_ : Params) : Obj := (Obj.mk Value.none none (Data.fields (List.toArray [])) (List.toArray []))
noncomputable def b213v6 (_ : Params) : Obj := (Obj.mk (Value.type "tuple") none (Data.seq (List.toArray [(Value.str (Str.ofString "orders") 490), (Value.str (Str.ofString "notes") 491), (Value.str (Str.ofString "stack") 492), (Value.str (Str.ofString "guards") 493), (Value.str (Str.ofString "at") 494), (Value.str (Str.ofString "high") 495), (Value.str (Str.ofString "order") 496), (Value.str (Str.ofString "height") 497)]) 0) (List.toArray []))
noncomputable def b214v6 (_ : Params) : Obj := (Obj.mk (Value.type "tuple") none (Data.seq (List.toArray []) 0) (List.toArray []))
noncomputable def b215v6 (_ : Params) : Obj := (Obj.mk Value.none none (Data.func (FuncData.mk (Str.ofString "_law_run") (Str.ofString "_law_run") (argsAt 26) (.stmts (bodyAt 26)) (scopeAt 26) 0 [] Value.none Value.none Value.none Value.none none Value.none Value.none 0)) (List.toArray []))
noncomputable def b216v6 (_ : Params) : Obj := (Obj.mk (Value.type "code") none (Data.fields (List.toArray [(Value.str (Str.ofString "_law_run") 487), (Value.str (Str.ofString "_law_run") 488), (Value.str (Str.ofString "/claim/cut.py") 489), (Value.int 269 0), (Value.int 2 0), (Value.int 0 0), (Value.int 0 0), (Value.int 3 0), (Value.ref 211), (Value.bool true), (Value.int 181 0), (Value.ref 212), Value.none, (Value.ref 213), (Value.ref 214), (Value.ref 215), (Value.int 498 0), (Value.int 269 0), (Value.str (Str.ofString "/claim/cut.py") 499)])) (List.toArray []))
noncomputable def b217v6 (_ : Params) : Obj := (Obj.mk (Value.type "function") none (Data.func (FuncData.mk (Str.ofString "_law_run") (Str.ofString "_law_run") (argsAt 26) (.stmts (bodyAt 26)) (scopeAt 26) 3 [] Value.none Value.none Value.none (Value.str (Str.ofString "law_np0293_01") 391) none (Value.ref 216) Value.none 0)) (List.toArray []))
noncomputable def b218v6 (_ : Params) : Obj := (Obj.mk (Value.type "tuple") none (Data.seq (List.toArray []) 0) (List.toArray []))
noncomputable def b219v6 (_ : Params) : Obj := (Obj.mk Value.none none (Data.fields (List.toArray [])) (List.toArray []))
noncomputable def b220v6 (_ : Params) : Obj := (Obj.mk (Value.type "tuple") none (Data.seq (List.toArray [(Value.str (Str.ofString "box") 504), (Value.str (Str.ofString "form") 505), (Value.str (Str.ofString "found") 506)]) 0) (List.toArray []))
noncomputable def b221v6 (_ : Params) : Obj := (Obj.mk (Value.type "tuple") none (Data.seq (List.toArray []) 0) (List.toArray []))
noncomputable def b222v6 (_ : Params) : Obj := (Obj.mk Value.none none (Data.func (FuncData.mk (Str.ofString "_law_statement") (Str.ofString "_law_statement") (argsAt 27) (.stmts (bodyAt 27)) (scopeAt 27) 0 [] Value.none Value.none Value.none Value.none none Value.none Value.none 0)) (List.toArray []))
noncomputable def b223v6 (_ : Params) : Obj := (Obj.mk (Value.type "code") none (Data.fields (List.toArray [(Value.str (Str.ofString "_law_statement") 501), (Value.str (Str.ofString "_law_statement") 502), (Value.str (Str.ofString "/claim/cut.py") 503), (Value.int 286 0), (Value.int 2 0), (Value.int 0 0), (Value.int 0 0), (Value.int 3 0), (Value.ref 218), (Value.bool true), (Value.int 181 0), (Value.ref 219), Value.none, (Value.ref 220), (Value.ref 221), (Value.ref 222), (Value.int 507 0), (Value.int 286 0), (Value.str (Str.ofString "/claim/cut.py") 508)])) (List.toArray []))
noncomputable def b224v6 (_ : Params) : Obj := (Obj.mk (Value.type "function") none (Data.func (FuncData.mk (Str.ofString "_law_statement") (Str.ofString "_law_statement") (argsAt 27) (.stmts (bodyAt 27)) (scopeAt 27) 3 [] Value.none Value.none Value.none (Value.str (Str.ofString "law_np0293_01") 391) none (Value.ref 223) Value.none 0)) (List.toArray []))
noncomputable def b225v6 (_ : Params) : Obj := (Obj.mk (Value.type "tuple") none (Data.seq (List.toArray []) 0) (List.toArray []))
noncomputable def b226v6 (_ : Params) : Obj := (Obj.mk Value.none none (Data.fields (List.toArray [])) (List.toArray []))
noncomputable def b227v6 (_ : Params) : Obj := (Obj.mk (Value.type "tuple") none (Data.seq (List.toArray [(Value.str (Str.ofString "statement") 513), (Value.str (Str.ofString "notes") 514), (Value.str (Str.ofString "is_set") 515), (Value.str (Str.ofString "matched") 516), (Value.str (Str.ofString "subject") 517), (Value.str (Str.ofString "pattern") 518), (Value.str (Str.ofString "value") 519)]) 0) (List.toArray []))
noncomputable def b228v6 (_ : Params) : Obj := (Obj.mk (Value.type "tuple") none (Data.seq (List.toArray []) 0) (List.toArray []))
noncomputable def b229v6 (_ : Params) : Obj := (Obj.mk Value.none none (Data.func (FuncData.mk (Str.ofString "_law_events") (Str.ofString "_law_events") (argsAt 28) (.stmts (bodyAt 28)) (scopeAt 28) 0 [] Value.none Value.none Value.none Value.none none Value.none Value.none 0)) (List.toArray []))
noncomputable def b230v6 (_ : Params) : Obj := (Obj.mk (Value.type "code") none (Data.fields (List.toArray [(Value.str (Str.ofString "_law_events") 510), (Value.str (Str.ofString "_law_events") 511), (Value.str (Str.ofString "/claim/cut.py") 512), (Value.int 296 0), (Value.int 2 0), (Value.int 0 0), (Value.int 0 0), (Value.int 3 0), (Value.ref 225), (Value.bool true), (Value.int 181 0), (Value.ref 226), Value.none, (Value.ref 227), (Value.ref 228), (Value.ref 229), (Value.int 520 0), (Value.int 296 0), (Value.str (Str.ofString "/claim/cut.py") 521)])) (List.toArray []))
noncomputable def b231v6 (_ : Params) : Obj := (Obj.mk (Value.type "function") none (Data.func (FuncData.mk (Str.ofString "_law_events") (Str.ofString "_law_events") (argsAt 28) (.stmts (bodyAt 28)) (scopeAt 28) 3 [] Value.none Value.none Value.none (Value.str (Str.ofString "law_np0293_01") 391) none (Value.ref 230) Value.none 0)) (List.toArray []))
noncomputable def b232v6 (_ : Params) : Obj := (Obj.mk (Value.type "tuple") none (Data.seq (List.toArray []) 0) (List.toArray []))
noncomputable def b233v6 (_ : Params) : Obj := (Obj.mk Value.none none (Data.fields (List.toArray [])) (List.toArray []))
noncomputable def b234v6 (_ : Params) : Obj := (Obj.mk (Value.type "tuple") none (Data.seq (List.toArray [(Value.str (Str.ofString "statement") 526), (Value.str (Str.ofString "made") 527)]) 0) (List.toArray []))
noncomputable def b235v6 (_ : Params) : Obj := (Obj.mk (Value.type "tuple") none (Data.seq (List.toArray []) 0) (List.toArray []))
noncomputable def b236v6 (_ : Params) : Obj := (Obj.mk Value.none none (Data.func (FuncData.mk (Str.ofString "_law_gotos_right") (Str.ofString "_law_gotos_right") (argsAt 29) (.stmts (bodyAt 29)) (scopeAt 29) 0 [] Value.none Value.none Value.none Value.none none Value.none Value.none 0)) (List.toArray []))
noncomputable def b237v6 (_ : Params) : Obj := (Obj.mk (Value.type "code") none (Data.fields (List.toArray [(Value.str (Str.ofString "_law_gotos_right") 523), (Value.str (Str.ofString "_law_gotos_right") 524), (Value.str (Str.ofString "/claim/cut.py") 525), (Value.int 314 0), (Value.int 1 0), (Value.int 0 0), (Value.int 0 0), (Value.int 3 0), (Value.ref 232), (Value.bool true), (Value.int 181 0), (Value.ref 233), Value.none, (Value.ref 234), (Value.ref 235), (Value.ref 236), (Value.int 528 0), (Value.int 314 0), (Value.str (Str.ofString "/claim/cut.py") 529)])) (List.toArray []))
noncomputable def b238v6 (_ : Params) : Obj := (Obj.mk (Value.type "function") none (Data.func (FuncData.mk (Str.ofString "_law_gotos_right") (Str.ofString "_law_gotos_right") (argsAt 29) (.stmts (bodyAt 29)) (scopeAt 29) 3 [] Value.none Value.none Value.none (Value.str (Str.ofString "law_np0293_01") 391) none (Value.ref 237) Value.none 0)) (List.toArray []))
noncomputable def b239v6 (_ : Params) : Obj := (Obj.mk (Value.type "tuple") none (Data.seq (List.toArray []) 0) (List.toArray []))
noncomputable def b240v6 (_ : Params) : Obj := (Obj.mk Value.none none (Data.fields (List.toArray [])) (List.toArray []))
noncomputable def b241v6 (_ : Params) : Obj := (Obj.mk Value.none none (Data.func (FuncData.mk (Str.ofString "law") (Str.ofString "law") (argsAt 30) (.stmts (bodyAt 30)) (scopeAt 30) 0 [] Value.none Value.none Value.none Value.none none Value.none Value.none 0)) (List.toArray []))
noncomputable def b242v6 (_ : Params) : Obj := (Obj.mk (Value.type "code") none (Data.fields (List.toArray [(Value.str (Str.ofString "law") 531), (Value.str (Str.ofString "law") 532), (Value.str (Str.ofString "/claim/cut.py") 533), (Value.int 328 0), (Value.int 1 0), (Value.int 0 0), (Value.int 0 0), (Value.int 3 0), (Value.ref 239), (Value.bool true), (Value.int 181 0), (Value.ref 240), Value.none, Value.none, Value.none, (Value.ref 241), (Value.int 534 0), (Value.int 328 0), (Value.str (Str.ofString "/claim/cut.py") 535)])) (List.toArray []))
noncomputable def b243v6 (_ : Params) : Obj := (Obj.mk (Value.type "function") none (Data.func (FuncData.mk (Str.ofString "law") (Str.ofString "law") (argsAt 30) (.stmts (bodyAt 30)) (scopeAt 30) 3 [] Value.none Value.none Value.none (Value.str (Str.ofString "law_np0293_01") 391) none (Value.ref 242) Value.none 0)) (List.toArray []))
noncomputable def hp6 (P : Params) : Heap := Heap.mk (Array.mk [boot_o_0 P, boot_o_1 P, b2v1 P, b3v6 P, boot_o_4 P, boot_o_5 P, boot_o_6 P, boot_o_7 P, boot_o_8 P, boot_o_9 P, boot_o_10 P, b11v0 P, b12v6 P, b13v0 P, b14v0 P, b15v1 P, b16v1 P, b17v1 P, b18v1 P, b19v1 P, b20v1 P, b21v1 P, b22v1 P, b23v1 P, b24v1 P, b25v1 P, b26v1 P, b27v1 P, b28v1 P, b29v1 P, b30v1 P, b31v1 P, b32v1 P, b33v1 P, b34v1 P, b35v1 P, b36v1 P, b37v1 P, b38v2 P, b39v2 P, b40v2 P, b41v2 P, b42v2 P, b43v2 P, b44v2 P, b45v2 P, b46v2 P, b47v2 P, b48v2 P, b49v2 P, b50v2 P, b51v2 P, b52v2 P, b53v2 P, b54v2 P, b55v2 P, b56v2 P, b57v2 P, b58v2 P, b59v3 P, b60v3 P, b61v3 P, b62v3 P, b63v3 P, b64v3 P, b65v3 P, b66v3 P, b67v3 P, b68v3 P, b69v3 P, b70v3 P, b71v3 P, b72v3 P, b73v3 P, b74v3 P, b75v3 P, b76v3 P, b77v3 P, b78v3 P, b79v3 P, b80v3 P, b81v3 P, b82v3 P, b83v3 P, b84v3 P, b85v3 P, b86v3 P, b87v3 P, b88v3 P, b89v3 P, b90v3 P, b91v3 P, b92v3 P, b93v3 P, b94v3 P, b95v3 P, b96v3 P, b97v3 P, b98v3 P, b99v3 P, b100v3 P, b101v3 P, b102v3 P, b103v3 P, b104v3 P, b105v3 P, b106v3 P, b107v3 P, b108v3 P, b109v3 P, b110v3 P, b111v3 P, b112v3 P, b113v3 P, b114v3 P, b115v3 P, b116v3 P, b117v3 P, b118v3 P, b119v3 P, b120v3 P, b121v3 P, b122v3 P, b123v3 P, b124v3 P, b125v3 P, b126v3 P, b127v3 P, b128v3 P, b129v4 P, b130v4 P, b131v4 P, b132v4 P, b133v4 P, b134v4 P, b135v4 P, b136v4 P, b137v4 P, b138v4 P, b139v4 P, b140v4 P, b141v4 P, b142v4 P, b143v4 P, b144v4 P, b145v4 P, b146v4 P, b147v4 P, b148v4 P, b149v4 P, b150v5 P, b151v5 P, b152v5 P, b153v5 P, b154v5 P, b155v5 P, b156v5 P, b157v5 P, b158v5 P, b159v5 P, b160v5 P, b161v5 P, b162v5 P, b163v5 P, b164v5 P, b165v5 P, b166v5 P, b167v5 P, b168v5 P, b169v5 P, b170v5 P, b171v5 P, b172v5 P, b173v5 P, b174v5 P, b175v5 P, b176v5 P, b177v5 P, b178v5 P, b179v5 P, b180v5 P, b181v5 P, b182v5 P, b183v5 P, b184v5 P, b185v5 P, b186v5 P, b187v5 P, b188v5 P, b189v5 P, b190v6 P, b191v6 P, b192v6 P, b193v6 P, b194v6 P, b195v6 P, b196v6 P, b197v6 P, b198v6 P, b199v6 P, b200v6 P, b201v6 P, b202v6 P, b203v6 P, b204v6 P, b205v6 P, b206v6 P, b207v6 P, b208v6 P, b209v6 P, b210v6 P, b211v6 P, b212v6 P, b213v6 P, b214v6 P, b215v6 P, b216v6 P, b217v6 P, b218v6 P, b219v6 P, b220v6 P, b221v6 P, b222v6 P, b223v6 P, b224v6 P, b225v6 P, b226v6 P, b227v6 P, b228v6 P, b229v6 P, b230v6 P, b231v6 P, b232v6 P, b233v6 P, b234v6 P, b235v6 P, b236v6 P, b237v6 P, b238v6 P, b239v6 P, b240v6 P, b241v6 P, b242v6 P, b243v6 P]) {}
noncomputable abbrev P0 : Program := PySem.Challenge.pw_np0293_01
noncomputable def env0 : Env := { scope := P0.main.scope, locals := mainNs, globals := mainNs, cells := [], code := .ref 13, frame := some 14 }
noncomputable def cd0 : Code := .body P0.main.body env0
noncomputable abbrev pz0 : Pos := ⟨0, 0, 0, 0⟩
noncomputable abbrev ann0 : Option Value := some (.ref 6)
noncomputable abbrev sh0 (H : Params → Heap) (k : Nat) (w : World) (os : OsState) : Shared := ⟨H w.params, #[], {}, k, os⟩
noncomputable def cut0 (a b : Nat) : List Stmt := (P0.main.body.drop a).take b
theorem size0 : ∀ w : World, ((boot_heap w.params).isNs mainGlobals && (Array.mk ([] : List GenState)).size == 0, (boot_heap w.params).objs.size, (boot_heap w.params).nsMap mainGlobals "__annotations__") = (true, 11, ann0) := by
  intro w
  kernel_rfl
theorem pre0 : ∀ (w : World) (os : OsState), topGo treeTable P0 w 11 ann0 12 ⟨boot_heap w.params, Array.mk [], boot_drawn, boot_toks, os⟩ (topStub P0) = some (sh0 hp0 187 w os, ⟨denote treeTable cd0, cd0, pz0, [topFrame pz0]⟩) := by
  intro w os
  kernel_rfl
theorem block0 : ∀ (w : World) (os : OsState), segRun treeTable P0 w 11 ann0 1 1 (sh0 hp0 187 w os) (blockOf P0.main.body env0 cd0 pz0 [topFrame pz0]) = some (.next, sh0 hp0 187 w os, cd0, pz0) := by
  intro w os
  kernel_rfl
theorem seg1 : ∀ (w : World) (os : OsState), segRun treeTable P0 w 11 ann0 1 320 (sh0 hp0 187 w os) (piecesOf (cut0 0 2) env0 cd0 pz0 [topFrame pz0]) = some (.next, sh0 hp1 223 w os, cd0, ⟨2, 0, 7, 24⟩) := by
  intro w os
  kernel_rfl
theorem seg2 : ∀ (w : World) (os : OsState), segRun treeTable P0 w 11 ann0 1 320 (sh0 hp1 223 w os) (piecesOf (cut0 2 2) env0 cd0 ⟨2, 0, 7, 24⟩ [topFrame pz0]) = some (.next, sh0 hp2 262 w os, cd0, ⟨9, 0, 16, 24⟩) := by
  intro w os
  kernel_rfl
theorem seg3 : ∀ (w : World) (os : OsState), segRun treeTable P0 w 11 ann0 1 320 (sh0 hp2 262 w os) (piecesOf (cut0 4 10) env0 cd0 ⟨9, 0, 16, 24⟩ [topFrame pz0]) = some (.next, sh0 hp3 350 w os, cd0, ⟨107, 0, 119, 12⟩) := by
  intro w os
  kernel_rfl
theorem seg4 : ∀ (w : World) (os : OsState), segRun treeTable P0 w 11 ann0 1 320 (sh0 hp3 350 w os) (piecesOf (cut0 14 2) env0 cd0 ⟨107, 0, 119, 12⟩ [topFrame pz0]) = some (.next, sh0 hp4 391 w os, cd0, ⟨121, 0, 133, 24⟩) := by
  intro w os
  kernel_rfl
theorem seg5 : ∀ (w : World) (os : OsState), segRun treeTable P0 w 11 ann0 1 320 (sh0 hp4 391 w os) (piecesOf (cut0 16 7) env0 cd0 ⟨121, 0, 133, 24⟩ [topFrame pz0]) = some (.next, sh0 hp5 450 w os, cd0, ⟨207, 0, 214, 16⟩) := by
  intro w os
  kernel_rfl
theorem seg6 : ∀ (w : World) (os : OsState), segRun treeTable P0 w 11 ann0 1 320 (sh0 hp5 450 w os) (piecesOf (cut0 23 8) env0 cd0 ⟨207, 0, 214, 16⟩ [topFrame pz0]) = some (.next, sh0 hp6 537 w os, cd0, ⟨328, 0, 345, 67⟩) := by
  intro w os
  kernel_rfl
theorem fin0 : ∀ (w : World) (os : OsState), topRun treeTable P0 w 11 ann0 2 (sh0 hp6 537 w os) (restOf [] env0 cd0 ⟨328, 0, 345, 67⟩ [topFrame pz0]) = some (sh0 hp6 537 w os) := by
  intro w os
  kernel_rfl
theorem body0 : cut0 0 2 ++ (cut0 2 2 ++ (cut0 4 10 ++ (cut0 14 2 ++ (cut0 16 7 ++ (cut0 23 8 ++ []))))) = P0.main.body := by kernel_rfl
theorem run0 : ∀ (w : World) (os : OsState), topRun treeTable P0 w 11 ann0 (12 + (1 + (320 + (320 + (320 + (320 + (320 + (320 + 2)))))))) ⟨boot_heap w.params, Array.mk [], boot_drawn, boot_toks, os⟩ (topStub P0) = some (sh0 hp6 537 w os) := by
  intro w os
  refine go_top (pre0 w os) ?_
  refine piece_block (env := env0) (block0 w os) ?_
  have h := piece_app (seg1 w os) (piece_app (seg2 w os) (piece_app (seg3 w os) (piece_app (seg4 w os) (piece_app (seg5 w os) (piece_app (seg6 w os) (fin0 w os))))))
  rw [body0] at h
  exact h
theorem boot0 : ∀ w : World, (fencedOpening treeTable P0 w 3110).map (fun s => (s.heap, s.gens, s.drawn, s.toks)) = some (boot_heap w.params, Array.mk [], boot_drawn, boot_toks) :=
  boot_open (by kernel_rfl) (by rfl) (fun _ => by kernel_rfl)
theorem looks0 : ∀ w : World, (fun os => ((staticsOk (importedModules P0.main.body) (boot_heap w.params) (hp6 w.params) && namesBound P0 (hp6 w.params) && gensDone (sh0 hp6 537 w os) && laidKept (boot_heap w.params) (hp6 w.params)),
    openSeen q0 loose0 (importedModules P0.main.body) (fun s => xlAt q0 [] s && recOk [] s) true (sh0 hp6 537 w os), hook0.obs (sh0 hp6 537 w os))) = fun _ => (true, openGood q0 loose0, hook0.val w) := by
  intro w
  kernel_rfl
theorem left0 : LeftO PySem.Challenge.pw_np0293_01 q0 loose0 (fun s => xlAt q0 [] s && recOk [] s) hook0.obs hook0.val 3110 :=
  LeftO.of_pieces boot0 size0 run0 (by decide) looks0

noncomputable def A0 : Nat → Addr
  | 3 => 54
  | 4 => 65
  | 5 => 72
  | 6 => 79
  | 7 => 86
  | 8 => 93
  | 9 => 100
  | 10 => 107
  | 11 => 114
  | 12 => 121
  | 13 => 128
  | 15 => 145
  | 17 => 156
  | 18 => 163
  | 19 => 168
  | 20 => 175
  | 21 => 182
  | 22 => 189
  | 23 => 196
  | 24 => 203
  | 25 => 210
  | 26 => 217
  | 27 => 224
  | 28 => 231
  | 29 => 238
  | 103 => 51
  | 115 => 142
  | _ => 0

theorem len1 {α : Type} {l : List α} (h : l.length = 1) : ∃ a, l = [a] := by
  match l, h with
  | [a], _ => exact ⟨a, rfl⟩
theorem len2 {α : Type} {l : List α} (h : l.length = 2) : ∃ a b, l = [a, b] := by
  match l, h with
  | [a, b], _ => exact ⟨a, b, rfl⟩
theorem len3 {α : Type} {l : List α} (h : l.length = 3) : ∃ a b c, l = [a, b, c] := by
  match l, h with
  | [a, b, c], _ => exact ⟨a, b, c, rfl⟩
theorem len6 {α : Type} {l : List α} (h : l.length = 6) : ∃ a b c d e f, l = [a, b, c, d, e, f] := by
  match l, h with
  | [a, b, c, d, e, f], _ => exact ⟨a, b, c, d, e, f, rfl⟩
section
variable (c : Cx) (P : Params) (hK : c.K = K0 P)
include hK

theorem fun4 : FunAt c (A0 4) ["tree"] (bodyAt 4) (scopeAt 4) := by
  refine ⟨_, _, _, _, _, _, _, _, _, _, _, _, _, (by rw [hK]; rfl), (by rw [hK]; kernel_rfl), fun vs h => ?_⟩
  obtain ⟨a, rfl⟩ := len1 h
  kernel_rfl

theorem fun5 : FunAt c (A0 5) ["trees"] (bodyAt 5) (scopeAt 5) := by
  refine ⟨_, _, _, _, _, _, _, _, _, _, _, _, _, (by rw [hK]; rfl), (by rw [hK]; kernel_rfl), fun vs h => ?_⟩
  obtain ⟨a, rfl⟩ := len1 h
  kernel_rfl

theorem fun6 : FunAt c (A0 6) ["op", "tree"] (bodyAt 6) (scopeAt 6) := by
  refine ⟨_, _, _, _, _, _, _, _, _, _, _, _, _, (by rw [hK]; rfl), (by rw [hK]; kernel_rfl), fun vs h => ?_⟩
  obtain ⟨a, b, rfl⟩ := len2 h
  kernel_rfl

theorem fun7 : FunAt c (A0 7) ["op", "left", "right"] (bodyAt 7) (scopeAt 7) := by
  refine ⟨_, _, _, _, _, _, _, _, _, _, _, _, _, (by rw [hK]; rfl), (by rw [hK]; kernel_rfl), fun vs h => ?_⟩
  obtain ⟨a, b, d, rfl⟩ := len3 h
  kernel_rfl

theorem fun8 : FunAt c (A0 8) ["tree"] (bodyAt 8) (scopeAt 8) := by
  refine ⟨_, _, _, _, _, _, _, _, _, _, _, _, _, (by rw [hK]; rfl), (by rw [hK]; kernel_rfl), fun vs h => ?_⟩
  obtain ⟨a, rfl⟩ := len1 h
  kernel_rfl

theorem fun9 : FunAt c (A0 9) ["statement"] (bodyAt 9) (scopeAt 9) := by
  refine ⟨_, _, _, _, _, _, _, _, _, _, _, _, _, (by rw [hK]; rfl), (by rw [hK]; kernel_rfl), fun vs h => ?_⟩
  obtain ⟨a, rfl⟩ := len1 h
  kernel_rfl

theorem fun10 : FunAt c (A0 10) ["go"] (bodyAt 10) (scopeAt 10) := by
  refine ⟨_, _, _, _, _, _, _, _, _, _, _, _, _, (by rw [hK]; rfl), (by rw [hK]; kernel_rfl), fun vs h => ?_⟩
  obtain ⟨a, rfl⟩ := len1 h
  kernel_rfl

theorem fun11 : FunAt c (A0 11) ["statement"] (bodyAt 11) (scopeAt 11) := by
  refine ⟨_, _, _, _, _, _, _, _, _, _, _, _, _, (by rw [hK]; rfl), (by rw [hK]; kernel_rfl), fun vs h => ?_⟩
  obtain ⟨a, rfl⟩ := len1 h
  kernel_rfl

theorem fun12 : FunAt c (A0 12) ["orders"] (bodyAt 12) (scopeAt 12) := by
  refine ⟨_, _, _, _, _, _, _, _, _, _, _, _, _, (by rw [hK]; rfl), (by rw [hK]; kernel_rfl), fun vs h => ?_⟩
  obtain ⟨a, rfl⟩ := len1 h
  kernel_rfl

theorem fun13 : FunAt c (A0 13) ["order"] (bodyAt 13) (scopeAt 13) := by
  refine ⟨_, _, _, _, _, _, _, _, _, _, _, _, _, (by rw [hK]; rfl), (by rw [hK]; kernel_rfl), fun vs h => ?_⟩
  obtain ⟨a, rfl⟩ := len1 h
  kernel_rfl

theorem fun17 : FunAt c (A0 17) ["box", "many"] (bodyAt 17) (scopeAt 17) := by
  refine ⟨_, _, _, _, _, _, _, _, _, _, _, _, _, (by rw [hK]; rfl), (by rw [hK]; kernel_rfl), fun vs h => ?_⟩
  obtain ⟨a, b, rfl⟩ := len2 h
  kernel_rfl

theorem fun18 : FunAt c (A0 18) ["script"] (bodyAt 18) (scopeAt 18) := by
  refine ⟨_, _, _, _, _, _, _, _, _, _, _, _, _, (by rw [hK]; rfl), (by rw [hK]; kernel_rfl), fun vs h => ?_⟩
  obtain ⟨a, rfl⟩ := len1 h
  kernel_rfl

theorem fun19 : FunAt c (A0 19) ["box", "deep"] (bodyAt 19) (scopeAt 19) := by
  refine ⟨_, _, _, _, _, _, _, _, _, _, _, _, _, (by rw [hK]; rfl), (by rw [hK]; kernel_rfl), fun vs h => ?_⟩
  obtain ⟨a, b, rfl⟩ := len2 h
  kernel_rfl

theorem fun20 : FunAt c (A0 20) ["box", "deep"] (bodyAt 20) (scopeAt 20) := by
  refine ⟨_, _, _, _, _, _, _, _, _, _, _, _, _, (by rw [hK]; rfl), (by rw [hK]; kernel_rfl), fun vs h => ?_⟩
  obtain ⟨a, b, rfl⟩ := len2 h
  kernel_rfl

theorem fun21 : FunAt c (A0 21) ["tree", "notes"] (bodyAt 21) (scopeAt 21) := by
  refine ⟨_, _, _, _, _, _, _, _, _, _, _, _, _, (by rw [hK]; rfl), (by rw [hK]; kernel_rfl), fun vs h => ?_⟩
  obtain ⟨a, b, rfl⟩ := len2 h
  kernel_rfl

theorem fun22 : FunAt c (A0 22) ["trees", "notes"] (bodyAt 22) (scopeAt 22) := by
  refine ⟨_, _, _, _, _, _, _, _, _, _, _, _, _, (by rw [hK]; rfl), (by rw [hK]; kernel_rfl), fun vs h => ?_⟩
  obtain ⟨a, b, rfl⟩ := len2 h
  kernel_rfl

theorem fun23 : FunAt c (A0 23) ["tree", "notes", "as_name"] (bodyAt 23) (scopeAt 23) := by
  refine ⟨_, _, _, _, _, _, _, _, _, _, _, _, _, (by rw [hK]; rfl), (by rw [hK]; kernel_rfl), fun vs h => ?_⟩
  obtain ⟨a, b, d, rfl⟩ := len3 h
  kernel_rfl

theorem fun24 : FunAt c (A0 24) ["stack", "many"] (bodyAt 24) (scopeAt 24) := by
  refine ⟨_, _, _, _, _, _, _, _, _, _, _, _, _, (by rw [hK]; rfl), (by rw [hK]; kernel_rfl), fun vs h => ?_⟩
  obtain ⟨a, b, rfl⟩ := len2 h
  kernel_rfl

theorem fun25 : FunAt c (A0 25) ["order", "stack", "notes"] (bodyAt 25) (scopeAt 25) := by
  refine ⟨_, _, _, _, _, _, _, _, _, _, _, _, _, (by rw [hK]; rfl), (by rw [hK]; kernel_rfl), fun vs h => ?_⟩
  obtain ⟨a, b, d, rfl⟩ := len3 h
  kernel_rfl

theorem fun26 : FunAt c (A0 26) ["orders", "notes"] (bodyAt 26) (scopeAt 26) := by
  refine ⟨_, _, _, _, _, _, _, _, _, _, _, _, _, (by rw [hK]; rfl), (by rw [hK]; kernel_rfl), fun vs h => ?_⟩
  obtain ⟨a, b, rfl⟩ := len2 h
  kernel_rfl

theorem fun27 : FunAt c (A0 27) ["box", "form"] (bodyAt 27) (scopeAt 27) := by
  refine ⟨_, _, _, _, _, _, _, _, _, _, _, _, _, (by rw [hK]; rfl), (by rw [hK]; kernel_rfl), fun vs h => ?_⟩
  obtain ⟨a, b, rfl⟩ := len2 h
  kernel_rfl

theorem fun28 : FunAt c (A0 28) ["statement", "notes"] (bodyAt 28) (scopeAt 28) := by
  refine ⟨_, _, _, _, _, _, _, _, _, _, _, _, _, (by rw [hK]; rfl), (by rw [hK]; kernel_rfl), fun vs h => ?_⟩
  obtain ⟨a, b, rfl⟩ := len2 h
  kernel_rfl

theorem fun29 : FunAt c (A0 29) ["statement"] (bodyAt 29) (scopeAt 29) := by
  refine ⟨_, _, _, _, _, _, _, _, _, _, _, _, _, (by rw [hK]; rfl), (by rw [hK]; kernel_rfl), fun vs h => ?_⟩
  obtain ⟨a, rfl⟩ := len1 h
  kernel_rfl

theorem fun103 : FunAt c (A0 103) ["self", "label", "body", "success", "failure", "line"] (bodyI 3) (scopeI 3) := by
  refine ⟨_, _, _, _, _, _, _, _, _, _, _, _, _, (by rw [hK]; rfl), (by rw [hK]; kernel_rfl), fun vs h => ?_⟩
  obtain ⟨a, b, d, e, f, g, rfl⟩ := len6 h
  kernel_rfl

theorem fun115 : FunAt c (A0 115) ["self", "line", "text"] (bodyI 15) (scopeI 15) := by
  refine ⟨_, _, _, _, _, _, _, _, _, _, _, _, _, (by rw [hK]; rfl), (by rw [hK]; kernel_rfl), fun vs h => ?_⟩
  obtain ⟨a, b, d, rfl⟩ := len3 h
  kernel_rfl

theorem clsF {C : Addr} {x : Str} (h1 : plainGet (K0 P) C x = true) (h2 : hasDictIn (K0 P) C = true) (h3 : findIn (K0 P) (.ref C) x = some none) (h4 : findIn (K0 P) (.ref C) "__setattr__" = some (some (.builtin "object.__setattr__"))) (h5 : plainOver (K0 P) C = true) (h6 : takerIn (K0 P) C x = some none) : ClsF c.K C x :=
  ⟨by rw [hK]; exact h1, by rw [hK]; exact h2, by rw [hK]; exact h3, by rw [hK]; exact h4, by rw [hK]; exact h5, by rw [hK]; exact h6⟩
theorem cf15_label : ClsF c.K (A0 15) "label" := clsF c P hK (by kernel_rfl) (by kernel_rfl) (by kernel_rfl) (by kernel_rfl) (by kernel_rfl) (by kernel_rfl)
theorem cf15_subject : ClsF c.K (A0 15) "subject" := clsF c P hK (by kernel_rfl) (by kernel_rfl) (by kernel_rfl) (by kernel_rfl) (by kernel_rfl) (by kernel_rfl)
theorem cf15_pattern : ClsF c.K (A0 15) "pattern" := clsF c P hK (by kernel_rfl) (by kernel_rfl) (by kernel_rfl) (by kernel_rfl) (by kernel_rfl) (by kernel_rfl)
theorem cf15_is_replaced : ClsF c.K (A0 15) "is_replaced" := clsF c P hK (by kernel_rfl) (by kernel_rfl) (by kernel_rfl) (by kernel_rfl) (by kernel_rfl) (by kernel_rfl)
theorem cf15_replacement : ClsF c.K (A0 15) "replacement" := clsF c P hK (by kernel_rfl) (by kernel_rfl) (by kernel_rfl) (by kernel_rfl) (by kernel_rfl) (by kernel_rfl)
theorem cf15_go_success : ClsF c.K (A0 15) "go_success" := clsF c P hK (by kernel_rfl) (by kernel_rfl) (by kernel_rfl) (by kernel_rfl) (by kernel_rfl) (by kernel_rfl)
theorem cf15_go_failure : ClsF c.K (A0 15) "go_failure" := clsF c P hK (by kernel_rfl) (by kernel_rfl) (by kernel_rfl) (by kernel_rfl) (by kernel_rfl) (by kernel_rfl)
theorem cf15_go_always : ClsF c.K (A0 15) "go_always" := clsF c P hK (by kernel_rfl) (by kernel_rfl) (by kernel_rfl) (by kernel_rfl) (by kernel_rfl) (by kernel_rfl)
theorem cf15_line : ClsF c.K (A0 15) "line" := clsF c P hK (by kernel_rfl) (by kernel_rfl) (by kernel_rfl) (by kernel_rfl) (by kernel_rfl) (by kernel_rfl)
theorem cf15_text : ClsF c.K (A0 15) "text" := clsF c P hK (by kernel_rfl) (by kernel_rfl) (by kernel_rfl) (by kernel_rfl) (by kernel_rfl) (by kernel_rfl)
theorem ca15 : ∀ x ∈ (["label", "subject", "pattern", "is_replaced", "replacement", "go_success", "go_failure", "go_always", "line", "text"] : List Str), ClsF c.K (A0 15) x := by
  intro x hx
  rcases List.mem_cons.mp hx with rfl | hx
  · exact cf15_label c P hK
  rcases List.mem_cons.mp hx with rfl | hx
  · exact cf15_subject c P hK
  rcases List.mem_cons.mp hx with rfl | hx
  · exact cf15_pattern c P hK
  rcases List.mem_cons.mp hx with rfl | hx
  · exact cf15_is_replaced c P hK
  rcases List.mem_cons.mp hx with rfl | hx
  · exact cf15_replacement c P hK
  rcases List.mem_cons.mp hx with rfl | hx
  · exact cf15_go_success c P hK
  rcases List.mem_cons.mp hx with rfl | hx
  · exact cf15_go_failure c P hK
  rcases List.mem_cons.mp hx with rfl | hx
  · exact cf15_go_always c P hK
  rcases List.mem_cons.mp hx with rfl | hx
  · exact cf15_line c P hK
  rcases List.mem_cons.mp hx with rfl | hx
  · exact cf15_text c P hK
  cases hx
theorem cf3_label : ClsF c.K (A0 3) "label" := clsF c P hK (by kernel_rfl) (by kernel_rfl) (by kernel_rfl) (by kernel_rfl) (by kernel_rfl) (by kernel_rfl)
theorem cf3_body : ClsF c.K (A0 3) "body" := clsF c P hK (by kernel_rfl) (by kernel_rfl) (by kernel_rfl) (by kernel_rfl) (by kernel_rfl) (by kernel_rfl)
theorem cf3_success : ClsF c.K (A0 3) "success" := clsF c P hK (by kernel_rfl) (by kernel_rfl) (by kernel_rfl) (by kernel_rfl) (by kernel_rfl) (by kernel_rfl)
theorem cf3_failure : ClsF c.K (A0 3) "failure" := clsF c P hK (by kernel_rfl) (by kernel_rfl) (by kernel_rfl) (by kernel_rfl) (by kernel_rfl) (by kernel_rfl)
theorem cf3_line : ClsF c.K (A0 3) "line" := clsF c P hK (by kernel_rfl) (by kernel_rfl) (by kernel_rfl) (by kernel_rfl) (by kernel_rfl) (by kernel_rfl)
theorem ca3 : ∀ x ∈ (["label", "body", "success", "failure", "line"] : List Str), ClsF c.K (A0 3) x := by
  intro x hx
  rcases List.mem_cons.mp hx with rfl | hx
  · exact cf3_label c P hK
  rcases List.mem_cons.mp hx with rfl | hx
  · exact cf3_body c P hK
  rcases List.mem_cons.mp hx with rfl | hx
  · exact cf3_success c P hK
  rcases List.mem_cons.mp hx with rfl | hx
  · exact cf3_failure c P hK
  rcases List.mem_cons.mp hx with rfl | hx
  · exact cf3_line c P hK
  cases hx
theorem facts0 : Facts c A0 where
  f4 := ⟨fun4 c P hK, by rw [hK]; kernel_rfl, by rw [hK]; kernel_rfl⟩
  f5 := ⟨fun5 c P hK, by rw [hK]; kernel_rfl, by rw [hK]; kernel_rfl⟩
  f6 := ⟨fun6 c P hK, by rw [hK]; kernel_rfl, by rw [hK]; kernel_rfl⟩
  f7 := ⟨fun7 c P hK, by rw [hK]; kernel_rfl, by rw [hK]; kernel_rfl⟩
  f8 := ⟨fun8 c P hK, by rw [hK]; kernel_rfl, by rw [hK]; kernel_rfl⟩
  f9 := ⟨fun9 c P hK, by rw [hK]; kernel_rfl, by rw [hK]; kernel_rfl⟩
  f10 := ⟨fun10 c P hK, by rw [hK]; kernel_rfl, by rw [hK]; kernel_rfl⟩
  f11 := ⟨fun11 c P hK, by rw [hK]; kernel_rfl, by rw [hK]; kernel_rfl⟩
  f12 := ⟨fun12 c P hK, by rw [hK]; kernel_rfl, by rw [hK]; kernel_rfl⟩
  f13 := ⟨fun13 c P hK, by rw [hK]; kernel_rfl, by rw [hK]; kernel_rfl⟩
  f17 := ⟨fun17 c P hK, by rw [hK]; kernel_rfl, by rw [hK]; kernel_rfl⟩
  f18 := ⟨fun18 c P hK, by rw [hK]; kernel_rfl, by rw [hK]; kernel_rfl⟩
  f19 := ⟨fun19 c P hK, by rw [hK]; kernel_rfl, by rw [hK]; kernel_rfl⟩
  f20 := ⟨fun20 c P hK, by rw [hK]; kernel_rfl, by rw [hK]; kernel_rfl⟩
  f21 := ⟨fun21 c P hK, by rw [hK]; kernel_rfl, by rw [hK]; kernel_rfl⟩
  f22 := ⟨fun22 c P hK, by rw [hK]; kernel_rfl, by rw [hK]; kernel_rfl⟩
  f23 := ⟨fun23 c P hK, by rw [hK]; kernel_rfl, by rw [hK]; kernel_rfl⟩
  f24 := ⟨fun24 c P hK, by rw [hK]; kernel_rfl, by rw [hK]; kernel_rfl⟩
  f25 := ⟨fun25 c P hK, by rw [hK]; kernel_rfl, by rw [hK]; kernel_rfl⟩
  f26 := ⟨fun26 c P hK, by rw [hK]; kernel_rfl, by rw [hK]; kernel_rfl⟩
  f27 := ⟨fun27 c P hK, by rw [hK]; kernel_rfl, by rw [hK]; kernel_rfl⟩
  f28 := ⟨fun28 c P hK, by rw [hK]; kernel_rfl, by rw [hK]; kernel_rfl⟩
  f29 := ⟨fun29 c P hK, by rw [hK]; kernel_rfl, by rw [hK]; kernel_rfl⟩
  k15 := ⟨by rw [hK]; kernel_rfl, by rw [hK]; kernel_rfl, by rw [hK]; kernel_rfl⟩
  i15 := fun115 c P hK
  n15 := by rw [hK]; kernel_rfl
  p15 := by rw [hK]; kernel_rfl
  a15 := ca15 c P hK
  k3 := ⟨by rw [hK]; kernel_rfl, by rw [hK]; kernel_rfl, by rw [hK]; kernel_rfl⟩
  i3 := fun103 c P hK
  n3 := by rw [hK]; kernel_rfl
  p3 := by rw [hK]; kernel_rfl
  a3 := ca3 c P hK
  blen := by rw [hK]; kernel_rfl
  brepr := by rw [hK]; kernel_rfl
  bmax := by rw [hK]; kernel_rfl
  babs := by rw [hK]; kernel_rfl
  brange := by rw [hK]; kernel_rfl
  btuple := by rw [hK]; kernel_rfl
  blist := by rw [hK]; kernel_rfl
  bstr := by rw [hK]; kernel_rfl
  bint := by rw [hK]; kernel_rfl
end

noncomputable def Store.cut (σ : Store) (a b : Addr) : Store := fun x => if x = a ∨ x = b then none else σ x
theorem Store.cut_some {σ : Store} {a b x : Addr} {c : Cell} (h : σ.cut a b x = some c) : x ≠ a ∧ x ≠ b ∧ σ x = some c := by
  unfold Store.cut at h
  by_cases e : x = a ∨ x = b
  · rw [if_pos e] at h; cases h
  · rw [if_neg e] at h; exact ⟨fun q => e (.inl q), fun q => e (.inr q), h⟩
theorem Store.cut_ne {σ : Store} {a b x : Addr} (h1 : x ≠ a) (h2 : x ≠ b) : σ.cut a b x = σ x := by
  unfold Store.cut
  exact if_neg (fun q => q.elim h1 h2)
/-- an argument within a comprehension's block -/
noncomputable def CompArg (c : Cx) (d : Nat) (cs : Scope) (scope : Scope) (fn : List Str) (x : Str) (xv : Val) (e : Expr) (ρ : LEnv) (v : Val) : Prop :=
  ∀ (f : Fm) m N (s : Shared) cl C oC m₂ xr QC, Fm.Ok f c d cs → Fr f.h₀ f.L s.heap m → News f.h₀ f.L s.heap N → LRel f m N ρ → (C, oC) ∈ N → LCg.NsObj oC m₂ → m₂ x = some xr → VRel N xr xv → (∀ y ∈ fn, cl.lookup y = f.cl.lookup y) →
    (∀ r tk, VRel N r v → QC r { s with toks := tk }) → wpAny (model c.prog c.w) f.around (eval e (compEnvC scope cl C f.env)) QC noE s
section
variable {c : Cx} {d : Nat} {cs scope : Scope} {fn : List Str} {x : Str} {xv : Val}
variable {ρ : LEnv} {σ : Store} {Q : Val → Store → Prop}
theorem CA_free {y : Str} {p : Pos} {v : Val} (hv : ρ.lookup y = some v) (hy : y ∈ fn) (hcs : cs.names.lookup y = some .cell) (hk : ∀ f : Fm, f.cs = cs → ∀ cl C, (compEnvC scope cl C f.env).kindOf y = some .cell := by intro f h cl C; cases f; cases h; rfl)
    (hf : ∀ f : Fm, f.cs = cs → ∀ cl C, (compEnvC scope cl C f.env).scope.kind = .function := by intro f h cl C; cases f; cases h; rfl) (hd : (y == ("__debug__" : Str)) = false := by decide) : CompArg c d cs scope fn x xv (.Name y p) ρ v := by
  intro f m N s cl C oC m₂ xr QC ok F nw R hC ho hx V hcl k
  cases R y v hv with
  | loc a _ _ => rw [ok.hcs, hcs] at a; cases a
  | @cell ca o r a b hm st hd' V' =>
    refine wpAny_Name (wpAny_loadName_cell (hf f ok.hcs cl C) (hk f ok.hcs cl C) (c := ca) ?_ ⟨o, (nw _ hm).1, hd'⟩ (k r s.toks V')) hd
    show cl.lookup y = some ca
    rw [hcl y hy]; exact b
theorem CA_var {p : Pos} (hk : ∀ f : Fm, f.cs = cs → ∀ cl C, (compEnvC scope cl C f.env).kindOf x = some .local := by intro f h cl C; cases f; cases h; rfl)
    (hf : ∀ f : Fm, f.cs = cs → ∀ cl C, (compEnvC scope cl C f.env).scope.kind = .function := by intro f h cl C; cases f; cases h; rfl) (hd : (x == ("__debug__" : Str)) = false := by decide) : CompArg c d cs scope fn x xv (.Name x p) ρ xv := by
  intro f m N s cl C oC m₂ xr QC ok F nw R hC ho hx V hcl k
  exact wpAny_Name (wpAny_loadName_local (hf f ok.hcs cl C) (hk f ok.hcs cl C) (ho.ns (nw _ hC).1) hx (k xr s.toks V)) hd
theorem CA_sub {e : Expr} {p kp : Pos} {k : Nat} {a b : Int} (h : CompArg c d cs scope fn x xv e ρ (.int a)) : CompArg c d cs scope fn x xv (.BinOp e .Sub (.Constant (.int b) k kp) p) ρ (.int (a - b)) := by
  intro f m N s cl C oC m₂ xr QC ok F nw R hC ho hx V hcl k
  refine wpAny_BinOp (h f m N s cl C oC m₂ xr _ ok F nw R hC ho hx V hcl fun r tk V₁ => ?_)
  refine wpAny_Constant_int ?_
  cases V₁ with | int => exact sub_int (k _ _ (.int _ _))

/-- a comprehension's element, at a turn -/
noncomputable def CElt (c : Cx) (d : Nat) (cs : Scope) (scope : Scope) (fn : List Str) (x : Str) (xv : Val) (e : Expr) (ρ : LEnv) (σ : Store) (Q : Val → Store → Prop) : Prop :=
  ∀ (f : Fm) m N (s : Shared) cl C oC m₂ xr QC, Fm.Ok f c d cs → Inv f m N s.heap σ → LRel f m N ρ → (C, oC) ∈ N → LCg.NsObj oC m₂ → m₂ x = some xr → VRel N xr xv → (∀ y ∈ fn, cl.lookup y = f.cl.lookup y) →
    Then f m N s Q QC → wpAny (model c.prog c.w) f.around (eval e (compEnvC scope cl C f.env)) QC noE s
theorem CElt_call {fname : Str} {np cp : Pos} {e₁ e₂ : Expr} {fa : Addr} {v₁ v₂ : Val} (eg : nsIn c.K mainGlobals fname = some (some (.ref fa))) (hkp : keepIn c.K (.ref fa) = true)
    (a₁ : CompArg c d cs scope fn x xv e₁ ρ v₁) (a₂ : CompArg c d cs scope fn x xv e₂ ρ v₂) (h : WC c d fa [v₁, v₂] σ Q)
    (hg : ∀ f : Fm, f.cs = cs → ∀ cl C, (compEnvC scope cl C f.env).kindOf fname = some .globalImplicit := by intro f h cl C; cases f; cases h; rfl)
    (hf : ∀ f : Fm, f.cs = cs → ∀ cl C, (compEnvC scope cl C f.env).scope.kind = .function := by intro f h cl C; cases f; cases h; rfl) (hd : (fname == ("__debug__" : Str)) = false := by decide)
    (hc : ∀ env, eval (.Call (.Name fname np) [e₁, e₂] [] cp) env = (do callWith cp (← eval (.Name fname np) env) [] (backTo cp (starEach [e₁, e₂] env)) (backToKw cp (keywordEach [] env))) := by intro _; rfl)
    (he1 : ∀ env, starEach [e₁, e₂] env = (false, eval e₁ env) :: starEach [e₂] env := by intro _; rfl) (he2 : ∀ env, starEach [e₂] env = (false, eval e₂ env) :: starEach [] env := by intro _; rfl)
    (hp : ∀ env, (backTo cp (starEach [e₂] env)).any (·.1) = false := by intro _; rfl) : CElt c d cs scope fn x xv (.Call (.Name fname np) [e₁, e₂] [] cp) ρ σ Q := by
  intro f m N s cl C oC m₂ xr QC ok I R hC ho hx V hcl k
  refine Call_ (Name_function_global (hf f ok.hcs cl C) (hg f ok.hcs cl C) (loadGlobal_global (env := compEnvC scope cl C f.env) (show s.heap.Ns mainGlobals c.mg from ((topRead_of ok.T).g.keeps I.fr.keep)) (mg_of ok.X (topRead_of ok.T).g eg) ?_) hd) (hc _)
  refine callWith_K ok.X hkp (spliced_more ?_ (he1 _)) (he1 _) (hp _)
  refine a₁ f m _ s cl C oC m₂ _ _ ok I.fr I.nw R hC ho hx V hcl fun r₁ tk₁ V₁ => ?_
  refine spliced_more ?_ (he2 _)
  refine a₂ f m _ { s with toks := tk₁ } cl C oC m₂ _ _ ok I.fr I.nw R hC ho hx V hcl fun r₂ tk₂ V₂ => ?_
  refine spliced_none ⟨ok.X.keeps I.fr.keep, ?_⟩
  exact h cs f m N { s with toks := tk₂ } _ _ ok I (.cons V₁ (.cons V₂ .nil)) (k.at (Ext.refl N))

theorem st_raw {f : Fm} {m : Str → Option Value} {N : Led} {h h' : Heap} {σ : Store} {a : Addr} {o o' : Obj} (I : Inv f m N h σ) (hc : σ a = some (.raw o)) (ho : ¬ Stab o) (hs : Heap.SameBut a h h') (hg : h'.get? a = some o') (hu : ∀ vs, o'.data ≠ .fields vs) :
    ∃ N', Ext N N' ∧ (a, o') ∈ N' ∧ Inv f m N' h' (σ.set a (.raw o')) := by
  obtain ⟨hm, hu₀⟩ := I.st.cell a _ hc
  obtain ⟨F', N'⟩ := led_upd I.fr I.nw hm hs hg
  have X := ext_upd (o' := o') I.nw hm ho
  have g : ∀ z C dx fs, σ.set a (.raw o') z = some (.inst C dx fs) → σ z = some (.inst C dx fs) := fun z C dx fs q => by
    by_cases hz : z = a
    · subst hz; rw [Store.set_same] at q; cases q
    · rwa [Store.set_ne hz] at q
  refine ⟨_, X, List.mem_cons_self, F', N', ⟨fun b cc e => ?_, fun b b' C C' dx fs fs' e e' => I.st.inj _ _ _ _ _ _ _ (g _ _ _ _ e) (g _ _ _ _ e'), fun b C dx fs o₂ e e' => ?_⟩⟩
  · by_cases hb : b = a
    · subst hb; rw [Store.set_same] at e; cases e
      exact ⟨List.mem_cons_self, hu⟩
    · rw [Store.set_ne hb] at e
      cases cc with
      | list us o₂ =>
        obtain ⟨arr₂, n₂, ho₂, hm₂, hr₂⟩ := I.st.cell b _ e
        exact ⟨arr₂, n₂, ho₂, List.mem_cons_of_mem _ (List.mem_filter.mpr ⟨hm₂, by simpa using hb⟩), hr₂.ext X⟩
      | inst C dx fs =>
        obtain ⟨es, n₂, h1, h2, hr₂⟩ := I.st.cell b _ e
        refine ⟨es, n₂, List.mem_cons_of_mem _ (List.mem_filter.mpr ⟨h1, by simpa using hb⟩), List.mem_cons_of_mem _ (List.mem_filter.mpr ⟨h2, ?_⟩), hr₂.ext X⟩
        have : dx ≠ a := fun q => I.st.off _ _ _ _ _ e (q ▸ hc)
        simpa using this
      | raw o₂ => exact ⟨List.mem_cons_of_mem _ (List.mem_filter.mpr ⟨(I.st.cell b _ e).1, by simpa using hb⟩), (I.st.cell b _ e).2⟩
  · have e₀ := g _ _ _ _ e
    by_cases hz : dx = a
    · exact I.st.off _ _ _ _ _ e₀ (hz ▸ hc)
    · rw [Store.set_ne hz] at e'
      exact I.st.off _ _ _ _ _ e₀ e'
theorem lst_eq (ys : List Value) : LCg.lst ys = W.listOf ys.toArray ys.length := rfl
/-- a new raw object on the ledger -/
theorem st_rawNew {f : Fm} {m : Str → Option Value} {N : Led} {h h' : Heap} {σ : Store} {a : Addr} {o : Obj} (I : Inv f m N h σ) (ha : h.objs.size ≤ a) (F : Fr f.h₀ f.L h' m) (N' : News f.h₀ f.L h' ((a, o) :: N)) (hu : ∀ vs, o.data ≠ .fields vs) :
    σ a = none ∧ Ext N ((a, o) :: N) ∧ Inv f m ((a, o) :: N) h' (σ.set a (.raw o)) := by
  have h0 := I.fresh a ha
  have sub : ∀ p ∈ N, p ∈ (a, o) :: N := fun p hp => List.mem_cons_of_mem _ hp
  have S := I.st.sup sub
  have g : ∀ z C dx fs, σ.set a (.raw o) z = some (.inst C dx fs) → σ z = some (.inst C dx fs) := fun z C dx fs q => by
    by_cases hz : z = a
    · subst hz; rw [Store.set_same] at q; cases q
    · rwa [Store.set_ne hz] at q
  refine ⟨h0, Ext.of_sub sub, F, N', ⟨fun b c e => ?_, fun b b' C C' dx fs fs' e e' => I.st.inj _ _ _ _ _ _ _ (g _ _ _ _ e) (g _ _ _ _ e'), fun b C dx fs o₂ e e' => ?_⟩⟩
  · by_cases hb : b = a
    · subst hb; rw [Store.set_same] at e; cases e
      exact ⟨List.mem_cons_self, hu⟩
    · rw [Store.set_ne hb] at e; exact S.cell b c e
  · have e₀ := g _ _ _ _ e
    obtain ⟨es, n', h1, h2, hr⟩ := I.st.cell b _ e₀
    have : dx ≠ a := fun q => by
      have := I.lt h2
      rw [q] at this
      exact absurd (Nat.lt_of_lt_of_le this ha) (Nat.lt_irrefl _)
    rw [Store.set_ne this] at e'
    exact I.st.off _ _ _ _ _ e₀ e'
end
section
variable {c : Cx} {d : Nat} {cs scope : Scope} {fn : List Str} {x : Str}
variable {ρ : LEnv} {σ : Store} {Q : Val → Store → Prop}
/-- the iterator goes on: what is known of it alone turns -/
theorem st_drop {f : Fm} {m : Str → Option Value} {N : Led} {h h' : Heap} {σ : Store} {I : Addr} {o : Obj} {vs : Array Value} (V : Inv f m N h σ) (hm : (I, o) ∈ N) (hd : o.data = .fields vs) (hk : ∀ b q, b ∉ [I] → h.get? b = some q → h'.get? b = some q) :
    USub N (N.filter (fun p => decide (p.1 ≠ I))) ∧ Inv f m (N.filter (fun p => decide (p.1 ≠ I))) h' σ := by
  obtain ⟨g1, g2, g3⟩ := V.nw _ hm
  have us : USub N (N.filter (fun p => decide (p.1 ≠ I))) := fun p hp hu => by
    refine List.mem_filter.mpr ⟨hp, ?_⟩
    have : p.1 ≠ I := fun e => by
      have h1 := (V.nw _ hp).1
      rw [e, g1] at h1
      exact hu vs ((Option.some.inj h1) ▸ hd)
    simpa using this
  refine ⟨us, ⟨V.fr.ns.at' fun oL e => hk _ _ (by simpa using Ne.symm g2) e, fun b oo e => hk b oo (fun q => by rw [List.mem_singleton.mp q, g3] at e; cases e) (V.fr.keep b oo e), V.fr.above⟩, fun p hp => ?_, V.st.us us⟩
  obtain ⟨hp1, hp2⟩ := List.mem_filter.mp hp
  exact ⟨hk _ _ (by simpa using hp2) (V.nw _ hp1).1, (V.nw _ hp1).2⟩
theorem st_iter {f : Fm} {m : Str → Option Value} {N : Led} {h h' : Heap} {σ : Store} {I : Addr} {o o' : Obj} {vs : Array Value} (V : Inv f m N h σ) (hm : (I, o) ∈ N) (hd : o.data = .fields vs) (hg : h'.get? I = some o') (hk : ∀ b q, b ∉ [I] → h.get? b = some q → h'.get? b = some q) :
    USub N ((I, o') :: N.filter (fun p => decide (p.1 ≠ I))) ∧ Inv f m ((I, o') :: N.filter (fun p => decide (p.1 ≠ I))) h' σ := by
  obtain ⟨us, V'⟩ := st_drop V hm hd hk
  refine ⟨fun p hp hu => List.mem_cons_of_mem _ (us p hp hu), V'.fr, fun p hp => ?_, V'.st.sup fun p hp => List.mem_cons_of_mem _ hp⟩
  rcases List.mem_cons.mp hp with rfl | hp
  · exact ⟨hg, (V.nw _ hm).2⟩
  · exact V'.nw _ hp
noncomputable def itObj (i n : Nat) : Obj := { cls := .type "range_iterator", dict := none, data := .fields #[rawInt (0 + (i : Nat) * 1), rawInt ((n : Int) - (i : Nat)), rawInt 1], slots := #[] }
theorem itObj_fields (i n : Nat) : (itObj i n).data = .fields #[rawInt (0 + (i : Nat) * 1), rawInt ((n : Int) - (i : Nat)), rawInt 1] := rfl
theorem nsObj_data {o : Obj} {m : Str → Option Value} (h : LCg.NsObj o m) : ¬ Stab o ∧ ∀ vs, o.data ≠ .fields vs := by
  obtain ⟨es, ep, hd, _⟩ := h
  exact ⟨fun s => s.2 ⟨_, _, hd⟩, fun vs q => by rw [hd] at q; cases q⟩
theorem cut_set1 {σ : Store} {C D : Addr} {c₁ : Cell} : ((σ.set C c₁).cut C D) = σ.cut C D := by
  funext x; unfold Store.cut Store.set; by_cases h : x = C <;> simp [h]
theorem cut_set2 {σ : Store} {C D : Addr} {c₂ : Cell} : ((σ.set D c₂).cut C D) = σ.cut C D := by
  funext x; unfold Store.cut Store.set; by_cases h : x = D <;> simp [h]

theorem comp_loop {elt iter : Expr} {xp pos : Pos} {n : Nat} {J : Nat → List Val → Store → Prop} {cl : List (Str × Addr)} {f : Fm} {s₀ : Shared} {I C D : Addr} {N₀ : Led} {m : Str → Option Value} {RR : Result → Shared → Prop}
    (ok : Fm.Ok f c d cs) (hkind : scope.kind = .function) (hx : scope.names.lookup x = some .local) (hsz : n ≤ sizeLine) (hCD : C ≠ D) (hcl : ∀ y ∈ fn, cl.lookup y = f.cl.lookup y)
    (hN₀ : ∀ p ∈ N₀, p.1 ≠ I)
    (turn : ∀ i vs σ₂ oC oD, i < n → J i vs (σ₂.cut C D) → σ₂ C = some (.raw oC) → σ₂ D = some (.list vs oD) → CElt c d cs scope fn x (.int (i : Nat)) elt ρ σ₂ (fun y σ₃ => σ₃ C = some (.raw oC) ∧ σ₃ D = some (.list vs oD) ∧ J (i + 1) (vs ++ [y]) (σ₃.cut C D)))
    (fin : ∀ h' tk vs N' σ' oC m' oD, Inv f m N' h' σ' → LCg.NsObj oC m' → σ' C = some (.raw oC) → σ' D = some (.list vs oD) → J n vs (σ'.cut C D) → Ext N₀ N' → RR (.ok .next) { s₀ with heap := h', toks := tk })
    {h₁ : Heap} {tk₁ : Nat} {N₁ : Led} {σ₁ : Store} {oC₁ : Obj} {m₁ : Str → Option Value} (V₁ : Inv f m N₁ h₁ σ₁) (hI₁ : (I, itObj 0 n) ∈ N₁) (hC₁ : σ₁ C = some (.raw oC₁)) (hO₁ : LCg.NsObj oC₁ m₁) (hD₁ : σ₁ D = some (.list [] (LCg.lst []))) (hJ₁ : J 0 [] (σ₁.cut C D)) (R₁ : LRel f m N₁ ρ) (X₁ : Ext N₀ N₁) :
    codeAny (model c.prog c.w) f.around (.compLoop (.ListComp elt [⟨.Name x xp, iter, [], 0⟩] scope pos) 0 (.ref I) (.ref D) (compEnvC scope cl C f.env)) RR { s₀ with heap := h₁, toks := tk₁ } := by
  refine codeAny_compLoop_tests (fun k s' => ∃ h' tk i vs ys N σ oC m', s' = { s₀ with heap := h', toks := tk } ∧ i ≤ n ∧ k = n + 1 - i ∧ ys.length = i ∧ Inv f m N h' σ ∧ (I, itObj i n) ∈ N ∧ σ C = some (.raw oC) ∧ LCg.NsObj oC m' ∧ σ D = some (.list vs (LCg.lst ys)) ∧ J i vs (σ.cut C D) ∧ LRel f m N ρ ∧ Ext N₀ N) ?_ (n + 1)
    ⟨h₁, tk₁, 0, [], [], N₁, σ₁, oC₁, m₁, rfl, Nat.zero_le _, rfl, rfl, V₁, hI₁, hC₁, hO₁, hD₁, hJ₁, R₁, X₁⟩
  rintro k s' ⟨h', tk, i, vs, ys, N, σ, oC, m', rfl, hi, rfl, hyl, V, hmI, hC, hO, hD, hJ, R, X⟩
  have hst : IsRangeIter h' I (0 + (i : Nat) * 1) ((n : Int) - (i : Nat)) 1 := (V.nw _ hmI).1
  by_cases hlt : i < n
  · refine (LCg.range_walks (A := f.around) rfl 0 n).item i _ _ _ hlt hst fun v h₂ tk₂ hPv hst₂ hk₂ => ?_
    obtain ⟨us, V₂⟩ := st_iter (o' := itObj (i + 1) n) V hmI (itObj_fields i n) hst₂ hk₂
    have hmC := (V₂.st.cell C _ hC).1
    refine wpAny_assign_Name (wpAny_storeName_local (m := m') (lookup_relabel_local hx) (hO.ns (V₂.nw _ hmC).1) (fun h₃ hn₃ hs₃ => ?_) (by simp [compEnvC, relabel, hkind]))
    obtain ⟨oC', heC, hoC'⟩ := LCg.ns_obj hn₃
    obtain ⟨N₃, X₃, hmC', V₃⟩ := st_raw V₂ hC (nsObj_data hO).1 hs₃ heC (nsObj_data hoC').2
    have XN : Ext N₀ ((I, itObj (i + 1) n) :: N.filter (fun p => decide (p.1 ≠ I))) := fun p hp hs => List.mem_cons_of_mem _ (List.mem_filter.mpr ⟨X p hp hs, by simpa using hN₀ p hp⟩)
    refine wpAny_tests_nil ?_
    simp only [if_true]
    have hDC : (σ.set C (.raw oC')) D = some (.list vs (LCg.lst ys)) := by rw [Store.set_ne (Ne.symm hCD)]; exact hD
    have Vv : VRel N₃ v (.int (i : Nat)) := by
      obtain ⟨t, rfl⟩ := hPv
      rw [Int.zero_add]; exact .int _ _
    refine wpAny_mono (turn i vs _ oC' _ hlt (by rw [cut_set1]; exact hJ) Store.set_same hDC f m N₃ _ cl C oC' _ v _ ok V₃ ((R.us us).ext X₃) hmC' hoC' (by simp) Vv hcl ?_) (fun _ _ q => q) (fun _ _ q => q.elim)
    rintro r u σ₄ h₄ N₄ tk₄ ⟨q1, q2, q3⟩ Vr X₄ V₄
    obtain ⟨arr, kk, ho, hmD, hrD⟩ := V₄.st.cell D _ q2
    obtain ⟨e1, e2⟩ : arr = ys ∧ kk = ys.length := by
      have := congrArg Obj.data ho
      simp only [LCg.lst, W.listOf, Data.seq.injEq] at this
      exact ⟨(by have := congrArg Array.toList this.1; simpa using this.symm), this.2.symm⟩
    subst e1; subst e2
    refine append_at (its := arr.toArray) (n := arr.length) (V₄.nw _ hmD).1 (fun h₅ hs₅ hD₅ => ?_) (by rw [List.size_toArray, hyl]; lia)
    have hD₅' : h₅.get? D = some (W.listOf (arr ++ [r]).toArray (arr.length + 1)) := by rw [hD₅]; simp [W.listOf]
    obtain ⟨N₅, X₅, V₅⟩ := st_list V₄ q2 hs₅ hD₅' (hrD.append (.cons Vr .nil))
    refine ⟨n + 1 - (i + 1), by lia, h₅, tk₄, i + 1, vs ++ [u], arr ++ [r], N₅, _, oC', _, rfl, hlt, rfl, by simp [hyl], V₅, ?_, ?_, hoC', ?_, ?_, ((R.us us).ext X₃).ext (X₄.trans X₅), ((XN.trans X₃).trans X₄).trans X₅⟩
    · exact X₅ _ (X₄ _ (X₃ _ List.mem_cons_self (stab_fields (itObj_fields _ _))) (stab_fields (itObj_fields _ _))) (stab_fields (itObj_fields _ _))
    · rw [Store.set_ne hCD]; exact q1
    · rw [Store.set_same, lst_eq]; simp
    · rw [cut_set2]; exact q3
  · obtain rfl : i = n := by lia
    refine (LCg.range_walks (A := f.around) rfl 0 i).done _ _ _ hst fun h₂ tk₂ hk₂ => ?_
    obtain ⟨us, V₂⟩ := st_drop V hmI (itObj_fields i i) hk₂
    exact fin h₂ tk₂ vs _ σ oC m' _ V₂ hO hC hD hJ fun p hp hs => List.mem_filter.mpr ⟨X p hp hs, by simpa using hN₀ p hp⟩

theorem WE_comp {elt a : Expr} {rn : Str} {xp np cp pos : Pos} {Q : Val → Store → Prop} (e : nsIn c.K mainGlobals rn = some none)
    (h : WE c d cs a ρ σ (fun v σ₁ => ∃ n : Nat, v = .int n ∧ n ≤ sizeLine ∧ ∃ J : Nat → List Val → Store → Prop, J 0 [] σ₁ ∧
      (∀ i vs σ₂ C D oC oD, i < n → C ≠ D → J i vs (σ₂.cut C D) → σ₂ C = some (.raw oC) → σ₂ D = some (.list vs oD) → CElt c d cs scope fn x (.int (i : Nat)) elt ρ σ₂ (fun y σ₃ => σ₃ C = some (.raw oC) ∧ σ₃ D = some (.list vs oD) ∧ J (i + 1) (vs ++ [y]) (σ₃.cut C D))) ∧
      (∀ vs σ₂ l o, J n vs σ₂ → σ₂ l = none → Q (.ref l) (σ₂.set l (.list vs o)))))
    (hclos : ∀ f : Fm, f.cs = cs → (∀ y ∈ fn, ∃ a, f.cl.lookup y = some a) → ∃ cl, closureFor scope f.env = pure cl ∧ ∀ y ∈ fn, cl.lookup y = f.cl.lookup y)
    (hfn : ∀ y ∈ fn, cs.names.lookup y = some .cell ∧ ∃ v, ρ.lookup y = some v)
    (hcell : ∀ y ∈ scope.names, y.2 ≠ .cell) (hkind : scope.kind = .function) (hnames : ∀ y ∈ scope.names, y.2 = .local → scope.names.lookup y.1 = some .local) (hx : scope.names.lookup x = some .local)
    (hrn : rn = "range" := by rfl) (hr : cs.names.lookup rn = some .globalImplicit := by rfl)
    (hs : ∀ f : Fm, f.cs = cs → ∀ v, foldedSetIterable (.Call (.Name rn np) [a] [] cp) f.env v = pure v := by intro f h; cases f; cases h; intro _; rfl)
    (hc : ∀ env, eval (.Call (.Name rn np) [a] [] cp) env = (do callWith cp (← eval (.Name rn np) env) [] (backTo cp (starEach [a] env)) (backToKw cp (keywordEach [] env))) := by intro _; rfl)
    (he : ∀ env, starEach [a] env = (false, eval a env) :: starEach [] env := by intro _; rfl) : WE c d cs (.ListComp elt [⟨.Name x xp, .Call (.Name rn np) [a] [] cp, [], 0⟩] scope pos) ρ σ Q := by
  intro f m N s QC ok I R k
  subst hrn
  have hfcl : ∀ y ∈ fn, ∃ a, f.cl.lookup y = some a := fun y hy => by
    obtain ⟨h1, v, hv⟩ := hfn y hy
    cases R y v hv with
    | loc a _ _ => rw [ok.hcs, h1] at a; cases a
    | cell a b _ _ _ _ => exact ⟨_, b⟩
  obtain ⟨cl, hcl, hcll⟩ := hclos f ok.hcs hfcl
  rw [eval_ListComp]
  refine wpAny_comprehension_free (use := none) rfl (hs f ok.hcs) hcl hkind hnames ?_
  refine Call_ (WE_builtin (r := .type "range") e (by boot_fast) (by decide) hr (by decide) ok I ?_) (hc _)
  refine callWith_type1 (spliced_more (h f m N s _ ok I R ?_) (he _)) (he _) rfl
  rintro r v σ₁ h₁ N₁ tk₁ ⟨n, rfl, hn, J, hJ0, turn, done⟩ V X₁ I₁
  refine spliced_none ?_
  cases V with | int =>
  refine range1_rows (s := { s with heap := h₁, toks := tk₁ }) I₁.fr I₁.nw (fun h₂ tk₂ t₁ u₁ v₁ hr F₂ nw₂ _ => ?_)
  have I₂ : Inv f m N₁ h₂ σ₁ := ⟨F₂, nw₂, I₁.st⟩
  have hsm : Builtin.Range.small 0 (n : Int) 1 = true := PySem.small_one (by decide) (by decide) (by lia) (by have : sizeLine = 16777216 := rfl; lia)
  refine wpAny_pyIter_range hr hsm ?_
  have hrs : Builtin.Range.rangeSize 0 (n : Int) 1 = (n : Int) := by rw [rangeSize_nat]; simp
  rw [hrs]
  generalize hI : h₂.objs.size = I
  have hN₁I : ∀ p ∈ N₁, p.1 ≠ I := fun p hp => hI ▸ Nat.ne_of_lt (I₂.lt hp)
  have nwI := News.push I₂.fr I₂.nw (itObj 0 n)
  rw [hI] at nwI
  have I₃ : Inv f m ((I, itObj 0 n) :: N₁) (h₂.push (itObj 0 n)) σ₁ := ⟨I₂.fr.push _, nwI, I₂.st.sup fun p hp => List.mem_cons_of_mem _ hp⟩
  have eI : ({ cls := .type "range_iterator", dict := none, data := .fields #[rawInt 0, rawInt (n : Int), rawInt 1], slots := #[] } : Obj) = itObj 0 n := by unfold itObj; simp
  rw [eI]
  refine newList_N (s := { s with heap := h₂.push (itObj 0 n), toks := tk₂ }) I₃.fr I₃.nw (fun h₄ F₄ nw₄ => ?_) (by decide)
  generalize hD : (h₂.push (itObj 0 n)).objs.size = D at nw₄ ⊢
  obtain ⟨hD0, X₄, I₄⟩ := st_new (vs := []) (arr := []) (n := 0) I₃ (by rw [hD]; exact Nat.le_refl _) F₄ nw₄ .nil
  refine wpAny_newFunctionEnv hcell (by intro y hy; simp at hy) (fun h₅ hns₅ hsb₅ => ?_) hkind
  dsimp only at hns₅ hsb₅ ⊢
  generalize hC : h₄.objs.size = C at hns₅ hsb₅ ⊢
  have old : ∀ b o, h₄.get? b = some o → h₅.get? b = some o := fun b o e => hsb₅.extBut b o (Nat.ne_of_lt (hC ▸ Heap.lt_size e)) (Heap.get?_push_of_some _ e)
  obtain ⟨oC, heC, hoC⟩ := LCg.ns_obj hns₅
  have F₅ := I₄.fr.keeps old
  have hDC : D < C := by
    have := (I₄.nw (D, W.listOf ([] : List Value).toArray 0) List.mem_cons_self).1
    have := Heap.lt_size this
    rw [hC] at this
    exact this
  have nw₅ : News f.h₀ f.L h₅ ((C, oC) :: (D, W.listOf ([] : List Value).toArray 0) :: (I, itObj 0 n) :: N₁) := fun p hp => by
    rcases List.mem_cons.mp hp with rfl | hp
    · refine ⟨heC, fun q => ?_, ?_⟩
      · have := fr_lt I₄.fr
        rw [hC] at this
        exact absurd (show C = f.L from q) (Nat.ne_of_gt this)
      · have := h0_none I₄
        rwa [hC] at this
    · exact ⟨old _ _ (I₄.nw p hp).1, (I₄.nw p hp).2⟩
  have I₄' : Inv f m ((D, W.listOf ([] : List Value).toArray 0) :: (I, itObj 0 n) :: N₁) h₄ (σ₁.set D (.list [] (W.listOf ([] : List Value).toArray 0))) := I₄
  obtain ⟨hC0, X₅, I₅⟩ := st_rawNew I₄' (by rw [hC]; exact Nat.le_refl _) F₅ nw₅ (nsObj_data hoC).2
  have hC1 : σ₁ C = none := by
    have : (σ₁.set D (.list [] (W.listOf ([] : List Value).toArray 0))) C = none := hC0
    rwa [Store.set_ne (Nat.ne_of_gt hDC)] at this
  have hcut : ((σ₁.set D (.list [] (W.listOf ([] : List Value).toArray 0))).set C (.raw oC)).cut C D = σ₁ := by
    rw [cut_set1, cut_set2]
    funext y
    unfold Store.cut
    by_cases hy : y = C ∨ y = D
    · rw [if_pos hy]
      rcases hy with rfl | rfl
      · exact hC1.symm
      · exact hD0.symm
    · rw [if_neg hy]
  have R₅ : LRel f m ((C, oC) :: (D, W.listOf ([] : List Value).toArray 0) :: (I, itObj 0 n) :: N₁) ρ := R.ext (X₁.trans (Ext.of_sub fun p hp => List.mem_cons_of_mem _ (List.mem_cons_of_mem _ (List.mem_cons_of_mem _ hp))))
  have hCD : C ≠ D := Nat.ne_of_gt hDC
  have loop := comp_loop (c := c) (elt := elt) (iter := .Call (.Name "range" np) [a] [] cp) (xp := xp) (pos := pos) (n := n) (J := J) (fn := fn) (x := x) (scope := scope) (ρ := ρ) (cl := cl) (f := f) (s₀ := { s with heap := h₅, toks := tk₂ }) (I := I) (C := C) (D := D) (N₀ := N₁) (m := m) (RR := compPost (model c.prog c.w) f.around noE none QC (.ref D) C) ok hkind hx hn hCD hcll hN₁I
    (fun i vs σ₂ oC oD hi hJ h1 h2 => turn i vs σ₂ C D oC oD hi hCD hJ h1 h2) ?_ (h₁ := h₅) (tk₁ := tk₂) I₅ (List.mem_cons_of_mem _ (List.mem_cons_of_mem _ List.mem_cons_self)) Store.set_same hoC (by rw [Store.set_ne (Ne.symm hCD)]; exact Store.set_same) (by rw [hcut]; exact hJ0) R₅ (Ext.of_sub fun p hp => List.mem_cons_of_mem _ (List.mem_cons_of_mem _ (List.mem_cons_of_mem _ hp)))
  · exact codeAny_compStart_list loop ((LCg.range_walks (A := f.around) rfl 0 n).self 0 _ _ _ (nw₅ (I, itObj 0 n) (List.mem_cons_of_mem _ (List.mem_cons_of_mem _ List.mem_cons_self))).1 loop)
  · intro h' tk vs N' σ' oC' m' oD V hO hCr hDr hJ X
    have mC := (V.st.cell C _ hCr).1
    refine ⟨m', hO.ns (V.nw _ mC).1, fun h'' hs'' => ?_⟩
    have XC : Ext N' (N'.filter (fun p => decide (p.1 ≠ C))) := fun p hp hst => by
      refine List.mem_filter.mpr ⟨hp, ?_⟩
      have : p.1 ≠ C := fun q => (nsObj_data hO).1 (by
        have h1 := (V.nw _ hp).1
        rw [q, (V.nw _ mC).1] at h1
        rw [show oC' = p.2 from Option.some.inj h1]; exact hst)
      simpa using this
    refine k (.ref D) (.ref D) ((σ'.cut C D).set D (.list vs oD)) h'' (N'.filter (fun p => decide (p.1 ≠ C))) tk (done vs _ D oD hJ (by unfold Store.cut; exact if_pos (.inr rfl))) (.ref _) ((X₁.trans X).trans XC) ⟨V.fr.change hs'' (V.nw _ mC).2.1 (V.nw _ mC).2.2, fun p hp => ?_, ?_⟩
    · obtain ⟨hp1, hp2⟩ := List.mem_filter.mp hp
      exact ⟨(hs''.2 _ (by simpa using hp2)).trans (V.nw _ hp1).1, (V.nw _ hp1).2⟩
    · have g : ∀ z cc, ((σ'.cut C D).set D (.list vs oD)) z = some cc → z ≠ C ∧ σ' z = some cc := fun z cc q => by
        by_cases hz : z = D
        · subst hz; rw [Store.set_same] at q; cases q
          exact ⟨Ne.symm hCD, hDr⟩
        · rw [Store.set_ne hz] at q
          obtain ⟨q1, q2, q3⟩ := Store.cut_some q
          exact ⟨q1, q3⟩
      have keep : ∀ p ∈ N', p.1 ≠ C → p ∈ N'.filter (fun p => decide (p.1 ≠ C)) := fun p hp hne => List.mem_filter.mpr ⟨hp, by simpa using hne⟩
      refine ⟨fun z cc q => ?_, fun b b' C₁ C' dx gs gs' e e' => V.st.inj _ _ _ _ _ _ _ (g _ _ e).2 (g _ _ e').2, fun b C₁ dx gs o e e' => V.st.off _ _ _ _ _ (g _ _ e).2 (g _ _ e').2⟩
      obtain ⟨hz, q⟩ := g _ _ q
      cases cc with
      | list us o₂ =>
        obtain ⟨arr₂, n₂, ho₂, hm₂, hr₂⟩ := V.st.cell z _ q
        exact ⟨arr₂, n₂, ho₂, keep _ hm₂ hz, hr₂.ext XC⟩
      | inst C₁ dx fs =>
        obtain ⟨es, n₂, h1, h2, hr₂⟩ := V.st.cell z _ q
        exact ⟨es, n₂, keep _ h1 hz, keep _ h2 (fun e => V.st.off _ _ _ _ _ q (by dsimp only at e; rw [e]; exact hCr)), hr₂.ext XC⟩
      | raw o₂ => exact ⟨keep _ (V.st.cell z _ q).1 hz, (V.st.cell z _ q).2⟩
end

/-- a def of two parameters that an inner block shares -/
structure CellScope (p₁ p₂ : Str) (scope : Scope) : Prop where
  k1 : scope.names.lookup p₁ = some .cell
  k2 : scope.names.lookup p₂ = some .cell
  cf : ∀ n, cellsFrom n scope.names [] = [(p₂, n + 1), (p₁, n)]
  ne : p₁ ≠ p₂
  co : scope.isCoroutine = false
  gen : scope.isGenerator = false
  kind : scope.kind = .function
section
variable {c : Cx} {d : Nat} {cs : Scope} {σ : Store} {Q : Val → Store → Prop}
theorem WC_def2c {fa : Addr} {p₁ p₂ : Str} {body : List Stmt} {scope : Scope} {v₁ v₂ : Val} (D : FunAt c fa [p₁, p₂] body scope) (P : CellScope p₁ p₂ scope) (H : WS c d scope body [(p₂, v₂), (p₁, v₁)] σ (fun fl _ σ' => Q fl.val σ')) :
    WC c (d + 1) fa [v₁, v₂] σ Q := by
  intro cs f m N s QC rs ok I V k
  obtain ⟨name, qual, params, dV, kV, doc, pm, cdv, ct, oc, an, od, osl, ho, hcd, hb⟩ := D.ex
  cases V with | @cons r₁ _ rs _ V₁ V =>
  cases V with | @cons r₂ _ rs _ V₂ V =>
  cases V with | nil =>
  have hz : ([p₁, p₂] : List Str).zip [r₁, r₂] = [(p₁, r₁), (p₂, r₂)] := rfl
  have hkL : ∀ L' : Addr, (envOfC qual scope L' fa cdv).kindOf p₁ = some .cell ∧ (envOfC qual scope L' fa cdv).kindOf p₂ = some .cell := fun L' => ⟨P.k1, P.k2⟩
  suffices key : ∀ R : Result → Shared → Prop, (∀ v s', QC v s' → R (.ok (.ret v)) s') → codeAny (model c.prog c.w) f.around (.call (.ref fa) ⟨[r₁, r₂], []⟩) R s from wpAny_call (key _ fun _ _ q => q)
  intro RR hRR
  refine callX_cells (R := RR) (L := f.L) (m := m) (h₀ := f.h₀) (base := f.base) (outer := f.outer) (env := f.env) (A₀ := f.A₀) (binds := [(p₁, r₁), (p₂, r₂)]) ok.B I.fr I.nw ok.T.nolimit rfl rfl (by show f.cs.kind = _; rw [ok.hcs]; exact ok.kind) ((ok.X.keeps I.fr.keep) _ _ ho) rfl (codeRec_of (ok.X.keeps I.fr.keep) hcd) (by have := ok.room; show f.dp < recursionLimit; lia) (BindsTo.of_eq (hb [r₁, r₂] rfl)) ?_ ?_ ?_ P.co P.gen P.kind
  · intro n x hx
    rw [P.cf]
    rcases List.mem_cons.mp hx with rfl | hx
    · exact .inr ⟨P.k1, by
        have : (p₁ == p₂) = false := by simpa using P.ne
        simp [List.lookup_cons, this]⟩
    · rw [List.mem_singleton.mp hx]
      exact .inr ⟨P.k2, by simp [List.lookup_cons]⟩
  · rw [P.cf]; simp [Ne.symm P.ne]
  · intro g L' h₁ tk cells FG F' N' CA B' st hlt
    rw [P.cf] at CA
    obtain ⟨o₂, o₁, rfl, e2, e1⟩ := CA.two
    have c1 : bindC (envOfC qual scope L' fa cdv).kindOf [(p₁, r₁), (p₂, r₂)] (fun _ => none) p₁ = some r₁ := by
      unfold bindC; rw [(hkL L').1, if_neg (by decide)]; unfold bindC; rw [(hkL L').2, if_neg (by decide)]; unfold bindC; simp [P.ne]
    have c2 : bindC (envOfC qual scope L' fa cdv).kindOf [(p₁, r₁), (p₂, r₂)] (fun _ => none) p₂ = some r₂ := by
      unfold bindC; rw [(hkL L').1, if_neg (by decide)]; unfold bindC; rw [(hkL L').2, if_neg (by decide)]; unfold bindC; simp
    rw [c1] at e1
    rw [c2] at e2
    let f' : Fm := { dp := f.dp + 1, un := f.un + 3, cn := qual, cs := scope, L := L', a := fa, ccd := cdv, cl := cellsFrom (L' + 1) scope.names [], outer := f.env :: f.outer, A₀ := { handled := none, depth := f.dp, frames := some (f.env :: f.outer), guards := some [], units := f.un }, base := f.base, h₀ := g }
    have hd := ok.room
    have hu := ok.units
    have ok' : Fm.Ok f' c d scope := ⟨B', ok.X.keeps st, ok.T.keeps st, rfl, P.kind, by show f.dp + 1 + d < _; lia, by show f.un + 3 + 8 * d + 200 < _; lia, by
      obtain ⟨o, e, r⟩ := ok.scr
      exact ⟨o, st _ _ e, r⟩, ok.sin⟩
    have sub : ∀ p ∈ N, p ∈ [(L' + 1 + 1, o₂), (L' + 1, o₁)] ++ N := fun p hp => List.mem_append_right _ hp
    have I' : Inv f' _ ([(L' + 1 + 1, o₂), (L' + 1, o₁)] ++ N) h₁ σ := ⟨F', N', I.st.sup sub⟩
    have R' : LRel f' (bindL (envOfC qual scope L' fa cdv).kindOf [(p₁, r₁), (p₂, r₂)] fun _ => none) ([(L' + 1 + 1, o₂), (L' + 1, o₁)] ++ N) [(p₂, v₂), (p₁, v₁)] := fun x v e => by
      rw [List.lookup_cons] at e
      by_cases hx : x = p₂
      · subst hx
        simp at e; subst e
        exact .cell P.k2 (show (cellsFrom (L' + 1) scope.names []).lookup x = some _ by rw [P.cf]; simp [List.lookup_cons]) List.mem_cons_self (stab_cell e2) e2 (V₂.ext (Ext.of_sub sub))
      · have hb' : (x == p₂) = false := by simpa using hx
        rw [hb'] at e
        rw [List.lookup_cons] at e
        by_cases hx' : x = p₁
        · subst hx'
          simp at e; subst e
          exact .cell P.k1 (show (cellsFrom (L' + 1) scope.names []).lookup x = some _ by rw [P.cf]; simp [List.lookup_cons, hb']) (List.mem_cons_of_mem _ List.mem_cons_self) (stab_cell e1) e1 (V₁.ext (Ext.of_sub sub))
        · have hb'' : (x == p₁) = false := by simpa using hx'
          rw [hb''] at e; cases e
    refine wpAny_mono (H f' _ ([(L' + 1 + 1, o₂), (L' + 1, o₁)] ++ N) { s with heap := h₁, toks := tk } (fun fl s' => LeaveK f.h₀ f.L m g RR (match fl with | .ret v => v | _ => .none) s') ok' I' R' ?_) (fun _ _ q => q) fun _ _ x => x.elim
    · intro gg fl ρ₂ σ₂ m₂ h₂ N₂ tk₂ q V₂ X₂ I₂ R₂
      refine leaveK_ I₂.fr I₂.nw fun F₃ N₃ => ?_
      have I₃ : Inv f m N₂ h₂ σ₂ := ⟨F₃, N₃, I₂.st⟩
      cases V₂ with
      | next => exact hRR _ _ (k _ _ _ h₂ N₂ tk₂ q .none ((Ext.of_sub sub).trans X₂) I₃)
      | cont => exact hRR _ _ (k _ _ _ h₂ N₂ tk₂ q .none ((Ext.of_sub sub).trans X₂) I₃)
      | ret V₂ => exact hRR _ _ (k _ _ _ h₂ N₂ tk₂ q V₂ ((Ext.of_sub sub).trans X₂) I₃)
end
inductive Strs : List Expr → List Str → Prop
  | nil : Strs [] []
  | cons {s : Str} {k : Nat} {p : Pos} {es : List Expr} {ys : List Str} : Strs es ys → Strs (.Constant (.str s) k p :: es) (s :: ys)
section
variable {c : Cx} {d : Nat} {cs : Scope} {ρ : LEnv} {σ : Store}
theorem WL_strs {p : Pos} {es : List Expr} {ys : List Str} (h : Strs es ys) : ∀ {Q : List Val → Store → Prop}, Q (ys.map Val.str) σ → WL c d cs p es ρ σ Q := by
  induction h with
  | nil => exact fun q => WL_nil q
  | cons _ ih => exact fun q => WL_cons (WE_str (ih q)) (fun _ => rfl)
/-- a name's text against a text, at once -/
theorem WT_eqS {x s w : Str} {xp kp p : Pos} {k : Nat} {Q : Bool → Store → Prop} (hx : ρ.lookup x = some (.str w)) (q : Q (w == s) σ) (hd : (x == ("__debug__" : Str)) = false := by decide) : WT c d cs (.Compare (.Name x xp) [.Eq] [.Constant (.str s) k kp] p) ρ σ Q :=
  WT_cmp (WE_name hx (WE_str (G_eqS (GB_bool q))) hd) rfl
theorem WT_inS {x w : Str} {xp tp p : Pos} {k : Nat} {es : List Expr} {ys : List Str} {Q : Bool → Store → Prop} (hx : ρ.lookup x = some (.str w)) (hes : Strs es ys) (q : Q (ys.any (· == w)) σ) (hz : (ys.map Val.str).length ≤ sizeLine := by decide) (hd : (x == ("__debug__" : Str)) = false := by decide) :
    WT c d cs (.Compare (.Name x xp) [.In] [.Tuple es k tp] p) ρ σ Q :=
  WT_cmp (WE_name hx (WE_tuple (WL_strs hes (GL_newTuple (G_inS (GB_bool q) rfl) hz))) hd) rfl
end
theorem ll0 : (Str.ofString "(").length = 1 := by decide +kernel
theorem ll1 : (Str.ofString ")").length = 1 := by decide +kernel
theorem ll2 : (Str.ofString " ").length = 1 := by decide +kernel
theorem ll3 : (Str.ofString "+").length = 1 := by decide +kernel
theorem ll4 : (Str.ofString "*").length = 1 := by decide +kernel
theorem ll5 : (Str.ofString "|").length = 1 := by decide +kernel
theorem ll6 : (Str.ofString ".").length = 1 := by decide +kernel
theorem ll7 : (Str.ofString "$").length = 1 := by decide +kernel
theorem ll8 : (Str.ofString "(-").length = 2 := by decide +kernel
theorem ll9 : (Str.ofString "(@").length = 2 := by decide +kernel
theorem ll10 : (Str.ofString "").length = 0 := by decide +kernel
theorem ll11 : (Str.ofString "..").length = 2 := by decide +kernel
theorem ll12 : (Str.ofString "<").length = 1 := by decide +kernel
theorem ll13 : (Str.ofString ">").length = 1 := by decide +kernel
theorem ll14 : (Str.ofString "item").length = 4 := by decide +kernel
theorem ll15 : (Str.ofString "F").length = 1 := by decide +kernel
theorem ll16 : (Str.ofString "G").length = 1 := by decide +kernel
theorem ll17 : (Str.ofString "K").length = 1 := by decide +kernel
theorem ll18 : (Str.ofString "&").length = 1 := by decide +kernel
theorem ll19 : (Str.ofString ",").length = 1 := by decide +kernel
theorem ll20 : (Str.ofString "t").length = 1 := by decide +kernel
theorem ll21 : (Str.ofString "A").length = 1 := by decide +kernel
theorem ll22 : (Str.ofString "B").length = 1 := by decide +kernel
theorem ll23 : (Str.ofString "X").length = 1 := by decide +kernel
theorem ll24 : (Str.ofString "Z").length = 1 := by decide +kernel
theorem ll25 : (Str.ofString "M").length = 1 := by decide +kernel
theorem ll26 : (Str.ofString "S1").length = 2 := by decide +kernel
theorem ll27 : (Str.ofString "Q").length = 1 := by decide +kernel
theorem ll28 : (Str.ofString "C").length = 1 := by decide +kernel
theorem ll29 : (Str.ofString "~").length = 1 := by decide +kernel
theorem ll30 : (Str.ofString "?").length = 1 := by decide +kernel
theorem ll31 : (Str.ofString "-").length = 1 := by decide +kernel
theorem ll32 : (Str.ofString "@").length = 1 := by decide +kernel

local macro_rules | `(tactic| walk_at "slen") => `(tactic| (simp only [Str.length_append, sizeLine_eq, ll0, ll1, ll2, ll3, ll4, ll5, ll6, ll7, ll8, ll9, ll10, ll11, ll12, ll13, ll14, ll15, ll16, ll17, ll18, ll19, ll20, ll21, ll22, ll23, ll24, ll25, ll26, ll27, ll28, ll29, ll30, ll31, ll32]; lia))
local macro_rules | `(tactic| walk_at "cell") => `(tactic| first
  | assumption
  | exact Store.set_same
  | (refine Store.old (by assumption) ?_; walk_at "cell")
  | (refine (by assumption : Keep _ _) _ _ ?_; walk_at "cell"))
local macro_rules | `(tactic| walk_at "none") => `(tactic| first
  | assumption
  | (refine Keep.noneOf (by assumption) ?_; walk_at "none")
  | (refine Keep.noneOf (Keep.new (by assumption)) ?_; walk_at "none"))
local macro_rules | `(tactic| walk_at "keep") => `(tactic| first
  | assumption
  | exact Keep.refl _
  | (refine Keep.upd ?_ (by assumption); walk_at "keep")
  | (refine Keep.trans ?_ (Keep.new (by assumption)); walk_at "keep")
  | (refine Keep.trans ?_ (by assumption : Keep _ _); walk_at "keep"))
local macro_rules | `(tactic| walk_at "knone") => `(tactic| first | assumption | (refine Keep.noneOf ?_ (by assumption); walk_at "keep"))
local macro_rules | `(tactic| walk_at "ords") => `(tactic| (simp only [List.map_append, List.map_cons, List.map_nil, List.nil_append, List.append_assoc, List.cons_append, Ord.val, PV.val]))
local macro_rules | `(tactic| walk_at "size") => `(tactic| first | exact Nat.le_of_ble_eq_true rfl | (simp only [List.length_append, List.length_map, List.length_cons, List.length_nil] at *; lia))
local macro_rules | `(tactic| walk_at "gC") => `(tactic| first | refine WE_callF (by assumption) (by rfl) ?_ | refine WE_callB (Facts.biB (by assumption) (by rfl)) ?_ | refine WE_callT (Facts.biT (by assumption) (by rfl)) ?_)
local macro_rules | `(tactic| walk_at "gE") => do
  let r ← mkF mkR ["WE_int", "WE_str", "WE_none", "WE_bool", "WE_bin", "WE_un", "WE_if", "WE_tuple", "WE_list", "WE_attr", "WE_and", "WE_and1", "WE_or", "WE_or1"]
  `(tactic| first
  | $r:tactic
  | ((with_reducible show WE _ _ _ (PySem.Expr.Name _ _) _ _ _); refine WE_name (by rfl) ?_)
  | ((with_reducible show WE _ _ _ (PySem.Expr.Compare _ _ _ _) _ _ _); refine WE_cmp ?_)
  | ((with_reducible show WE _ _ _ (PySem.Expr.Subscript _ (PySem.Expr.Slice _ _ _ _) _) _ _ _); refine WE_sliceFrom ?_)
  | (with_reducible refine WE_sub ?_)
  | ((with_reducible show WE _ _ _ (PySem.Expr.Call (PySem.Expr.Name _ _) _ _ _) _ _ _); walk_at "gC"))
local macro_rules | `(tactic| walk_at "gT") => do
  let r ← mkF mkR ["WT_not", "WT_and", "WT_and0", "WT_or", "WT_or0"]
  `(tactic| first
  | $r:tactic
  | ((with_reducible show WT _ _ _ (PySem.Expr.Compare (PySem.Expr.Name _ _) [CmpOp.Eq] [PySem.Expr.Constant (PySem.Const.str _) _ _] _) _ _ _); refine WT_eqS (by rfl) ?_)
  | ((with_reducible show WT _ _ _ (PySem.Expr.Compare (PySem.Expr.Name _ _) [CmpOp.In] [PySem.Expr.Tuple _ _ _] _) _ _ _); refine WT_inS (by rfl) (by repeat (first | exact Strs.nil | apply Strs.cons)) ?_)
  | ((with_reducible show WT _ _ _ (PySem.Expr.Compare _ _ _ _) _ _ _); refine WT_cmp ?_)
  | ((with_reducible show WT _ _ _ _ _ _ _); refine WT_plain ?_))
local macro_rules | `(tactic| walk_at "gX") => do
  let r ← mkF mkR ["WX_ret", "WX_if", "WX_cont"]
  `(tactic| first
  | $r:tactic
  | ((with_reducible show WX _ _ _ (PySem.Stmt.Assign [PySem.Expr.Name _ _] _ _) _ _ _); refine WX_set ?_)
  | ((with_reducible show WX _ _ _ (PySem.Stmt.Assign [PySem.Expr.Subscript _ _ _] _ _) _ _ _); refine WX_setSub ?_)
  | ((with_reducible show WX _ _ _ (PySem.Stmt.Assign [PySem.Expr.Attribute _ _ _] _ _) _ _ _); refine WX_setAttr ?_)
  | ((with_reducible show WX _ _ _ (PySem.Stmt.Expr _ _) _ _ _); refine WX_expr ?_)
  | ((with_reducible show WX _ _ _ (PySem.Stmt.AugAssign _ _ _ _) _ _ _); refine WX_aug (by rfl) ?_))
local macro_rules | `(tactic| walk_at "gS") => mkF mkR ["WS_cons", "WS_nil", "Seq_next", "Seq_ret", "Seq_cont"]
local macro_rules | `(tactic| walk_at "gL") => `(tactic| first
  | ((with_reducible show WL _ _ _ _ (_ :: _) _ _ _); refine WL_cons ?_)
  | (with_reducible refine WL_nil ?_))
local macro_rules | `(tactic| walk_at "g2") => do
  let r ← mkF mkR ["G_eqI", "G_gtI", "G_ltI", "G_eqS", "G_neS", "G_eqB", "G_neB", "G_is", "G_isnot", "G_addI", "G_subI"]
  `(tactic| first
  | $r:tactic
  | ((with_reducible show G2 _ _ _ (binaryOp Operator.Add) (Val.str _) (Val.str _) _ _); refine G_addS ?_ (by walk_at "slen"))
  | ((with_reducible show G2 _ _ _ (binaryOp Operator.Add) (Val.ref _) (Val.ref _) _ _); refine G_addL (by walk_at "cell") (by walk_at "cell") ?_ (by walk_at "size"); intro _ _ _)
  | ((with_reducible show G2 _ _ _ (subscriptTail _ _) (Val.tup _) (Val.int _) _ _); refine G_itemT ?_ (by rfl) (by rfl))
  | ((with_reducible show G2 _ _ _ (subscriptTail _ _) (Val.ref _) (Val.int _) _ _); refine G_itemL (by walk_at "cell") ?_ (by rfl) (by rfl))
  | ((with_reducible show G2 _ _ _ (compareOp CmpOp.In) (Val.str _) (Val.tup _) _ _); first | refine G_inS (ys := [_, _]) ?_ (by rfl) | refine G_inS (ys := [_, _, _]) ?_ (by rfl) | refine G_inS (ys := [_, _, _, _, _, _]) ?_ (by rfl))
  | refine G_inI (ys := [_, _]) ?_ (by rfl))
local macro_rules | `(tactic| walk_at "g1") => `(tactic| first
  | (with_reducible refine G_negI ?_)
  | (with_reducible refine GB_bool ?_)
  | ((with_reducible show GL _ _ _ newTuple _ _ _); refine GL_newTuple ?_ (by walk_at "size"))
  | ((with_reducible show GL _ _ _ newList _ _ _); refine GL_newList ?_ (by walk_at "size"); intro _ _ _)
  | ((with_reducible show GL _ _ _ (callF (Value.builtin "len")) [Val.tup _] _ _); refine GL_lenT ?_ (by walk_at "size"))
  | ((with_reducible show GL _ _ _ (callF (Value.builtin "len")) [Val.ref _] _ _); refine GL_lenL (by walk_at "cell") ?_ (by walk_at "size")))
local macro_rules | `(tactic| walk_at "gW") => `(tactic| first | refine Ways.yes (by first | decide | rfl) ?_ | refine Ways.no (by first | decide | rfl) ?_)
local macro_rules | `(tactic| walk_at "go") => do
  let r ← mkF (fun x => do
    let w := (x.splitOn " ")
    `(tactic| ((with_reducible show $(Lean.mkIdent (.mkStr `Mine w.head!)) $(Array.replicate w[1]!.length (← `(_)))*); walk_at $(Lean.quote w[2]!)))) ["WE _______ gE", "WL ________ gL", "G2 ________ g2", "Ways ___ gW", "WT _______ gT", "GB _______ g1", "WX _______ gX", "WS _______ gS", "Seq ________ gS", "GL _______ g1", "G1 _______ g1"]
  `(tactic| first | $r:tactic | delta KRet | delta KSet | delta KDrop | delta KNext | delta KNot | delta KCons)

theorem take_plain : PlainScope ["box", "many"] (scopeAt 17) := ⟨by decide +kernel, by decide +kernel, by decide +kernel, by decide +kernel, by decide +kernel⟩
noncomputable def Box (σ : Store) (b : Addr) : Prop := ∃ g k o, σ b = some (.list [.int g, .int k] o) ∧ 0 ≤ g ∧ 0 ≤ k
theorem mulOk_right {a b : Int} (h : Builtin.Int.intBits b ≤ 64) : IntMulOk a b := by
  have h' : ¬ (Builtin.Int.intBits b > shortFactorBits) := Nat.not_lt.mpr h
  unfold IntMulOk; rw [decide_eq_false h']; simp
theorem noPylong (a : Int) {m : Nat} (h : m ≤ 100) : Builtin.divisionGoesByPylong a m = false := by
  have e : ∀ m : Nat, m < 101 → (decide ((if ((m : Int) == 0) = true then 0 else (m : Int).natAbs.log2 / 30 + 1) > 300)) = false := by decide +kernel
  unfold Builtin.divisionGoesByPylong
  simp only [e m (by lia), Bool.false_and]
theorem fmod_nat (a : Int) {m : Nat} (hm : 0 < m) : ∃ i : Nat, a.fmod m = i ∧ i < m := by
  have h1 := Int.fmod_nonneg_of_pos a (b := (m : Int)) (by lia)
  have h2 := Int.fmod_lt_of_pos a (b := (m : Int)) (by lia)
  exact ⟨(a.fmod m).toNat, by lia, by lia⟩
theorem fdiv_nn {a : Int} {m : Nat} (h : 0 ≤ a) : 0 ≤ a.fdiv m := Int.fdiv_nonneg h (by lia)
theorem take_spec {c : Cx} {A : Nat → Addr} (F : Facts c A) {d : Nat} {σ : Store} {b : Addr} {m : Nat} (hB : Box σ b) (hm : 0 < m) (hm' : m ≤ 100) {Q : Val → Store → Prop}
    (q : ∀ σ' (i : Nat), i < m → Box σ' b → KeepBut b σ σ' → Q (.int i) σ') : WC c (d + 1) (A 17) [.ref b, .int m] σ Q := by
  obtain ⟨g, k, o, hb, hg, hk⟩ := hB
  refine WC_def F.f17.toFunAt take_plain rfl ?_
  refine WS_cons ?_
  repeat walk_at "go"
  refine G_setItem (n := 1) hb (Nat.lt_add_one 1) (by decide) ?_
  intro o₁
  repeat walk_at "go"
  refine ⟨fun h => ?_, fun h => ?_⟩
  · repeat walk_at "go"
    refine G_modI ?_ (by lia)
    repeat walk_at "go"
    refine G_divI ?_ (by lia) (noPylong _ hm')
    repeat walk_at "go"
    refine G_setItem (n := 0) Store.set_same (Nat.zero_lt_succ 1) (by decide) ?_
    intro o₂
    repeat walk_at "go"
    obtain ⟨i, hi, hlt⟩ := fmod_nat g hm
    have e : (Fl.ret (Val.int (g.fmod m))).val = .int i := by rw [hi]; rfl
    rw [e]
    exact q _ i hlt ⟨g.fdiv m, k + 1, o₂, Store.set_same, fdiv_nn hg, by lia⟩ (KeepBut.set.trans KeepBut.set)
  · repeat walk_at "go"
    refine G_mulI ?_ (mulOk_right (by decide +kernel))
    repeat walk_at "go"
    refine G_divI ?_ (by decide) (noPylong _ (m := 5) (by decide))
    repeat walk_at "go"
    refine G_modI ?_ (by lia)
    repeat walk_at "go"
    obtain ⟨i, hi, hlt⟩ := fmod_nat ((k + 1) * 7 + (k + 1).fdiv 5) hm
    have e : (Fl.ret (Val.int (((k + 1) * 7 + (k + 1).fdiv 5).fmod m))).val = .int i := by rw [hi]; rfl
    rw [e]
    exact q _ i hlt ⟨g, k + 1, o₁, Store.set_same, hg, by lia⟩ KeepBut.set

noncomputable def b3f : Nat → B3
  | 0 => .add | 1 => .mul | _ => .or
noncomputable def b2f : Nat → B2
  | 0 => .dot | _ => .dol
noncomputable def u5f : Nat → U5
  | 0 => .not | 1 => .ask | 2 => .neg | 3 => .del | _ => .cur
theorem b3t : ∀ j : Fin 3, ([B3.add.s, B3.mul.s, B3.or.s] : List Str)[j.1]? = some (b3f j.1).s := by decide +kernel
theorem b2t : ∀ j : Fin 2, ([B2.dot.s, B2.dol.s] : List Str)[j.1]? = some (b2f j.1).s := by decide +kernel
theorem u5t : ∀ j : Fin 5, Txt.item "~?-*@" (j.1 : Int) = (u5f j.1).s ∧ fitsSsize (j.1 : Int) = true ∧ -((("~?-*@" : Str).length : Nat) : Int) ≤ (j.1 : Int) ∧ (j.1 : Int) < ((("~?-*@" : Str).length : Nat) : Int) := by decide +kernel
theorem strs_at {l : List Str} {j : Nat} {x : Str} (h : l[j]? = some x) : (l.map Val.str)[j]? = some (.str x) := by rw [List.getElem?_map, h]; rfl
theorem b3_at {j : Nat} (h : j < 3) : ∃ op : B3, ([.str B3.add.s, .str B3.mul.s, .str B3.or.s] : List Val)[j]? = some (.str op.s) := ⟨b3f j, strs_at (l := [B3.add.s, B3.mul.s, B3.or.s]) (b3t ⟨j, h⟩)⟩
theorem b2_at {j : Nat} (h : j < 2) : ∃ op : B2, ([.str B2.dot.s, .str B2.dol.s] : List Val)[j]? = some (.str op.s) := ⟨b2f j, strs_at (l := [B2.dot.s, B2.dol.s]) (b2t ⟨j, h⟩)⟩
theorem u5_at {j : Nat} (h : j < 5) : ∃ op : U5, Txt.item "~?-*@" (j : Int) = op.s ∧ fitsSsize (j : Int) = true ∧ -((("~?-*@" : Str).length : Nat) : Int) ≤ (j : Int) ∧ (j : Int) < ((("~?-*@" : Str).length : Nat) : Int) := ⟨u5f j, u5t ⟨j, h⟩⟩
theorem three {α : Type} {a b c x : α} {i : Nat} (h : ([a, b, c] : List α)[i]? = some x) : x = a ∨ x = b ∨ x = c := by
  have := List.mem_of_getElem? h
  simpa using this
theorem two {α : Type} {a b x : α} {i : Nat} (h : ([a, b] : List α)[i]? = some x) : x = a ∨ x = b := by
  have := List.mem_of_getElem? h
  simpa using this
theorem tree_cells : CellScope "box" "deep" (scopeAt 19) := ⟨by decide +kernel, by decide +kernel, fun _ => rfl, by decide +kernel, by decide +kernel, by decide +kernel, by decide +kernel⟩
theorem goal_plain : PlainScope ["box", "deep"] (scopeAt 20) := ⟨by decide +kernel, by decide +kernel, by decide +kernel, by decide +kernel, by decide +kernel⟩
theorem Box.ne {σ : Store} {b l : Addr} (B : Box σ b) (h : σ l = none) : l ≠ b := fun e => by
  obtain ⟨g, k, o, hb, _⟩ := B
  rw [← e, h] at hb; cases hb
theorem Box.new {σ : Store} {b l : Addr} {c : Cell} (B : Box σ b) (h : σ l = none) : Box (σ.set l c) b := by
  obtain ⟨g, k, o, hb, r⟩ := B
  exact ⟨g, k, o, Store.old h hb, r⟩
theorem KeepBut.cell {b l : Addr} {σ σ' : Store} {c : Cell} (k : KeepBut b σ σ') (hl : l ≠ b) (h : σ l = some c) : σ' l = some c := k l c hl h
section
variable {c : Cx} {A : Nat → Addr} (F : Facts c A) {d : Nat} {cs : Scope} {ρ : LEnv} {σ : Store} {Q : Val → Store → Prop} {b : Addr}
include F
end
noncomputable def DrawT (c : Cx) (A : Nat → Addr) (n : Nat) : Prop := ∀ (d : Nat) (σ : Store) (b : Addr) (Q : Val → Store → Prop), n + 2 ≤ d → Box σ b → (∀ σ' (t : Tr), t.h ≤ n → Box σ' b → KeepBut b σ σ' → Q t.val σ') → WC c d (A 19) [.ref b, .int (n : Nat)] σ Q
noncomputable def DrawG (c : Cx) (A : Nat → Addr) (n : Nat) : Prop := ∀ (d : Nat) (σ : Store) (b : Addr) (Q : Val → Store → Prop), n + 2 ≤ d → Box σ b → (∀ σ' (g : Go), g.h ≤ n → Box σ' b → KeepBut b σ σ' → Q g.val σ') → WC c d (A 20) [.ref b, .int (n : Nat)] σ Q
section
variable {c : Cx} {A : Nat → Addr} (F : Facts c A)
include F
theorem tree_low {d : Nat} {σ : Store} {b : Addr} {n i : Nat} {Q : Fl → LEnv → Store → Prop} (B : Box σ b) (hi : i < 4) (q : ∀ σ' (t : Tr) ρ, t.h = 0 → Box σ' b → KeepBut b σ σ' → Q (.ret t.val) ρ σ') :
    WS c (d + 1) (scopeAt 19) ((bodyAt 19).drop 1) [("form", .int (i : Nat)), ("deep", .int (n : Nat)), ("box", .ref b)] σ Q := by
  refine WS_cons ?_
  have hc : i = 0 ∨ i = 1 ∨ i = 2 ∨ i = 3 := by lia
  rcases hc with rfl | rfl | rfl | rfl
  · repeat walk_at "go"
    rename_i l o hl
    refine take_spec F (m := 3) (B.new hl) (by decide) (by decide) fun σ' j hj B' K' => ?_
    have hl' := K'.cell (B.ne hl) Store.set_same
    have K'' := (Keep.new hl).but.trans K'
    have hc : j = 0 ∨ j = 1 ∨ j = 2 := by lia
    rcases hc with rfl | rfl | rfl
    · repeat walk_at "go"
      exact q σ' (.name .A) _ rfl B' K''
    · repeat walk_at "go"
      exact q σ' (.name .B) _ rfl B' K''
    · repeat walk_at "go"
      exact q σ' (.name .Z) _ rfl B' K''
  · repeat walk_at "go"
    rename_i l o hl
    refine take_spec F (m := 3) (B.new hl) (by decide) (by decide) fun σ' j hj B' K' => ?_
    have hl' := K'.cell (B.ne hl) Store.set_same
    have K'' := (Keep.new hl).but.trans K'
    have hc : j = 0 ∨ j = 1 ∨ j = 2 := by lia
    rcases hc with rfl | rfl | rfl
    · repeat walk_at "go"
      exact q σ' (.name .A) _ rfl B' K''
    · repeat walk_at "go"
      exact q σ' (.name .B) _ rfl B' K''
    · repeat walk_at "go"
      exact q σ' (.name .Z) _ rfl B' K''
  · repeat walk_at "go"
    refine take_spec F (m := 10) B (by decide) (by decide) fun σ' j hj B' K' => ?_
    repeat walk_at "go"
    exact q σ' (.whole ⟨j, hj⟩) _ rfl B' K'
  · repeat walk_at "go"
    rename_i l o hl
    refine take_spec F (m := 2) (B.new hl) (by decide) (by decide) fun σ' j hj B' K' => ?_
    have hl' := K'.cell (B.ne hl) Store.set_same
    have K'' := (Keep.new hl).but.trans K'
    have hc : j = 0 ∨ j = 1 := by lia
    rcases hc with rfl | rfl
    · repeat walk_at "go"
      exact q σ' .text _ rfl B' K''
    · repeat walk_at "go"
      exact q σ' .null _ rfl B' K''
theorem tree_high {d : Nat} {σ : Store} {b : Addr} {n i : Nat} (hT : DrawT c A n) (hG : DrawG c A n) (hd : n + 2 ≤ d) {Q : Fl → LEnv → Store → Prop} (B : Box σ b) (hi : 4 ≤ i) (hi' : i < 12) (q : ∀ σ' (t : Tr) ρ, t.h ≤ n + 1 → Box σ' b → KeepBut b σ σ' → Q (.ret t.val) ρ σ') :
    WS c d (scopeAt 19) ((bodyAt 19).drop 1) [("form", .int (i : Nat)), ("deep", .int ((n + 1 : Nat) : Int)), ("box", .ref b)] σ Q := by
  have e : ((n + 1 : Nat) : Int) - 1 = (n : Nat) := by lia
  obtain ⟨d', rfl⟩ : ∃ d', d = d' + 1 := ⟨d - 1, by lia⟩
  generalize hd' : d' + 1 = d at hd ⊢
  refine WS_cons ?_
  have hc : i = 4 ∨ i = 5 ∨ i = 6 ∨ i = 7 ∨ i = 8 ∨ i = 9 ∨ i = 10 ∨ i = 11 := by lia
  rcases hc with rfl | rfl | rfl | rfl | rfl | rfl | rfl | rfl
  · repeat walk_at "go"
    rw [e]
    refine hT _ _ _ _ hd B fun σ1 t1 h1 B1 K1 => ?_
    repeat walk_at "go"
    rw [e]
    refine hT _ _ _ _ hd B1 fun σ2 t2 h2 B2 K2 => ?_
    repeat walk_at "go"
    exact q σ2 (.join t1 t2) _ (by simp only [Tr.h]; lia) B2 (K1.trans K2)
  · repeat walk_at "go"
    subst hd'
    rename_i l o hl
    refine take_spec F (m := 3) (B.new hl) (by decide) (by decide) fun σ' j hj B' K' => ?_
    have hl' := K'.cell (B.ne hl) Store.set_same
    have K'' := (Keep.new hl).but.trans K'
    obtain ⟨op, hop⟩ := b3_at hj
    refine G_itemL hl' ?_ (seq_nat hj) hop (by lia) (by lia)
    repeat walk_at "go"
    rw [e]
    refine hT _ _ _ _ hd B' fun σ1 t1 h1 B1 K1 => ?_
    repeat walk_at "go"
    rw [e]
    refine hT _ _ _ _ hd B1 fun σ2 t2 h2 B2 K2 => ?_
    repeat walk_at "go"
    exact q σ2 (.bin op t1 t2) _ (by simp only [Tr.h]; lia) B2 ((K''.trans K1).trans K2)
  · repeat walk_at "go"
    subst hd'
    rename_i l o hl
    refine take_spec F (m := 3) (B.new hl) (by decide) (by decide) fun σ' j hj B' K' => ?_
    have hl' := K'.cell (B.ne hl) Store.set_same
    have K'' := (Keep.new hl).but.trans K'
    obtain ⟨op, hop⟩ := b3_at hj
    refine G_itemL hl' ?_ (seq_nat hj) hop (by lia) (by lia)
    repeat walk_at "go"
    rw [e]
    refine hT _ _ _ _ hd B' fun σ1 t1 h1 B1 K1 => ?_
    repeat walk_at "go"
    rw [e]
    refine hT _ _ _ _ hd B1 fun σ2 t2 h2 B2 K2 => ?_
    repeat walk_at "go"
    exact q σ2 (.bin op t1 t2) _ (by simp only [Tr.h]; lia) B2 ((K''.trans K1).trans K2)
  · repeat walk_at "go"
    have turn : ∀ (σ1 : Store) (k : Nat), Box σ1 b → k < 3 → ∃ J : Nat → List Val → Store → Prop, J 0 [] σ1 ∧
        (∀ i vs σ₂ C D oC oD, i < k → C ≠ D → J i vs (σ₂.cut C D) → σ₂ C = some (.raw oC) → σ₂ D = some (.list vs oD) → WC c d (A 19) [.ref b, .int (((n + 1 : Nat) : Int) - 1)] σ₂ (fun y σ₃ => σ₃ C = some (.raw oC) ∧ σ₃ D = some (.list vs oD) ∧ J (i + 1) (vs ++ [y]) (σ₃.cut C D))) ∧
        (∀ vs σ₂, J k vs σ₂ → Box σ₂ b ∧ KeepBut b σ1 σ₂ ∧ ∃ ts : List Tr, vs = ts.map Tr.val ∧ ts.length = k ∧ ∀ t ∈ ts, t.h ≤ n) := fun σ1 k B1 hk => by
      refine ⟨fun i vs σ₂ => Box σ₂ b ∧ KeepBut b σ1 σ₂ ∧ ∃ ts : List Tr, vs = ts.map Tr.val ∧ ts.length = i ∧ ∀ t ∈ ts, t.h ≤ n, ⟨B1, KeepBut.refl _ _, [], rfl, rfl, fun t ht => by cases ht⟩, ?_, fun vs σ₂ h => h⟩
      rintro i vs σ₂ C D oC oD hi hCD ⟨B2, K2, ts, rfl, hl, hh⟩ h1 h2
      obtain ⟨g, k', o, hb, hg, hk'⟩ := B2
      obtain ⟨nC, nD, hb⟩ := Store.cut_some hb
      rw [e]
      refine hT d _ _ _ hd ⟨g, k', o, hb, hg, hk'⟩ fun σ3 t ht B3 K3 => ⟨K3 _ _ (Ne.symm nC) h1, K3 _ _ (Ne.symm nD) h2, ?_, ?_, ts ++ [t], by simp, by simp [hl], fun u hu => ?_⟩
      · obtain ⟨g, k', o, hb, r⟩ := B3
        exact ⟨g, k', o, by rw [Store.cut_ne nC nD]; exact hb, r⟩
      · intro a cc ha e1
        obtain ⟨m1, m2, e2⟩ := Store.cut_some (K2 a cc ha e1)
        rw [Store.cut_ne m1 m2]
        exact K3 _ _ ha e2
      · rcases List.mem_append.mp hu with hu | hu
        · exact hh u hu
        · rw [List.mem_singleton.mp hu]; exact ht
    refine WE_comp (fn := ["box", "deep"]) F.brange ?_ ?_ ?_ (by decide +kernel) (by decide +kernel) (by decide +kernel) (by decide +kernel)
    · repeat walk_at "go"
      subst hd'
      refine take_spec F (m := 3) B (by decide) (by decide) fun σ1 k hk B1 K1 => ?_
      obtain ⟨J, J0, Jt, Je⟩ := turn σ1 k B1 hk
      refine ⟨k, rfl, Nat.le_trans (Nat.le_of_lt hk) (by decide), J, J0, fun i vs σ₂ C D oC oD hi hCD hJ h1 h2 => ?_, fun vs σ₂ l o hJ hl => ?_⟩
      · exact CElt_call F.f19.ns F.f19.keep (CA_free (by rfl) (by decide) (by rfl)) (CA_sub (CA_free (by rfl) (by decide) (by rfl))) (Jt i vs σ₂ C D oC oD hi hCD hJ h1 h2)
      · obtain ⟨B2, K2, ts, rfl, hlen, hh⟩ := Je vs σ₂ hJ
        repeat walk_at "go"
        refine GL_tupleOf Store.set_same ?_ (by simp only [List.length_map]; exact Nat.le_trans (Nat.le_of_lt (hlen ▸ hk)) (by decide))
        repeat walk_at "go"
        have B3 := B2.new (c := .list (ts.map Tr.val) o) hl
        have K3 := (K1.trans K2).trans (Keep.new (c := .list (ts.map Tr.val) o) hl).but
        match ts, hlen, hh with
        | [], _, _ => exact q _ .call0 _ (by simp only [Tr.h]; lia) B3 K3
        | [t1], _, hh => exact q _ (.call1 t1) _ (by have := hh t1 (by simp); simp only [Tr.h]; lia) B3 K3
        | [t1, t2], _, hh => exact q _ (.call2 t1 t2) _ (by have := hh t1 (by simp); have := hh t2 (by simp); simp only [Tr.h]; lia) B3 K3
        | _ :: _ :: _ :: _, hlen, _ => exfalso; simp only [List.length_cons] at hlen; lia
    · intro f hf hl
      obtain ⟨a1, h1⟩ := hl "box" (by decide)
      obtain ⟨a2, h2⟩ := hl "deep" (by decide)
      refine ⟨[("deep", a2), ("box", a1)], ?_, ?_⟩
      · unfold closureFor
        simp [cellOf, h1, h2]
      · intro y hy
        rcases List.mem_cons.mp hy with rfl | hy
        · rw [h1]; rfl
        · rw [List.mem_singleton.mp hy, h2]; rfl
    · intro y hy
      rcases List.mem_cons.mp hy with rfl | hy
      · exact ⟨by rfl, _, by rfl⟩
      · rw [List.mem_singleton.mp hy]; exact ⟨by rfl, _, by rfl⟩
  · repeat walk_at "go"
    subst hd'
    rename_i l o hl
    refine take_spec F (m := 2) (B.new hl) (by decide) (by decide) fun σ' j hj B' K' => ?_
    have hl' := K'.cell (B.ne hl) Store.set_same
    have K'' := (Keep.new hl).but.trans K'
    obtain ⟨op, hop⟩ := b2_at hj
    refine G_itemL hl' ?_ (seq_nat hj) hop (by lia) (by lia)
    repeat walk_at "go"
    rw [e]
    refine hT _ _ _ _ hd B' fun σ1 t1 h1 B1 K1 => ?_
    repeat walk_at "go"
    rw [e]
    refine hG _ _ _ _ hd B1 fun σ2 t2 h2 B2 K2 => ?_
    repeat walk_at "go"
    exact q σ2 (.give op t1 t2) _ (by simp only [Tr.h]; lia) B2 ((K''.trans K1).trans K2)
  · repeat walk_at "go"
    subst hd'
    refine take_spec F (m := 5) B (by decide) (by decide) fun σ' j hj B' K' => ?_
    obtain ⟨op, u1, u2, u3, u4⟩ := u5_at hj
    refine G_itemS ?_ u2 u3 u4
    rw [u1]
    repeat walk_at "go"
    rw [e]
    refine hG _ _ _ _ hd B' fun σ1 t1 h1 B1 K1 => ?_
    repeat walk_at "go"
    exact q σ1 (.una op t1) _ (by simp only [Tr.h]; lia) B1 (K'.trans K1)
  · repeat walk_at "go"
    rw [e]
    refine hG _ _ _ _ hd B fun σ1 t1 h1 B1 K1 => ?_
    repeat walk_at "go"
    exact q σ1 (.goal t1) _ (by simp only [Tr.h]; lia) B1 K1
  · repeat walk_at "go"
    rw [e]
    refine hG _ _ _ _ hd B fun σ1 t1 h1 B1 K1 => ?_
    repeat walk_at "go"
    exact q σ1 (.goal t1) _ (by simp only [Tr.h]; lia) B1 K1
end

section
variable {c : Cx} {A : Nat → Addr} (F : Facts c A)
include F
theorem goal_low {d : Nat} {σ : Store} {b : Addr} {n : Nat} {Q : Fl → LEnv → Store → Prop} (B : Box σ b) (q : ∀ σ' (g : Go) ρ, g.h = 0 → Box σ' b → KeepBut b σ σ' → Q (.ret g.val) ρ σ') :
    WS c (d + 1) (scopeAt 20) ((bodyAt 20).drop 1) [("form", .int (0 : Nat)), ("deep", .int (n : Nat)), ("box", .ref b)] σ Q := by
  refine WS_cons ?_
  repeat walk_at "go"
  rename_i l o hl
  refine take_spec F (m := 3) (B.new hl) (by decide) (by decide) fun σ' j hj B' K' => ?_
  have hl' := K'.cell (B.ne hl) Store.set_same
  have K'' := (Keep.new hl).but.trans K'
  have hc : j = 0 ∨ j = 1 ∨ j = 2 := by lia
  rcases hc with rfl | rfl | rfl
  · repeat walk_at "go"
    exact q σ' (.name .A) _ rfl B' K''
  · repeat walk_at "go"
    exact q σ' (.name .B) _ rfl B' K''
  · repeat walk_at "go"
    exact q σ' (.name .X) _ rfl B' K''
theorem goal_high {d : Nat} {σ : Store} {b : Addr} {n i : Nat} (hT : DrawT c A n) (hd : n + 2 ≤ d) {Q : Fl → LEnv → Store → Prop} (B : Box σ b) (hi : 1 ≤ i) (hi' : i < 5) (q : ∀ σ' (g : Go) ρ, g.h ≤ n + 1 → Box σ' b → KeepBut b σ σ' → Q (.ret g.val) ρ σ') :
    WS c d (scopeAt 20) ((bodyAt 20).drop 1) [("form", .int (i : Nat)), ("deep", .int ((n + 1 : Nat) : Int)), ("box", .ref b)] σ Q := by
  have e : ((n + 1 : Nat) : Int) - 1 = (n : Nat) := by lia
  refine WS_cons ?_
  have hc : i = 1 ∨ i = 2 ∨ i = 3 ∨ i = 4 := by lia
  rcases hc with rfl | rfl | rfl | rfl
  · repeat walk_at "go"
    rw [e]
    refine hT d _ _ _ hd B fun σ1 t1 h1 B1 K1 => ?_
    repeat walk_at "go"
    rw [e]
    refine hT d _ _ _ hd B1 fun σ2 t2 h2 B2 K2 => ?_
    repeat walk_at "go"
    exact q σ2 (.item t1 t2) _ (by simp only [Go.h]; lia) B2 (K1.trans K2)
  · repeat walk_at "go"
    rw [e]
    refine hT d _ _ _ hd B fun σ1 t1 h1 B1 K1 => ?_
    repeat walk_at "go"
    exact q σ1 (.ind t1) _ (by simp only [Go.h]; lia) B1 K1
  · repeat walk_at "go"
    exact q σ .key _ (by simp only [Go.h]; lia) B (KeepBut.refl _ _)
  · repeat walk_at "go"
    rw [e]
    refine hT d _ _ _ hd B fun σ1 t1 h1 B1 K1 => ?_
    repeat walk_at "go"
    exact q σ1 (.callG t1) _ (by simp only [Go.h]; lia) B1 K1
theorem draw : ∀ n, DrawT c A n ∧ DrawG c A n
  | 0 => by
    constructor
    · intro d σ b Q hd B q
      obtain ⟨d', rfl⟩ : ∃ d', d = d' + 1 + 1 := ⟨d - 2, by lia⟩
      refine WC_def2c F.f19.toFunAt tree_cells ?_
      refine WS_cons ?_
      repeat walk_at "go"
      refine take_spec F (m := 4) B (by decide) (by decide) fun σ1 i hi B1 K1 => ?_
      refine Seq_next (tree_low F B1 hi fun σ2 t ρ ht B2 K2 => ?_)
      exact q σ2 t (by lia) B2 (K1.trans K2)
    · intro d σ b Q hd B q
      obtain ⟨d', rfl⟩ : ∃ d', d = d' + 1 + 1 := ⟨d - 2, by lia⟩
      refine WC_def F.f20.toFunAt goal_plain rfl ?_
      refine WS_cons ?_
      iterate 9 walk_at "go"
      refine Seq_next ?_
      exact goal_low F B fun σ2 t ρ ht B2 K2 => q σ2 t (by lia) B2 K2
  | n + 1 => by
    obtain ⟨hT, hG⟩ := draw n
    have hpos : ((0 : Int) < ((n + 1 : Nat) : Int)) := by lia
    constructor
    · intro d σ b Q hd B q
      obtain ⟨d', rfl⟩ : ∃ d', d = d' + 1 + 1 := ⟨d - 2, by lia⟩
      refine WC_def2c F.f19.toFunAt tree_cells ?_
      refine WS_cons ?_
      repeat walk_at "go"
      refine Ways.yes (by simp) ?_
      repeat walk_at "go"
      refine take_spec F (m := 12) B (by decide) (by decide) fun σ1 i hi B1 K1 => ?_
      refine Seq_next ?_
      by_cases h4 : i < 4
      · exact tree_low F B1 h4 fun σ2 t ρ ht B2 K2 => q σ2 t (by lia) B2 (K1.trans K2)
      · exact tree_high F hT hG (by lia) B1 (by lia) hi fun σ2 t ρ ht B2 K2 => q σ2 t ht B2 (K1.trans K2)
    · intro d σ b Q hd B q
      obtain ⟨d', rfl⟩ : ∃ d', d = d' + 1 + 1 := ⟨d - 2, by lia⟩
      refine WC_def F.f20.toFunAt goal_plain rfl ?_
      refine WS_cons ?_
      repeat walk_at "go"
      refine Ways.yes (by simp) ?_
      repeat walk_at "go"
      refine take_spec F (m := 5) B (by decide) (by decide) fun σ1 i hi B1 K1 => ?_
      refine Seq_next ?_
      by_cases h4 : i = 0
      · subst h4
        exact goal_low F B1 fun σ2 t ρ ht B2 K2 => q σ2 t (by lia) B2 (K1.trans K2)
      · exact goal_high F hT (by lia) B1 (by lia) hi fun σ2 t ρ ht B2 K2 => q σ2 t ht B2 (K1.trans K2)
end

theorem vo_plain : PlainScope ["tree"] (scopeAt 4) := ⟨by decide +kernel, by decide +kernel, by decide +kernel, by decide +kernel, by decide +kernel⟩
theorem row_plain : PlainScope ["trees"] (scopeAt 5) := ⟨by decide +kernel, by decide +kernel, by decide +kernel, by decide +kernel, by decide +kernel⟩
theorem uo_plain : PlainScope ["op", "tree"] (scopeAt 6) := ⟨by decide +kernel, by decide +kernel, by decide +kernel, by decide +kernel, by decide +kernel⟩
theorem bo_plain : PlainScope ["op", "left", "right"] (scopeAt 7) := ⟨by decide +kernel, by decide +kernel, by decide +kernel, by decide +kernel, by decide +kernel⟩
theorem no_plain : PlainScope ["tree"] (scopeAt 8) := ⟨by decide +kernel, by decide +kernel, by decide +kernel, by decide +kernel, by decide +kernel⟩
/-- a def upon these values gives a new list of these orders -/
noncomputable def Gives (c : Cx) (f : Addr) (n : Nat) (vs : List Val) (os : List Ord) : Prop :=
  ∀ (d : Nat) (σ : Store) (Q : Val → Store → Prop), n ≤ d → os.length ≤ sizeLine → (∀ σ' l, Keep σ σ' → σ l = none → IsL σ' l (os.map Ord.val) → Q (.ref l) σ') → WC c d f vs σ Q
theorem Gives.up {c : Cx} {f : Addr} {n n' : Nat} {vs : List Val} {os : List Ord} (h : Gives c f n vs os) (e : n ≤ n') : Gives c f n' vs os := fun d σ Q hn hz q => h d σ Q (Nat.le_trans e hn) hz q
theorem Gives.succ {c : Cx} {f : Addr} {n : Nat} {vs : List Val} {os : List Ord} (h : ∀ (d : Nat) (σ : Store) (Q : Val → Store → Prop), n ≤ d → os.length ≤ sizeLine → (∀ σ' l, Keep σ σ' → σ l = none → IsL σ' l (os.map Ord.val) → Q (.ref l) σ') → WC c (d + 1) f vs σ Q) : Gives c f (n + 1) vs os := fun d σ Q hn hz q => by
  obtain ⟨d', rfl⟩ : ∃ d', d = d' + 1 := ⟨d - 1, by lia⟩
  exact h d' σ Q (by lia) hz q

section
variable {c : Cx} {A : Nat → Addr} (F : Facts c A)
include F
theorem row_gives {n : Nat} (ts : List (Val × List Ord)) (h : ∀ p ∈ ts, Gives c (A 4) n [p.1] p.2) : Gives c (A 5) (n + 1) [.tup (ts.map (·.1))] (ts.foldl (fun a p => a ++ p.2) []) := by
  refine Gives.succ fun d σ Q hd hz q => ?_
  refine WC_def F.f5.toFunAt row_plain rfl ?_
  refine WS_cons ?_
  repeat walk_at "go"
  rename_i l o h0
  have len : ∀ i, ((ts.take i).foldl (fun a p => a ++ p.2) []).length ≤ (ts.foldl (fun a p => a ++ p.2) []).length := fun i => by
    conv => rhs; rw [← List.take_append_drop i ts, List.foldl_append]
    generalize (ts.take i).foldl (fun a p => a ++ p.2) [] = x
    generalize ts.drop i = r
    induction r generalizing x with
    | nil => exact Nat.le_refl _
    | cons p r ih => exact Nat.le_trans (by simp) (ih (x ++ p.2))
  refine WX_for (WE_name (by rfl) ⟨ts.map (·.1), .inl rfl, fun i ρ σ' => At ρ "found" (.ref l) ∧ IsL σ' l (((ts.take i).foldl (fun a p => a ++ p.2) []).map Ord.val) ∧ Keep σ σ', ⟨by rfl, IsL.set rfl, Keep.new h0⟩, (fun l e => by cases e), ?_, ?_⟩)
  · rintro i u ρ σ₁ hu ⟨hf, ⟨o₁, hl⟩, k₁⟩
    obtain ⟨p, hp, rfl⟩ : ∃ p, ts[i]? = some p ∧ p.1 = u := by simpa using hu
    have hi : i < ts.length := by
      have := List.getElem?_eq_some_iff.mp hp
      exact this.1
    have hstep : (ts.take (i + 1)).foldl (fun a p => a ++ p.2) [] = (ts.take i).foldl (fun a p => a ++ p.2) [] ++ p.2 := by
      rw [List.take_add_one, hp, List.foldl_append]; rfl
    have hlen := len (i + 1)
    rw [hstep, List.length_append] at hlen
    walk_at "go"
    walk_at "go"
    refine WE_methL (by exact hf) hl PySem.F.slot_list_extend ty_extend ?_
    repeat walk_at "go"
    refine h p (List.mem_of_getElem? hp) d _ _ hd (by lia) fun σ₂ l₂ k₂ n₂ ⟨o₂, e₂⟩ => ?_
    repeat walk_at "go"
    refine GL_extend (by walk_at "cell") e₂ (fun o' => ?_) (by simp only [List.length_map]; lia)
    repeat walk_at "go"
    refine ⟨?_, IsL.set ?_, ?_⟩
    · exact hf
    · rw [hstep, List.map_append]
    · walk_at "keep"
  · rintro ρ σ₁ ⟨hf, hl, k₁⟩
    repeat walk_at "go"
    refine WE_name hf ?_
    repeat walk_at "go"
    refine q _ _ k₁ h0 ?_
    simpa using hl
/- name_orders -/
theorem no_name (x : Nm) : Gives c (A 8) 1 [(Go.name x).val] (ng (.name x)) := by
  refine Gives.succ fun d σ Q hd hz q => ?_
  rw [ng] at hz q; rw [Go.val]
  refine WC_def F.f8.toFunAt no_plain rfl ?_
  refine WS_cons ?_
  repeat walk_at "go"
  refine q _ _ (by walk_at "keep") (by walk_at "knone") (IsL.set ?_)
  walk_at "ords"
theorem no_key : Gives c (A 8) 1 [Go.key.val] (ng .key) := by
  refine Gives.succ fun d σ Q hd hz q => ?_
  rw [ng] at hz q; rw [Go.val]
  refine WC_def F.f8.toFunAt no_plain rfl ?_
  refine WS_cons ?_
  repeat walk_at "go"
  refine q _ _ (by walk_at "keep") (by walk_at "knone") (IsL.set ?_)
  walk_at "ords"
theorem no_ind {a : Tr} {n : Nat} (ha : Gives c (A 4) n [a.val] (vo a)) : Gives c (A 8) (n + 1) [(Go.ind a).val] (ng (.ind a)) := by
  refine Gives.succ fun d σ Q hd hz q => ?_
  rw [ng] at hz q; rw [Go.val]
  refine WC_def F.f8.toFunAt no_plain rfl ?_
  refine WS_cons ?_
  repeat walk_at "go"
  refine ha d _ _ hd (by walk_at "size") fun σ₁ l₁ k₁ n₁ ⟨o₁, e₁⟩ => ?_
  repeat walk_at "go"
  refine q _ _ (by walk_at "keep") (by walk_at "knone") (IsL.set ?_)
  walk_at "ords"
theorem no_callG {a : Tr} {n : Nat} (ha : Gives c (A 4) n [a.val] (vo a)) : Gives c (A 8) (n + 2) [(Go.callG a).val] (ng (.callG a)) := by
  refine Gives.succ fun d σ Q hd hz q => ?_
  rw [ng] at hz q; rw [Go.val]
  refine WC_def F.f8.toFunAt no_plain rfl ?_
  refine WS_cons ?_
  repeat walk_at "go"
  refine row_gives F [(a.val, vo a)] (fun p hp => by rw [List.mem_singleton.mp hp]; exact ha) d _ _ hd (by simp only [List.foldl_cons, List.foldl_nil]; walk_at "size") fun σ₁ l₁ k₁ n₁ ⟨o₁, e₁⟩ => ?_
  simp only [List.foldl_cons, List.foldl_nil] at e₁
  repeat walk_at "go"
  refine q _ _ (by walk_at "keep") (by walk_at "knone") (IsL.set ?_)
  walk_at "ords"; rfl
theorem no_item {a b : Tr} {n : Nat} (ha : Gives c (A 4) n [a.val] (vo a)) (hb : Gives c (A 4) n [b.val] (vo b)) : Gives c (A 8) (n + 2) [(Go.item a b).val] (ng (.item a b)) := by
  refine Gives.succ fun d σ Q hd hz q => ?_
  rw [ng] at hz q; rw [Go.val]
  refine WC_def F.f8.toFunAt no_plain rfl ?_
  refine WS_cons ?_
  repeat walk_at "go"
  refine ha d _ _ (by lia) (by walk_at "size") fun σ₁ l₁ k₁ n₁ ⟨o₁, e₁⟩ => ?_
  repeat walk_at "go"
  refine row_gives F [(b.val, vo b)] (fun p hp => by rw [List.mem_singleton.mp hp]; exact hb) d _ _ hd (by simp only [List.foldl_cons, List.foldl_nil]; walk_at "size") fun σ₂ l₂ k₂ n₂ ⟨o₂, e₂⟩ => ?_
  simp only [List.foldl_cons, List.foldl_nil] at e₂
  repeat walk_at "go"
  refine q _ _ (by walk_at "keep") (by walk_at "knone") (IsL.set ?_)
  walk_at "ords"; rfl
/- unary_orders -/
theorem uo_ind {a : Tr} {n : Nat} (ha : Gives c (A 4) n [a.val] (vo a)) : Gives c (A 6) (n + 1) [.str "$", a.val] (vo a ++ [.indirect, .value]) := by
  refine Gives.succ fun d σ Q hd hz q => ?_
  refine WC_def F.f6.toFunAt uo_plain rfl ?_
  refine WS_cons ?_
  repeat walk_at "go"
  refine ha d _ _ hd (by walk_at "size") fun σ₁ l₁ k₁ n₁ ⟨o₁, e₁⟩ => ?_
  repeat walk_at "go"
  refine q _ _ (by walk_at "keep") (by walk_at "knone") (IsL.set ?_)
  walk_at "ords"
theorem uo_key : Gives c (A 6) 2 [.str "&", .tup [.str "name", .str "K"]] (ng .key ++ [.value]) := by
  refine Gives.succ fun d σ Q hd hz q => ?_
  refine WC_def F.f6.toFunAt uo_plain rfl ?_
  refine WS_cons ?_
  repeat walk_at "go"
  have hk := no_key F
  rw [Go.val] at hk
  refine hk d _ _ hd (by walk_at "size") fun σ₁ l₁ k₁ n₁ ⟨o₁, e₁⟩ => ?_
  repeat walk_at "go"
  refine q _ _ (by walk_at "keep") (by walk_at "knone") (IsL.set ?_)
  walk_at "ords"
theorem uo_neg {g : Go} {n : Nat} (ha : Gives c (A 4) n [g.val] (vg g)) : Gives c (A 6) (n + 1) [.str U5.neg.s, g.val] (vo (.una .neg g)) := by
  refine Gives.succ fun d σ Q hd hz q => ?_
  rw [vo] at hz q; simp only [U5.s]
  refine WC_def F.f6.toFunAt uo_plain rfl ?_
  refine WS_cons ?_
  repeat walk_at "go"
  refine ha d _ _ hd (by walk_at "size") fun σ₁ l₁ k₁ n₁ ⟨o₁, e₁⟩ => ?_
  repeat walk_at "go"
  refine q _ _ (by walk_at "keep") (by walk_at "knone") (IsL.set ?_)
  walk_at "ords"
theorem uo_ask {g : Go} {n : Nat} (ha : Gives c (A 4) n [g.val] (vg g)) : Gives c (A 6) (n + 1) [.str U5.ask.s, g.val] (vo (.una .ask g)) := by
  refine Gives.succ fun d σ Q hd hz q => ?_
  rw [vo] at hz q; simp only [U5.s]
  refine WC_def F.f6.toFunAt uo_plain rfl ?_
  refine WS_cons ?_
  repeat walk_at "go"
  refine ha d _ _ hd (by walk_at "size") fun σ₁ l₁ k₁ n₁ ⟨o₁, e₁⟩ => ?_
  repeat walk_at "go"
  refine q _ _ (by walk_at "keep") (by walk_at "knone") (IsL.set ?_)
  walk_at "ords"
theorem uo_cur {g : Go} {n : Nat} (ha : Gives c (A 8) n [g.val] (ng g)) : Gives c (A 6) (n + 1) [.str U5.cur.s, g.val] (vo (.una .cur g)) := by
  refine Gives.succ fun d σ Q hd hz q => ?_
  rw [vo] at hz q; simp only [U5.s]
  refine WC_def F.f6.toFunAt uo_plain rfl ?_
  refine WS_cons ?_
  repeat walk_at "go"
  refine ha d _ _ hd (by walk_at "size") fun σ₁ l₁ k₁ n₁ ⟨o₁, e₁⟩ => ?_
  repeat walk_at "go"
  refine q _ _ (by walk_at "keep") (by walk_at "knone") (IsL.set ?_)
  walk_at "ords"
theorem uo_del (g : Go) : Gives c (A 6) 1 [.str U5.del.s, g.val] (vo (.una .del g)) := by
  refine Gives.succ fun d σ Q hd hz q => ?_
  rw [vo] at hz q; simp only [U5.s]
  refine WC_def F.f6.toFunAt uo_plain rfl ?_
  refine WS_cons ?_
  repeat walk_at "go"
  refine q _ _ (by walk_at "keep") (by walk_at "knone") (IsL.set ?_)
  walk_at "ords"
theorem uo_not {g : Go} {n : Nat} (ha : Gives c (A 4) n [g.val] (vg g)) : Gives c (A 6) (n + 1) [.str U5.not.s, g.val] (vo (.una .not g)) := by
  refine Gives.succ fun d σ Q hd hz q => ?_
  rw [vo] at hz q; simp only [U5.s]
  refine WC_def F.f6.toFunAt uo_plain rfl ?_
  refine WS_cons ?_
  repeat walk_at "go"
  refine ha d _ _ hd (by walk_at "size") fun σ₁ l₁ k₁ n₁ ⟨o₁, e₁⟩ => ?_
  repeat walk_at "go"
  refine q _ _ (by walk_at "keep") (by walk_at "knone") (IsL.set ?_)
  walk_at "ords"; simp only [List.length_map]; rfl
/- binary_orders -/
theorem bo_give {l : Tr} {g : Go} {op : B2} {n : Nat} (hl : Gives c (A 4) n [l.val] (vo l)) (hg : Gives c (A 8) n [g.val] (ng g)) : Gives c (A 7) (n + 1) [.str op.s, l.val, g.val] (vo (.give op l g)) := by
  refine Gives.succ fun d σ Q hd hz q => ?_
  rw [vo] at hz q
  cases op <;> simp only [B2.s] at q ⊢
  all_goals
    refine WC_def F.f7.toFunAt bo_plain rfl ?_
    refine WS_cons ?_
    repeat walk_at "go"
    refine hl d _ _ hd (by walk_at "size") fun σ₁ l₁ k₁ n₁ ⟨o₁, e₁⟩ => ?_
    repeat walk_at "go"
    refine hg d _ _ hd (by walk_at "size") fun σ₂ l₂ k₂ n₂ ⟨o₂, e₂⟩ => ?_
    repeat walk_at "go"
    refine q _ _ (by walk_at "keep") (by walk_at "knone") (IsL.set ?_)
    walk_at "ords"
    try rfl
theorem bo_bin {l r : Tr} {op : B3} {n : Nat} (hl : Gives c (A 4) n [l.val] (vo l)) (hr : Gives c (A 4) n [r.val] (vo r)) : Gives c (A 7) (n + 1) [.str op.s, l.val, r.val] (vo (.bin op l r)) := by
  refine Gives.succ fun d σ Q hd hz q => ?_
  rw [vo] at hz q
  cases op <;> simp only [B3.s] at q ⊢
  all_goals
    refine WC_def F.f7.toFunAt bo_plain rfl ?_
    refine WS_cons ?_
    repeat walk_at "go"
    refine hl d _ _ hd (by walk_at "size") fun σ₁ l₁ k₁ n₁ ⟨o₁, e₁⟩ => ?_
    repeat walk_at "go"
    refine hr d _ _ hd (by walk_at "size") fun σ₂ l₂ k₂ n₂ ⟨o₂, e₂⟩ => ?_
    repeat walk_at "go"
    refine q _ _ (by walk_at "keep") (by walk_at "knone") (IsL.set ?_)
    walk_at "ords"
    try rfl
end

section
variable {c : Cx} {A : Nat → Addr} (F : Facts c A)
include F
theorem v_name (x : Nm) : Gives c (A 4) 1 [(Tr.name x).val] (vo (.name x)) := by
  refine Gives.succ fun d σ Q hd hz q => ?_
  rw [vo] at hz q; rw [Tr.val]
  refine WC_def F.f4.toFunAt vo_plain rfl ?_
  refine WS_cons ?_
  repeat walk_at "go"
  refine q _ _ (by walk_at "keep") (by walk_at "knone") (IsL.set ?_)
  walk_at "ords"; try rfl
theorem v_whole (n : Fin 10) : Gives c (A 4) 1 [(Tr.whole n).val] (vo (.whole n)) := by
  refine Gives.succ fun d σ Q hd hz q => ?_
  rw [vo] at hz q; rw [Tr.val]
  refine WC_def F.f4.toFunAt vo_plain rfl ?_
  refine WS_cons ?_
  repeat walk_at "go"
  refine q _ _ (by walk_at "keep") (by walk_at "knone") (IsL.set ?_)
  walk_at "ords"; try rfl
theorem v_text  : Gives c (A 4) 1 [Tr.text.val] (vo .text) := by
  refine Gives.succ fun d σ Q hd hz q => ?_
  rw [vo] at hz q; rw [Tr.val]
  refine WC_def F.f4.toFunAt vo_plain rfl ?_
  refine WS_cons ?_
  repeat walk_at "go"
  refine q _ _ (by walk_at "keep") (by walk_at "knone") (IsL.set ?_)
  walk_at "ords"; try rfl
theorem v_null  : Gives c (A 4) 1 [Tr.null.val] (vo .null) := by
  refine Gives.succ fun d σ Q hd hz q => ?_
  rw [vo] at hz q; rw [Tr.val]
  refine WC_def F.f4.toFunAt vo_plain rfl ?_
  refine WS_cons ?_
  repeat walk_at "go"
  refine q _ _ (by walk_at "keep") (by walk_at "knone") (IsL.set ?_)
  walk_at "ords"; try rfl
theorem v_join {l r : Tr} {n : Nat} (hl : Gives c (A 4) n [l.val] (vo l)) (hr : Gives c (A 4) n [r.val] (vo r)) : Gives c (A 4) (n + 1) [(Tr.join l r).val] (vo (.join l r)) := by
  refine Gives.succ fun d σ Q hd hz q => ?_
  rw [vo] at hz q; rw [Tr.val]
  refine WC_def F.f4.toFunAt vo_plain rfl ?_
  refine WS_cons ?_
  repeat walk_at "go"
  refine hl d _ _ (by lia) (by walk_at "size") fun σ1 l1 k1 n1 ⟨o1, e1⟩ => ?_
  repeat walk_at "go"
  refine hr d _ _ (by lia) (by walk_at "size") fun σ2 l2 k2 n2 ⟨o2, e2⟩ => ?_
  repeat walk_at "go"
  refine q _ _ (by walk_at "keep") (by walk_at "knone") (IsL.set ?_)
  walk_at "ords"; try rfl
theorem v_bin {l r : Tr} {op : B3} {n : Nat} (hl : Gives c (A 4) n [l.val] (vo l)) (hr : Gives c (A 4) n [r.val] (vo r)) : Gives c (A 4) (n + 2) [(Tr.bin op l r).val] (vo (.bin op l r)) := by
  refine Gives.succ fun d σ Q hd hz q => ?_
  rw [Tr.val]
  refine WC_def F.f4.toFunAt vo_plain rfl ?_
  refine WS_cons ?_
  repeat walk_at "go"
  refine bo_bin F hl hr d _ _ hd hz fun σ₁ l₁ k₁ n₁ h₁ => ?_
  repeat walk_at "go"
  exact q _ _ k₁ n₁ h₁
theorem v_give {l : Tr} {g : Go} {op : B2} {n : Nat} (hl : Gives c (A 4) n [l.val] (vo l)) (hg : Gives c (A 8) n [g.val] (ng g)) : Gives c (A 4) (n + 2) [(Tr.give op l g).val] (vo (.give op l g)) := by
  refine Gives.succ fun d σ Q hd hz q => ?_
  rw [Tr.val]
  refine WC_def F.f4.toFunAt vo_plain rfl ?_
  refine WS_cons ?_
  repeat walk_at "go"
  refine bo_give F hl hg d _ _ hd hz fun σ₁ l₁ k₁ n₁ h₁ => ?_
  repeat walk_at "go"
  exact q _ _ k₁ n₁ h₁
theorem v_una {g : Go} {op : U5} {n : Nat} (hg : Gives c (A 6) n [.str op.s, g.val] (vo (.una op g))) : Gives c (A 4) (n + 1) [(Tr.una op g).val] (vo (.una op g)) := by
  refine Gives.succ fun d σ Q hd hz q => ?_
  rw [Tr.val]
  refine WC_def F.f4.toFunAt vo_plain rfl ?_
  refine WS_cons ?_
  repeat walk_at "go"
  refine hg d _ _ hd hz fun σ₁ l₁ k₁ n₁ h₁ => ?_
  repeat walk_at "go"
  exact q _ _ k₁ n₁ h₁
theorem v_ind {a : Tr} {n : Nat} (ha : Gives c (A 4) n [a.val] (vo a)) : Gives c (A 4) (n + 2) [(Go.ind a).val] (vg (.ind a)) := by
  refine Gives.succ fun d σ Q hd hz q => ?_
  rw [Go.val]
  rw [vg] at hz q
  refine WC_def F.f4.toFunAt vo_plain rfl ?_
  refine WS_cons ?_
  repeat walk_at "go"
  refine uo_ind F ha d _ _ hd hz fun σ₁ l₁ k₁ n₁ h₁ => ?_
  repeat walk_at "go"
  exact q _ _ k₁ n₁ h₁
theorem v_key : Gives c (A 4) 3 [Go.key.val] (vg .key) := by
  refine Gives.succ fun d σ Q hd hz q => ?_
  rw [Go.val]
  rw [vg] at hz q
  refine WC_def F.f4.toFunAt vo_plain rfl ?_
  refine WS_cons ?_
  repeat walk_at "go"
  refine uo_key F d _ _ hd hz fun σ₁ l₁ k₁ n₁ h₁ => ?_
  repeat walk_at "go"
  exact q _ _ k₁ n₁ h₁
theorem v_gname (x : Nm) : Gives c (A 4) 1 [(Go.name x).val] (vg (.name x)) := by
  refine Gives.succ fun d σ Q hd hz q => ?_
  rw [vg] at hz q; rw [Go.val]
  refine WC_def F.f4.toFunAt vo_plain rfl ?_
  refine WS_cons ?_
  repeat walk_at "go"
  refine q _ _ (by walk_at "keep") (by walk_at "knone") (IsL.set ?_)
  walk_at "ords"; try rfl
theorem v_callG {a : Tr} {n : Nat} (ha : Gives c (A 4) n [a.val] (vo a)) : Gives c (A 4) (n + 2) [(Go.callG a).val] (vg (.callG a)) := by
  refine Gives.succ fun d σ Q hd hz q => ?_
  rw [vg] at hz q; rw [Go.val]
  refine WC_def F.f4.toFunAt vo_plain rfl ?_
  refine WS_cons ?_
  repeat walk_at "go"
  refine row_gives F [(a.val, vo a)] (fun p hp => by rw [List.mem_singleton.mp hp]; exact ha) d _ _ (by lia) (by simp only [List.foldl_cons, List.foldl_nil]; walk_at "size") fun σ1 l1 k1 n1 ⟨o1, e1⟩ => ?_
  simp only [List.foldl_cons, List.foldl_nil] at e1
  repeat walk_at "go"
  refine q _ _ (by walk_at "keep") (by walk_at "knone") (IsL.set ?_)
  walk_at "ords"; try rfl
theorem v_item {a b : Tr} {n : Nat} (ha : Gives c (A 4) n [a.val] (vo a)) (hb : Gives c (A 4) n [b.val] (vo b)) : Gives c (A 4) (n + 2) [(Go.item a b).val] (vg (.item a b)) := by
  refine Gives.succ fun d σ Q hd hz q => ?_
  rw [vg] at hz q; rw [Go.val]
  refine WC_def F.f4.toFunAt vo_plain rfl ?_
  refine WS_cons ?_
  repeat walk_at "go"
  refine ha d _ _ (by lia) (by walk_at "size") fun σ1 l1 k1 n1 ⟨o1, e1⟩ => ?_
  repeat walk_at "go"
  refine row_gives F [(b.val, vo b)] (fun p hp => by rw [List.mem_singleton.mp hp]; exact hb) d _ _ (by lia) (by simp only [List.foldl_cons, List.foldl_nil]; walk_at "size") fun σ2 l2 k2 n2 ⟨o2, e2⟩ => ?_
  simp only [List.foldl_cons, List.foldl_nil] at e2
  repeat walk_at "go"
  refine q _ _ (by walk_at "keep") (by walk_at "knone") (IsL.set ?_)
  walk_at "ords"; try rfl
theorem v_call0  : Gives c (A 4) 2 [Tr.call0.val] (vo .call0) := by
  refine Gives.succ fun d σ Q hd hz q => ?_
  rw [vo] at hz q; rw [Tr.val]
  refine WC_def F.f4.toFunAt vo_plain rfl ?_
  refine WS_cons ?_
  repeat walk_at "go"
  refine row_gives F [] (n := 0) (fun p hp => by cases hp) d _ _ (by lia) (by simp only [List.foldl_cons, List.foldl_nil]; walk_at "size") fun σ1 l1 k1 n1 ⟨o1, e1⟩ => ?_
  simp only [List.foldl_cons, List.foldl_nil] at e1
  repeat walk_at "go"
  refine q _ _ (by walk_at "keep") (by walk_at "knone") (IsL.set ?_)
  walk_at "ords"; try rfl
theorem v_call1 {a : Tr} {n : Nat} (ha : Gives c (A 4) n [a.val] (vo a)) : Gives c (A 4) (n + 2) [(Tr.call1 a).val] (vo (.call1 a)) := by
  refine Gives.succ fun d σ Q hd hz q => ?_
  rw [vo] at hz q; rw [Tr.val]
  refine WC_def F.f4.toFunAt vo_plain rfl ?_
  refine WS_cons ?_
  repeat walk_at "go"
  refine row_gives F [(a.val, vo a)] (fun p hp => by rw [List.mem_singleton.mp hp]; exact ha) d _ _ (by lia) (by simp only [List.foldl_cons, List.foldl_nil]; walk_at "size") fun σ1 l1 k1 n1 ⟨o1, e1⟩ => ?_
  simp only [List.foldl_cons, List.foldl_nil] at e1
  repeat walk_at "go"
  refine q _ _ (by walk_at "keep") (by walk_at "knone") (IsL.set ?_)
  walk_at "ords"; try rfl
theorem v_call2 {a b : Tr} {n : Nat} (ha : Gives c (A 4) n [a.val] (vo a)) (hb : Gives c (A 4) n [b.val] (vo b)) : Gives c (A 4) (n + 2) [(Tr.call2 a b).val] (vo (.call2 a b)) := by
  refine Gives.succ fun d σ Q hd hz q => ?_
  rw [vo] at hz q; rw [Tr.val]
  refine WC_def F.f4.toFunAt vo_plain rfl ?_
  refine WS_cons ?_
  repeat walk_at "go"
  refine row_gives F [(a.val, vo a), (b.val, vo b)] (fun p hp => by rcases List.mem_cons.mp hp with rfl | hp; exact ha; rw [List.mem_singleton.mp hp]; exact hb) d _ _ (by lia) (by simp only [List.foldl_cons, List.foldl_nil]; walk_at "size") fun σ1 l1 k1 n1 ⟨o1, e1⟩ => ?_
  simp only [List.foldl_cons, List.foldl_nil] at e1
  repeat walk_at "go"
  refine q _ _ (by walk_at "keep") (by walk_at "knone") (IsL.set ?_)
  walk_at "ords"; try rfl
end

section
variable {c : Cx} {A : Nat → Addr} (F : Facts c A)
include F
mutual
theorem gives_t : ∀ t : Tr, Gives c (A 4) (3 * t.h + 3) [t.val] (vo t)
  | .name x => (v_name F x).up (by lia)
  | .whole n => (v_whole F n).up (by lia)
  | .text => (v_text F).up (by lia)
  | .null => (v_null F).up (by lia)
  | .join l r => (v_join F ((gives_t l).up (n' := 3 * max l.h r.h + 3) (by lia)) ((gives_t r).up (by lia))).up (by simp only [Tr.h]; lia)
  | .bin op l r => (v_bin F ((gives_t l).up (n' := 3 * max l.h r.h + 3) (by lia)) ((gives_t r).up (by lia))).up (by simp only [Tr.h]; lia)
  | .call0 => (v_call0 F).up (by lia)
  | .call1 a => (v_call1 F (gives_t a)).up (by simp only [Tr.h]; lia)
  | .call2 a b => (v_call2 F ((gives_t a).up (n' := 3 * max a.h b.h + 3) (by lia)) ((gives_t b).up (by lia))).up (by simp only [Tr.h]; lia)
  | .give op l g => (v_give F ((gives_t l).up (n' := 3 * max l.h g.h + 3) (by lia)) ((gives_g g).2.up (by lia))).up (by simp only [Tr.h]; lia)
  | .una .not g => (v_una F (uo_not F (gives_g g).1)).up (by simp only [Tr.h]; lia)
  | .una .ask g => (v_una F (uo_ask F (gives_g g).1)).up (by simp only [Tr.h]; lia)
  | .una .neg g => (v_una F (uo_neg F (gives_g g).1)).up (by simp only [Tr.h]; lia)
  | .una .del g => (v_una F (uo_del F g)).up (by simp only [Tr.h]; lia)
  | .una .cur g => (v_una F (uo_cur F (gives_g g).2)).up (by simp only [Tr.h]; lia)
  | .goal g => by
    have h := (gives_g g).1.up (n' := 3 * (Tr.goal g).h + 3) (by simp only [Tr.h]; lia)
    rw [Tr.val, vo]; exact h
theorem gives_g : ∀ g : Go, Gives c (A 4) (3 * g.h + 3) [g.val] (vg g) ∧ Gives c (A 8) (3 * g.h + 3) [g.val] (ng g)
  | .item a b => ⟨(v_item F ((gives_t a).up (n' := 3 * max a.h b.h + 3) (by lia)) ((gives_t b).up (by lia))).up (by simp only [Go.h]; lia), (no_item F ((gives_t a).up (n' := 3 * max a.h b.h + 3) (by lia)) ((gives_t b).up (by lia))).up (by simp only [Go.h]; lia)⟩
  | .ind a => ⟨(v_ind F (gives_t a)).up (by simp only [Go.h]; lia), (no_ind F (gives_t a)).up (by simp only [Go.h]; lia)⟩
  | .key => ⟨(v_key F).up (by lia), (no_key F).up (by lia)⟩
  | .callG a => ⟨(v_callG F (gives_t a)).up (by simp only [Go.h]; lia), (no_callG F (gives_t a)).up (by simp only [Go.h]; lia)⟩
  | .name x => ⟨(v_gname F x).up (by lia), (no_name F x).up (by lia)⟩
end
end

/- notes upon the store -/
inductive NoteV (M : List Addr) (σ : Store) : Val → Note → Prop
  | read (x : Nm) : NoteV M σ (.tup [.str "read", .str x.s]) (.read x)
  | value (s : Str) : NoteV M σ (.tup [.str "value", .str s]) (.value s)
  | call {k nm : Str} {l : Addr} {args : List Str} {b : Bool} : l ∉ M → IsL σ l (args.map Val.str) → NoteV M σ (.tup [.str k, .str nm, .ref l, .bool b]) (.call k nm args b)
  | done {w : Str} {l : Addr} {args : List Str} : l ∉ M → IsL σ l (args.map Val.str) → NoteV M σ (.tup [.str w, .ref l]) (.done w args)
inductive NotesV (M : List Addr) (σ : Store) : List Val → List Note → Prop
  | nil : NotesV M σ [] []
  | cons {v : Val} {x : Note} {vs : List Val} {ns : List Note} : NoteV M σ v x → NotesV M σ vs ns → NotesV M σ (v :: vs) (x :: ns)
noncomputable def Live (M : List Addr) (σ : Store) : Prop := ∀ a ∈ M, σ a ≠ none
noncomputable def KeepOut (M : List Addr) (σ σ' : Store) : Prop := ∀ a c, a ∉ M → σ a = some c → σ' a = some c
theorem IsL.out {M : List Addr} {σ σ' : Store} {l : Addr} {vs : List Val} (h : IsL σ l vs) (k : KeepOut M σ σ') (hl : l ∉ M) : IsL σ' l vs := let ⟨o, e⟩ := h; ⟨o, k _ _ hl e⟩
theorem NoteV.out {M : List Addr} {σ σ' : Store} (k : KeepOut M σ σ') {v : Val} {x : Note} (h : NoteV M σ v x) : NoteV M σ' v x := by
  cases h with
  | read x => exact .read x
  | value s => exact .value s
  | call a b => exact .call a (b.out k a)
  | done a b => exact .done a (b.out k a)
theorem NotesV.out {M : List Addr} {σ σ' : Store} (k : KeepOut M σ σ') : ∀ {vs : List Val} {ns : List Note}, NotesV M σ vs ns → NotesV M σ' vs ns
  | _, _, .nil => .nil
  | _, _, .cons a b => .cons (a.out k) (NotesV.out k b)
theorem NotesV.length {M : List Addr} {σ : Store} : ∀ {vs : List Val} {ns : List Note}, NotesV M σ vs ns → vs.length = ns.length
  | _, _, .nil => rfl
  | _, _, .cons _ b => by simp [NotesV.length b]
theorem NotesV.snoc {M : List Addr} {σ : Store} {v : Val} {x : Note} (h : NoteV M σ v x) : ∀ {vs : List Val} {ns : List Note}, NotesV M σ vs ns → NotesV M σ (vs ++ [v]) (ns ++ [x])
  | _, _, .nil => .cons h .nil
  | _, _, .cons a b => .cons a (NotesV.snoc h b)
noncomputable def NotesAt (M : List Addr) (σ : Store) (n : Addr) (ns : List Note) : Prop := ∃ vs o, σ n = some (.list vs o) ∧ NotesV M σ vs ns
theorem Keep.out {M : List Addr} {σ σ' : Store} (k : Keep σ σ') : KeepOut M σ σ' := fun a c _ e => k a c e
theorem KeepBut.out {M : List Addr} {n : Addr} {σ σ' : Store} (k : KeepBut n σ σ') (h : n ∈ M) : KeepOut M σ σ' := fun a c ha e => k a c (fun q => ha (q ▸ h)) e
theorem KeepOut.trans {M : List Addr} {σ₁ σ₂ σ₃ : Store} (h : KeepOut M σ₁ σ₂) (k : KeepOut M σ₂ σ₃) : KeepOut M σ₁ σ₃ := fun a c q e => k a c q (h a c q e)
theorem KeepOut.refl (M : List Addr) (σ : Store) : KeepOut M σ σ := fun _ _ _ e => e
theorem KeepOut.set {M : List Addr} {σ : Store} {a : Addr} {c : Cell} (h : a ∈ M) : KeepOut M σ (σ.set a c) := fun b x hb e => by
  rw [Store.set_ne (fun q => hb (by rw [q]; exact h))]; exact e
theorem NotesAt.keep {M : List Addr} {σ σ' : Store} {n : Addr} {ns : List Note} (N : NotesAt M σ n ns) (k : Keep σ σ') : NotesAt M σ' n ns := let ⟨vs, o, e, h⟩ := N; ⟨vs, o, k _ _ e, h.out k.out⟩
theorem NotesAt.out {M : List Addr} {σ σ' : Store} {n : Addr} {ns : List Note} (N : NotesAt M σ n ns) (k : KeepOut M σ σ') (e : σ' n = σ n) : NotesAt M σ' n ns := let ⟨vs, o, e', h⟩ := N; ⟨vs, o, e.trans e', h.out k⟩
theorem NotesAt.put {M : List Addr} {σ : Store} {n : Addr} {ns : List Note} {vs : List Val} {v : Val} {x : Note} {o' : Obj} (hM : n ∈ M) (h : NotesV M σ vs ns) (hv : NoteV M σ v x) : NotesAt M (σ.set n (.list (vs ++ [v]) o')) n (ns ++ [x]) :=
  ⟨_, o', Store.set_same, (h.snoc hv).out (KeepOut.set hM)⟩
theorem Live.keep {M : List Addr} {σ σ' : Store} (h : Live M σ) (k : Keep σ σ') : Live M σ' := fun a ha e => by
  cases q : σ a with
  | none => exact h a ha q
  | some c => rw [k a c q] at e; cases e
theorem Live.step {M : List Addr} {σ σ' : Store} {n : Addr} {ns : List Note} (h : Live M σ) (k : KeepBut n σ σ') (N : NotesAt M σ' n ns) : Live M σ' := fun a ha e => by
  by_cases hn : a = n
  · obtain ⟨vs, o, q, _⟩ := N
    rw [hn, q] at e; cases e
  · cases q : σ a with
    | none => exact h a ha q
    | some c => rw [k a c hn q] at e; cases e
theorem Live.off {M : List Addr} {σ : Store} (h : Live M σ) {l : Addr} (e : σ l = none) : l ∉ M := fun q => h l q e
noncomputable def optV : Option Str → Val
  | none => .none
  | some s => .str s
/-- a def of the law reads a tree: a value, and notes -/
noncomputable def Rds (c : Cx) (fa : Addr) (k : Nat) (pre post : List Val) (W : Nat) (r : Rv) : Prop :=
  ∀ (d : Nat) (σ : Store) (M : List Addr) (n : Addr) (ns : List Note) (Q : Val → Store → Prop), k ≤ d → n ∈ M → Live M σ → NotesAt M σ n ns → ns.length + W ≤ 1000000 →
    (∀ σ', KeepBut n σ σ' → NotesAt M σ' n (ns ++ r.1) → Q (optV r.2) σ') → WC c d fa (pre ++ .ref n :: post) σ Q
theorem Rds.up {c : Cx} {fa : Addr} {k k' : Nat} {pre post : List Val} {W W' : Nat} {r : Rv} (h : Rds c fa k pre post W r) (e : k ≤ k') (e' : W ≤ W') : Rds c fa k' pre post W' r := fun d σ M n ns Q hd hM hL N hz q => h d σ M n ns Q (Nat.le_trans e hd) hM hL N (by lia) q
theorem Rds.succ {c : Cx} {fa : Addr} {k : Nat} {pre post : List Val} {W : Nat} {r : Rv} (h : ∀ (d : Nat) (σ : Store) (M : List Addr) (n : Addr) (ns : List Note) (Q : Val → Store → Prop), k ≤ d → n ∈ M → Live M σ → NotesAt M σ n ns → ns.length + W ≤ 1000000 →
    (∀ σ', KeepBut n σ σ' → NotesAt M σ' n (ns ++ r.1) → Q (optV r.2) σ') → WC c (d + 1) fa (pre ++ .ref n :: post) σ Q) : Rds c fa (k + 1) pre post W r := fun d σ M n ns Q hd hM hL N hz q => by
  obtain ⟨d', rfl⟩ : ∃ d', d = d' + 1 := ⟨d - 1, by lia⟩
  exact h d' σ M n ns Q (by lia) hM hL N hz q
theorem Rds.use {c : Cx} {fa : Addr} {k : Nat} {pre post : List Val} {W : Nat} {r : Rv} (h : Rds c fa k pre post W r) {d : Nat} {σ : Store} {M : List Addr} {n : Addr} {ns : List Note} {Q : Val → Store → Prop} (hd : k ≤ d) (hM : n ∈ M) (hL : Live M σ) (N : NotesAt M σ n ns) (hz : ns.length + W ≤ 1000000)
    (qn : ∀ σ', KeepBut n σ σ' → NotesAt M σ' n (ns ++ r.1) → r.2 = none → Q .none σ') (qs : ∀ σ' s, KeepBut n σ σ' → NotesAt M σ' n (ns ++ r.1) → r.2 = some s → Q (.str s) σ') : WC c d fa (pre ++ .ref n :: post) σ Q := h d σ M n ns Q hd hM hL N hz fun σ' K N' => by
  cases e : r.2 with
  | none => exact qn σ' K N' e
  | some s => exact qs σ' s K N' e
mutual
theorem deep_t (σ : Store) : ∀ t : Tr, Deep σ t.val t.data
  | .name _ => .tup (.cons (.str _) (.cons (.str _) .nil))
  | .whole _ => .tup (.cons (.str _) (.cons (.int _) .nil))
  | .text => .tup (.cons (.str _) (.cons (.str _) .nil))
  | .null => .tup (.cons (.str _) .nil)
  | .join l r => .tup (.cons (.str _) (.cons (deep_t σ l) (.cons (deep_t σ r) .nil)))
  | .bin op l r => .tup (.cons (.str _) (.cons (.str _) (.cons (deep_t σ l) (.cons (deep_t σ r) .nil))))
  | .call0 => .tup (.cons (.str _) (.cons (.str _) (.cons (.tup .nil) .nil)))
  | .call1 a => .tup (.cons (.str _) (.cons (.str _) (.cons (.tup (.cons (deep_t σ a) .nil)) .nil)))
  | .call2 a b => .tup (.cons (.str _) (.cons (.str _) (.cons (.tup (.cons (deep_t σ a) (.cons (deep_t σ b) .nil))) .nil)))
  | .give op l g => .tup (.cons (.str _) (.cons (.str _) (.cons (deep_t σ l) (.cons (deep_g σ g) .nil))))
  | .una op g => .tup (.cons (.str _) (.cons (.str _) (.cons (deep_g σ g) .nil)))
  | .goal g => by rw [Tr.val, Tr.data]; exact deep_g σ g
theorem deep_g (σ : Store) : ∀ g : Go, Deep σ g.val g.data
  | .item a b => .tup (.cons (.str _) (.cons (deep_t σ a) (.cons (.tup (.cons (deep_t σ b) .nil)) .nil)))
  | .ind a => .tup (.cons (.str _) (.cons (.str _) (.cons (deep_t σ a) .nil)))
  | .key => .tup (.cons (.str _) (.cons (.str _) (.cons (.tup (.cons (.str _) (.cons (.str _) .nil))) .nil)))
  | .callG a => .tup (.cons (.str _) (.cons (.str _) (.cons (.tup (.cons (deep_t σ a) .nil)) .nil)))
  | .name x => .tup (.cons (.str _) (.cons (.str _) .nil))
end
theorem go_tup (g : Go) : ∃ vs, g.val = .tup vs := by cases g <;> exact ⟨_, rfl⟩
theorem tr_tup (t : Tr) : ∃ vs, t.val = .tup vs := by
  cases t with
  | goal g => rw [Tr.val]; exact go_tup g
  | _ => exact ⟨_, rfl⟩
theorem mil : (1000000 : Nat) ≤ sizeLine := by decide
theorem fn_len (f : Fn) : f.s.length = 1 := by cases f <;> decide +kernel
theorem KeepBut.upd {n f : Addr} {σ σ' : Store} {c : Cell} (k : KeepBut n σ σ') (h : σ f = none) : KeepBut n σ (σ'.set f c) := fun a x ha e => by
  rw [Store.set_ne]; exact k a x ha e
  intro q; rw [q, h] at e; cases e
theorem NotesAt.ne {M : List Addr} {σ : Store} {n l : Addr} {ns : List Note} (N : NotesAt M σ n ns) (h : σ l = none) : l ≠ n := fun e => by
  obtain ⟨vs, o, q, _⟩ := N
  rw [← e, h] at q; cases q
theorem NoteV.wide {M : List Addr} {σ : Store} {f : Addr} (hf : σ f = none) {v : Val} {x : Note} (h : NoteV M σ v x) : NoteV (f :: M) σ v x := by
  have off : ∀ {l : Addr} {vs : List Val}, l ∉ M → IsL σ l vs → l ∉ f :: M := fun h1 ⟨o, h2⟩ q => by
    rcases List.mem_cons.mp q with rfl | q
    · rw [hf] at h2; cases h2
    · exact h1 q
  cases h with
  | read x => exact .read x
  | value s => exact .value s
  | call a b => exact .call (off a b) b
  | done a b => exact .done (off a b) b
theorem NoteV.slim {M : List Addr} {σ : Store} {f : Addr} {v : Val} {x : Note} (h : NoteV (f :: M) σ v x) : NoteV M σ v x := by
  cases h with
  | read x => exact .read x
  | value s => exact .value s
  | call a b => exact .call (fun q => a (List.mem_cons_of_mem _ q)) b
  | done a b => exact .done (fun q => a (List.mem_cons_of_mem _ q)) b
theorem NotesV.wide {M : List Addr} {σ : Store} {f : Addr} (hf : σ f = none) : ∀ {vs : List Val} {ns : List Note}, NotesV M σ vs ns → NotesV (f :: M) σ vs ns
  | _, _, .nil => .nil
  | _, _, .cons a b => .cons (a.wide hf) (NotesV.wide hf b)
theorem NotesV.slim {M : List Addr} {σ : Store} {f : Addr} : ∀ {vs : List Val} {ns : List Note}, NotesV (f :: M) σ vs ns → NotesV M σ vs ns
  | _, _, .nil => .nil
  | _, _, .cons a b => .cons a.slim (NotesV.slim b)
theorem NotesAt.wide {M : List Addr} {σ : Store} {f n : Addr} {ns : List Note} (N : NotesAt M σ n ns) (hf : σ f = none) : NotesAt (f :: M) σ n ns := let ⟨vs, o, e, h⟩ := N; ⟨vs, o, e, h.wide hf⟩
theorem NotesAt.slim {M : List Addr} {σ : Store} {f n : Addr} {ns : List Note} (N : NotesAt (f :: M) σ n ns) : NotesAt M σ n ns := let ⟨vs, o, e, h⟩ := N; ⟨vs, o, e, h.slim⟩
theorem Live.new {M : List Addr} {σ : Store} {f : Addr} {c : Cell} (h : Live M σ) : Live (f :: M) (σ.set f c) := fun a ha e => by
  rcases List.mem_cons.mp ha with rfl | ha
  · rw [Store.set_same] at e; cases e
  · by_cases q : a = f
    · rw [q, Store.set_same] at e; cases e
    · rw [Store.set_ne q] at e; exact h a ha e
theorem Live.upd {M : List Addr} {σ : Store} {f : Addr} {c : Cell} (h : Live M σ) : Live M (σ.set f c) := fun a ha e => by
  by_cases q : a = f
  · rw [q, Store.set_same] at e; cases e
  · rw [Store.set_ne q] at e; exact h a ha e

theorem val_plain : PlainScope ["tree", "notes"] (scopeAt 21) := ⟨by decide +kernel, by decide +kernel, by decide +kernel, by decide +kernel, by decide +kernel⟩
theorem sev_plain : PlainScope ["trees", "notes"] (scopeAt 22) := ⟨by decide +kernel, by decide +kernel, by decide +kernel, by decide +kernel, by decide +kernel⟩
theorem nam_plain : PlainScope ["tree", "notes", "as_name"] (scopeAt 23) := ⟨by decide +kernel, by decide +kernel, by decide +kernel, by decide +kernel, by decide +kernel⟩
section
variable {c : Cx} {A : Nat → Addr} (F : Facts c A)
include F
theorem l_name (x : Nm) : Rds c (A 21) 1 [(Tr.name x).val] [] 40 (readR x) := by
  refine Rds.succ fun d σ M n ns Q hd hM hL N hz q => ?_
  rw [Tr.val]
  obtain ⟨vs, o, hn, hv⟩ := N
  refine WC_def F.f21.toFunAt val_plain rfl ?_
  refine WS_cons ?_
  cases x
  all_goals
    repeat walk_at "go"
    refine WE_methL rfl hn PySem.F.slot_list_append ty_append ?_
    repeat walk_at "go"
    refine GL_append hn (fun o' => ?_) (by rw [hv.length]; exact Nat.le_trans (by lia) mil)
    repeat walk_at "go"
    exact q _ KeepBut.set (NotesAt.put hM hv (.read _))
theorem l_whole (i : Fin 10) : Rds c (A 21) 1 [(Tr.whole i).val] [] 40 (ev (.whole i)) := by
  refine Rds.succ fun d σ M n ns Q hd hM hL N hz q => ?_
  rw [Tr.val]
  refine WC_def F.f21.toFunAt val_plain rfl ?_
  refine WS_cons ?_
  repeat walk_at "go"
  refine GL_strI ?_ (by have : ∀ i : Fin 10, (((i.val : Nat) : Int)).natAbs.log2 < 1920 := by decide +kernel
                        exact this i)
  rw [ev, List.append_nil] at q
  exact q _ (KeepBut.refl _ _) N
theorem l_text : Rds c (A 21) 1 [Tr.text.val] [] 40 (ev .text) := by
  refine Rds.succ fun d σ M n ns Q hd hM hL N hz q => ?_
  rw [Tr.val]
  refine WC_def F.f21.toFunAt val_plain rfl ?_
  refine WS_cons ?_
  repeat walk_at "go"
  refine GL_strS ?_
  simp only [ev, List.append_nil] at q
  exact q _ (KeepBut.refl _ _) N
theorem l_null : Rds c (A 21) 1 [Tr.null.val] [] 40 (ev .null) := by
  refine Rds.succ fun d σ M n ns Q hd hM hL N hz q => ?_
  rw [Tr.val]
  refine WC_def F.f21.toFunAt val_plain rfl ?_
  refine WS_cons ?_
  repeat walk_at "go"
  simp only [ev, List.append_nil] at q
  exact q _ (KeepBut.refl _ _) N
theorem l_join {l r : Tr} {k : Nat} (hl : Rds c (A 21) k [l.val] [] (wt l) (ev l)) (hr : Rds c (A 21) k [r.val] [] (wt r) (ev r)) (h1 : l.h ≤ 8) (h2 : r.h ≤ 8) : Rds c (A 21) (k + 1) [(Tr.join l r).val] [] (wt (.join l r)) (ev (.join l r)) := by
  refine Rds.succ fun d σ M n ns Q hd hM hL N hz q => ?_
  have fl := ev_fit l
  have fr := ev_fit r
  have wl := wt_small h1
  have wr := wt_small h2
  simp only [wt] at hz
  rw [Tr.val]
  refine WC_def F.f21.toFunAt val_plain rfl ?_
  refine WS_cons ?_
  repeat walk_at "go"
  refine hl.use hd hM hL N (by lia) (fun σ1 K1 N1 e1 => ?_) (fun σ1 s1 K1 N1 e1 => ?_)
  · skip
    repeat walk_at "go"
    simp only [ev, Rv.bind, e1] at q
    exact q _ K1 N1
  · skip
    repeat walk_at "go"
    refine hr.use hd hM (hL.step K1 N1) N1 (by have := fl.len; simp only [List.length_append]; lia) (fun σ2 K2 N2 e2 => ?_) (fun σ2 s2 K2 N2 e2 => ?_)
    · skip
      repeat walk_at "go"
      simp only [ev, Rv.bind, Rv.map, e1, e2] at q
      rw [List.append_assoc] at N2
      exact q _ (K1.trans K2) N2
    · skip
      have g1 := (fl.val s1 e1).1
      have g2 := (fr.val s2 e2).1
      repeat walk_at "go"
      simp only [ev, Rv.bind, Rv.map, e1, e2] at q
      rw [List.append_assoc] at N2
      exact q _ (K1.trans K2) N2
theorem l_bin {op : B3} {l r : Tr} {k : Nat} (hl : Rds c (A 21) k [l.val] [] (wt l) (ev l)) (hr : Rds c (A 21) k [r.val] [] (wt r) (ev r)) (h1 : l.h ≤ 8) (h2 : r.h ≤ 8) : Rds c (A 21) (k + 1) [(Tr.bin op l r).val] [] (wt (.bin op l r)) (ev (.bin op l r)) := by
  refine Rds.succ fun d σ M n ns Q hd hM hL N hz q => ?_
  have fl := ev_fit l
  have fr := ev_fit r
  have wl := wt_small h1
  have wr := wt_small h2
  simp only [wt] at hz
  rw [Tr.val]
  refine WC_def F.f21.toFunAt val_plain rfl ?_
  refine WS_cons ?_
  simp only [ev] at q
  cases op <;> simp only [B3.s] at q ⊢
  all_goals
    repeat walk_at "go"
    refine hl.use hd hM hL N (by lia) (fun σ1 K1 N1 e1 => ?_) (fun σ1 s1 K1 N1 e1 => ?_)
    · skip
      repeat walk_at "go"
      simp only [Rv.bind, e1] at q
      exact q _ K1 N1
    · skip
      repeat walk_at "go"
      refine hr.use hd hM (hL.step K1 N1) N1 (by have := fl.len; simp only [List.length_append]; lia) (fun σ2 K2 N2 e2 => ?_) (fun σ2 s2 K2 N2 e2 => ?_)
      · skip
        repeat walk_at "go"
        simp only [Rv.bind, Rv.map, e1, e2] at q
        rw [List.append_assoc] at N2
        exact q _ (K1.trans K2) N2
      · skip
        have g1 := (fl.val s1 e1).1
        have g2 := (fr.val s2 e2).1
        repeat walk_at "go"
        simp only [Rv.bind, Rv.map, e1, e2] at q
        rw [List.append_assoc] at N2
        exact q _ (K1.trans K2) N2
theorem l_give {op : B2} {l : Tr} {g : Go} {k : Nat} (hl : Rds c (A 21) k [l.val] [] (wt l) (ev l)) (hr : Rds c (A 23) k [g.val] [.bool true] (wg g) (en true g)) (h1 : l.h ≤ 8) (h2 : g.h ≤ 8) : Rds c (A 21) (k + 1) [(Tr.give op l g).val] [] (wt (.give op l g)) (ev (.give op l g)) := by
  refine Rds.succ fun d σ M n ns Q hd hM hL N hz q => ?_
  have fl := ev_fit l
  have fr := en_fit true g
  have wl := wt_small h1
  have wr := wg_small h2
  simp only [wt] at hz
  rw [Tr.val]
  refine WC_def F.f21.toFunAt val_plain rfl ?_
  refine WS_cons ?_
  simp only [ev] at q
  cases op <;> simp only [B2.s] at q ⊢
  all_goals
    repeat walk_at "go"
    refine hl.use hd hM hL N (by lia) (fun σ1 K1 N1 e1 => ?_) (fun σ1 s1 K1 N1 e1 => ?_)
    · skip
      repeat walk_at "go"
      simp only [Rv.bind, e1] at q
      exact q _ K1 N1
    · skip
      repeat walk_at "go"
      refine hr.use hd hM (hL.step K1 N1) N1 (by have := fl.len; simp only [List.length_append]; lia) (fun σ2 K2 N2 e2 => ?_) (fun σ2 s2 K2 N2 e2 => ?_)
      · skip
        repeat walk_at "go"
        simp only [Rv.bind, Rv.map, e1, e2] at q
        rw [List.append_assoc] at N2
        exact q _ (K1.trans K2) N2
      · skip
        have g1 := (fl.val s1 e1).1
        have g2 := (fr.val s2 e2).1
        repeat walk_at "go"
        simp only [Rv.bind, Rv.map, e1, e2] at q
        rw [List.append_assoc] at N2
        exact q _ (K1.trans K2) N2
theorem l_neg {g : Go} {k : Nat} (hg : Rds c (A 21) k [g.val] [] (wg g + 1) (egOf (en false g) g)) (h1 : g.h ≤ 8) : Rds c (A 21) (k + 1) [(Tr.una .neg g).val] [] (wt (.una .neg g)) (ev (.una .neg g)) := by
  refine Rds.succ fun d σ M n ns Q hd hM hL N hz q => ?_
  have fg := eg_fit (en_fit false g)
  have wl := wg_small h1
  simp only [wt] at hz
  rw [Tr.val]; simp only [U5.s]
  refine WC_def F.f21.toFunAt val_plain rfl ?_
  refine WS_cons ?_
  repeat walk_at "go"
  refine hg.use hd hM hL N (by lia) (fun σ1 K1 N1 e1 => ?_) (fun σ1 s1 K1 N1 e1 => ?_)
  · skip
    repeat walk_at "go"
    simp only [ev, Rv.map, e1] at q
    exact q _ K1 N1
  · skip
    have g1 := (fg.val s1 e1).1
    repeat walk_at "go"
    simp only [ev, Rv.map, e1] at q
    exact q _ K1 N1
theorem l_ask {g : Go} {k : Nat} (hg : Rds c (A 21) k [g.val] [] (wg g + 1) (egOf (en false g) g)) (h1 : g.h ≤ 8) : Rds c (A 21) (k + 1) [(Tr.una .ask g).val] [] (wt (.una .ask g)) (ev (.una .ask g)) := by
  refine Rds.succ fun d σ M n ns Q hd hM hL N hz q => ?_
  have fg := eg_fit (en_fit false g)
  have wl := wg_small h1
  simp only [wt] at hz
  rw [Tr.val]; simp only [U5.s]
  refine WC_def F.f21.toFunAt val_plain rfl ?_
  refine WS_cons ?_
  repeat walk_at "go"
  refine hg.use hd hM hL N (by lia) (fun σ1 K1 N1 e1 => ?_) (fun σ1 s1 K1 N1 e1 => ?_)
  · skip
    repeat walk_at "go"
    simp only [ev, Rv.map, e1] at q
    exact q _ K1 N1
  · skip
    have g1 := (fg.val s1 e1).1
    repeat walk_at "go"
    simp only [ev, Rv.map, e1] at q
    exact q _ K1 N1
theorem l_not {g : Go} {k : Nat} (hg : Rds c (A 21) k [g.val] [] (wg g + 1) (egOf (en false g) g)) (h1 : g.h ≤ 8) : Rds c (A 21) (k + 1) [(Tr.una .not g).val] [] (wt (.una .not g)) (ev (.una .not g)) := by
  refine Rds.succ fun d σ M n ns Q hd hM hL N hz q => ?_
  have fg := eg_fit (en_fit false g)
  have wl := wg_small h1
  simp only [wt] at hz
  rw [Tr.val]; simp only [U5.s]
  refine WC_def F.f21.toFunAt val_plain rfl ?_
  refine WS_cons ?_
  repeat walk_at "go"
  refine hg.use hd hM hL N (by lia) (fun σ1 K1 N1 e1 => ?_) (fun σ1 s1 K1 N1 e1 => ?_)
  · skip
    repeat walk_at "go"
    simp only [ev, Rv.map, e1] at q
    exact q _ K1 N1
  · skip
    have g1 := (fg.val s1 e1).1
    repeat walk_at "go"
    simp only [ev, Rv.map, e1] at q
    exact q _ K1 N1
theorem l_cur {g : Go} {k : Nat} (hg : Rds c (A 23) k [g.val] [.bool true] (wg g) (en true g)) (h1 : g.h ≤ 8) : Rds c (A 21) (k + 1) [(Tr.una .cur g).val] [] (wt (.una .cur g)) (ev (.una .cur g)) := by
  refine Rds.succ fun d σ M n ns Q hd hM hL N hz q => ?_
  have fg := en_fit true g
  have wl := wg_small h1
  simp only [wt] at hz
  rw [Tr.val]; simp only [U5.s]
  refine WC_def F.f21.toFunAt val_plain rfl ?_
  refine WS_cons ?_
  repeat walk_at "go"
  refine hg.use hd hM hL N (by lia) (fun σ1 K1 N1 e1 => ?_) (fun σ1 s1 K1 N1 e1 => ?_)
  · skip
    repeat walk_at "go"
    simp only [ev, Rv.map, e1] at q
    exact q _ K1 N1
  · skip
    have g1 := (fg.val s1 e1).1
    repeat walk_at "go"
    simp only [ev, Rv.map, e1] at q
    exact q _ K1 N1
theorem l_del (g : Go) (h1 : g.h ≤ 8) : Rds c (A 21) 1 [(Tr.una .del g).val] [] (wt (.una .del g)) (ev (.una .del g)) := by
  refine Rds.succ fun d σ M n ns Q hd hM hL N hz q => ?_
  have wl := wg_small h1
  have sl := shown_len g
  obtain ⟨a1, a2, a3, a4, a5⟩ := datag_ok g
  rw [Tr.val]; simp only [U5.s]
  have hD := deep_g σ g
  obtain ⟨vs, hv⟩ := go_tup g
  rw [hv] at hD ⊢
  refine WC_def F.f21.toFunAt val_plain rfl ?_
  refine WS_cons ?_
  repeat walk_at "go"
  refine GL_reprT hD (PyData.hasDict_of_canLay _ a1) a3 (by lia) ?_ (by rw [sizeLine_eq]; lia)
  repeat walk_at "go"
  simp only [ev, List.append_nil] at q
  exact q _ (KeepBut.refl _ _) N
end

noncomputable def sevR (ts : List (Val × Rv)) : Rs := ts.foldl (fun a p => a.snoc p.2) Rs.nil
theorem snoc_none {r : Rs} {v : Rv} (h : r.2 = none) : r.snoc v = r := by
  unfold Rs.snoc; rw [h]; exact Prod.ext rfl h.symm
theorem fold_none {ts : List (Val × Rv)} : ∀ {r : Rs}, r.2 = none → ts.foldl (fun a p => a.snoc p.2) r = r := by
  induction ts with
  | nil => intro r _; rfl
  | cons p ts ih => intro r h; rw [List.foldl_cons, snoc_none h]; exact ih h
section
variable {c : Cx} {A : Nat → Addr} (F : Facts c A)
include F
theorem sev_spec {k : Nat} (ts : List (Val × Rv × Nat)) (h : ∀ p ∈ ts, Rds c (A 21) k [p.1] [] p.2.2 p.2.1) (hp : ∀ p ∈ ts, p.2.1.Fit p.2.2) {d : Nat} {σ : Store} {M : List Addr} {n l : Addr} {ns : List Note} {Q : Val → Store → Prop} (hd : k ≤ d) (hM : n ∈ M) (hL : Live M σ) (N : NotesAt M σ n ns) (hl : IsL σ l (ts.map (·.1))) (hlM : l ∉ M)
    (hz : ns.length + (ts.map (·.2.2)).sum ≤ 1000000) (ht : ts.length ≤ 2)
    (qn : ∀ σ', KeepBut n σ σ' → NotesAt M σ' n (ns ++ (sevR (ts.map fun p => (p.1, p.2.1))).1) → (sevR (ts.map fun p => (p.1, p.2.1))).2 = none → Q .none σ')
    (qs : ∀ σ' l' ss, KeepBut n σ σ' → NotesAt M σ' n (ns ++ (sevR (ts.map fun p => (p.1, p.2.1))).1) → (sevR (ts.map fun p => (p.1, p.2.1))).2 = some ss → IsL σ' l' (ss.map Val.str) → σ l' = none → Q (.ref l') σ') : WC c (d + 1) (A 22) [.ref l, .ref n] σ Q := by
  refine WC_def F.f22.toFunAt sev_plain rfl ?_
  refine WS_cons ?_
  obtain ⟨ol, hl⟩ := hl
  repeat walk_at "go"
  rename_i f o hf
  have fne := N.ne hf
  have fl : f ≠ l := fun e => by rw [e, hl] at hf; cases hf
  have fM := hL.off hf
  have hstep : ∀ i p, ts[i]? = some p → sevR ((ts.take (i + 1)).map fun p => (p.1, p.2.1)) = (sevR ((ts.take i).map fun p => (p.1, p.2.1))).snoc p.2.1 := fun i p hp => by
    unfold sevR
    rw [List.take_add_one, hp]
    simp only [Option.toList, List.map_append, List.map_cons, List.map_nil, List.foldl_append, List.foldl_cons, List.foldl_nil]
  have hlen : ∀ i, (sevR ((ts.take i).map fun p => (p.1, p.2.1))).Fit (((ts.take i).map (·.2.2)).sum) i := fun i => by
    induction i with
    | zero => exact Rs.fit_nil
    | succ i ih =>
      cases e : ts[i]? with
      | none =>
        have : ts.take (i + 1) = ts.take i := by rw [List.take_add_one, e]; simp
        rw [this]
        exact ⟨ih.len, ih.ok, fun l q => ⟨(ih.val l q).1, Nat.le_succ_of_le (ih.val l q).2.1, (ih.val l q).2.2⟩⟩
      | some p =>
        rw [hstep i p e, List.take_add_one, e]
        simp only [Option.toList, List.map_append, List.map_cons, List.map_nil, List.sum_append, List.sum_cons, List.sum_nil, Nat.add_zero]
        exact ih.snoc (hp p (List.mem_of_getElem? e))
  have hsum : ∀ i, ((ts.take (i + 1)).map (·.2.2)).sum ≤ (ts.map (·.2.2)).sum := fun i => by
    conv => rhs; rw [← List.take_append_drop (i + 1) ts, List.map_append, List.sum_append]
    exact Nat.le_add_right _ _
  refine WX_for (WE_name (by rfl) ⟨ts.map (·.1), .inr ⟨l, ol, rfl, Store.old hf hl⟩, fun i ρ σ' => At ρ "found" (.ref f) ∧ At ρ "notes" (.ref n) ∧ (∃ ss, (sevR ((ts.take i).map fun p => (p.1, p.2.1))).2 = some ss ∧ IsL σ' f (ss.map Val.str)) ∧ NotesAt (f :: M) σ' n (ns ++ (sevR ((ts.take i).map fun p => (p.1, p.2.1))).1) ∧ KeepBut n σ σ' ∧ Live (f :: M) σ' ∧ σ' l = some (.list (ts.map (·.1)) ol), ?_, ?_, ?_, ?_⟩)
  · refine ⟨by rfl, by rfl, ⟨[], rfl, IsL.set rfl⟩, ?_, (Keep.new hf).but, hL.new, Store.old hf hl⟩
    have : ns ++ (sevR ((ts.take 0).map fun p => (p.1, p.2.1))).1 = ns := by simp [sevR, Rs.nil]
    rw [this]
    exact (N.wide hf).keep (Keep.new hf)
  · rintro l' e o₂ i ρ' σ' e' ⟨_, _, _, _, _, _, h6⟩
    cases e
    have := Store.old (c := .list [] o) hf hl
    rw [this] at e'; cases e'; exact h6
  · rintro i u ρ σ₁ hu ⟨r1, r2, ⟨ss, es, hss⟩, N1, K1, L1, e1⟩
    obtain ⟨p, hpi, rfl⟩ : ∃ p, ts[i]? = some p ∧ p.1 = u := by simpa using hu
    have hmem := List.mem_of_getElem? hpi
    have hs := hstep i p hpi
    have hi := (List.getElem?_eq_some_iff.mp hpi).1
    have fit := hlen i
    have hsm := hsum i
    rw [List.take_add_one, hpi] at hsm
    simp only [Option.toList, List.map_append, List.map_cons, List.map_nil, List.sum_append, List.sum_cons, List.sum_nil, Nat.add_zero] at hsm
    walk_at "go"
    walk_at "go"
    walk_at "go"
    walk_at "go"
    walk_at "go"
    walk_at "go"
    refine WE_name r2 ?_
    walk_at "go"
    refine (h p hmem).use hd (List.mem_cons_of_mem _ hM) L1 N1 (by have := fit.len; simp only [List.length_append]; lia) (fun σ2 K2 N2 e2 => ?_) (fun σ2 s2 K2 N2 e2 => ?_)
    · repeat walk_at "go"
      have hsv : sevR (ts.map fun p => (p.1, p.2.1)) = sevR ((ts.take (i + 1)).map fun p => (p.1, p.2.1)) := by
        conv => lhs; rw [← List.take_append_drop (i + 1) ts, List.map_append]
        unfold sevR
        rw [List.foldl_append]
        refine fold_none ?_
        show (sevR ((ts.take (i + 1)).map fun p => (p.1, p.2.1))).2 = none
        rw [hs]; unfold Rs.snoc; rw [es]; dsimp only; rw [e2]
      have e3 : (sevR ((ts.take (i + 1)).map fun p => (p.1, p.2.1))) = ((sevR ((ts.take i).map fun p => (p.1, p.2.1))).1 ++ p.2.1.1, none) := by
        rw [hs]; unfold Rs.snoc; rw [es]; dsimp only; rw [e2]
      refine qn σ2 (K1.trans K2) ?_ (by rw [hsv, e3])
      rw [hsv, e3, ← List.append_assoc]; exact N2.slim
    · repeat walk_at "go"
      have e3 : (sevR ((ts.take (i + 1)).map fun p => (p.1, p.2.1))) = ((sevR ((ts.take i).map fun p => (p.1, p.2.1))).1 ++ p.2.1.1, some (ss ++ [s2])) := by
        rw [hs]; unfold Rs.snoc; rw [es]; dsimp only; rw [e2]
      obtain ⟨of, hff⟩ := hss
      have hff2 := K2 _ _ fne hff
      refine WE_methL r1 hff2 PySem.F.slot_list_append ty_append ?_
      repeat walk_at "go"
      refine GL_append hff2 (fun o' => ?_) (by have := (fit.val ss es).2.1; simp only [List.length_map]; exact Nat.le_trans (by lia : ss.length ≤ 1000000) mil)
      repeat walk_at "go"
      refine ⟨r1, r2, ⟨ss ++ [s2], by rw [e3], IsL.set (by simp)⟩, ?_, (K1.trans K2).upd hf, ?_, ?_⟩
      · rw [e3, ← List.append_assoc]
        exact N2.out (KeepOut.set List.mem_cons_self) (Store.set_ne (Ne.symm fne))
      · exact (L1.step K2 N2).upd
      · rw [Store.set_ne (Ne.symm fl)]; exact K2 _ _ (fun e => hlM (e ▸ hM)) e1
  · rintro ρ σ₁ ⟨r1, r2, ⟨ss, es, hss⟩, N1, K1, L1, e1⟩
    repeat walk_at "go"
    refine WE_name r1 ?_
    repeat walk_at "go"
    simp only [List.length_map, List.take_length] at es N1
    exact qs σ₁ f ss K1 N1.slim es hss hf
end

section
variable {c : Cx} {A : Nat → Addr} (F : Facts c A)
include F
theorem n_name (x : Nm) (b : Bool) : Rds c (A 23) 1 [(Go.name x).val] [.bool b] 40 (en b (.name x)) := by
  refine Rds.succ fun d σ M n ns Q hd hM hL N hz q => ?_
  rw [Go.val]
  have := len_nm x
  refine WC_def F.f23.toFunAt nam_plain rfl ?_
  refine WS_cons ?_
  repeat walk_at "go"
  simp only [en, List.append_nil] at q
  exact q _ (KeepBut.refl _ _) N
theorem n_key (b : Bool) : Rds c (A 23) 1 [Go.key.val] [.bool b] 40 (en b .key) := by
  refine Rds.succ fun d σ M n ns Q hd hM hL N hz q => ?_
  rw [Go.val]
  refine WC_def F.f23.toFunAt nam_plain rfl ?_
  refine WS_cons ?_
  repeat walk_at "go"
  simp only [en, List.append_nil] at q
  exact q _ (KeepBut.refl _ _) N
theorem n_ind {a : Tr} {k : Nat} (b : Bool) (ha : Rds c (A 21) k [a.val] [] (wt a) (ev a)) (h1 : a.h ≤ 8) : Rds c (A 23) (k + 1) [(Go.ind a).val] [.bool b] (wg (.ind a)) (en b (.ind a)) := by
  refine Rds.succ fun d σ M n ns Q hd hM hL N hz q => ?_
  have fa := ev_fit a
  have wa := wt_small h1
  simp only [wg] at hz
  rw [Go.val]
  refine WC_def F.f23.toFunAt nam_plain rfl ?_
  refine WS_cons ?_
  repeat walk_at "go"
  refine ha.use hd hM hL N (by lia) (fun σ1 K1 N1 e1 => ?_) (fun σ1 s1 K1 N1 e1 => ?_)
  · repeat walk_at "go"
    simp only [en, Rv.map, e1] at q
    exact q _ K1 N1
  · have g1 := (fa.val s1 e1).1
    repeat walk_at "go"
    simp only [en, Rv.map, e1] at q
    exact q _ K1 N1
theorem n_call {k : Nat} (f : Fn) (ts : List (Val × Rv × Nat)) (b : Bool) (h : ∀ p ∈ ts, Rds c (A 21) k [p.1] [] p.2.2 p.2.1) (hp : ∀ p ∈ ts, p.2.1.Fit p.2.2) (ht : ts.length ≤ 2) (hw : (ts.map (·.2.2)).sum ≤ 41000) (hf : (sevR (ts.map fun p => (p.1, p.2.1))).Fit (ts.map (·.2.2)).sum 2) :
    Rds c (A 23) (k + 2) [.tup [.str "call", .str f.s, .tup (ts.map (·.1))]] [.bool b] ((ts.map (·.2.2)).sum + 40) ((sevR (ts.map fun p => (p.1, p.2.1))).call "call" f.s f.s b) := by
  refine Rds.succ fun d σ M n ns Q hd hM hL N hz q => ?_
  obtain ⟨d', rfl⟩ : ∃ d', d = d' + 1 := ⟨d - 1, by lia⟩
  have fl := fn_len f
  refine WC_def F.f23.toFunAt nam_plain rfl ?_
  refine WS_cons ?_
  repeat walk_at "go"
  refine GL_listT (fun l o hl => ?_) (by simp only [List.length_map]; exact Nat.le_trans ht (by decide))
  repeat walk_at "go"
  have K0 : Keep σ (σ.set l (.list (ts.map (·.1)) o)) := Keep.new hl
  refine sev_spec F ts h hp (by lia) hM (hL.keep K0) (N.keep K0) ⟨o, Store.set_same⟩ (hL.off hl) (by lia) ht (fun σ1 K1 N1 e1 => ?_) (fun σ1 l1 ss K1 N1 e1 hl1 hn1 => ?_)
  · repeat walk_at "go"
    simp only [Rs.call, e1] at q
    exact q _ (K0.but.trans K1) N1
  · repeat walk_at "go"
    have hl1M : l1 ∉ M := fun e => (hL.keep K0) l1 e hn1
    obtain ⟨vs, on, hnn, hv⟩ := N1
    have hvl := hv.length
    have fit := hf.len
    refine WE_methL rfl hnn PySem.F.slot_list_append ty_append ?_
    repeat walk_at "go"
    refine GL_append hnn (fun o' => ?_) (by rw [hvl]; simp only [List.length_append]; exact Nat.le_trans (by lia) mil)
    obtain ⟨f1, f2, f3⟩ := hf.val ss e1
    have hjl := len_join ss
    have hne : l1 ≠ n := fun e => hl1M (e ▸ hM)
    obtain ⟨o1, hl1'⟩ := hl1
    have hl1'' : (σ1.set n (.list (vs ++ [.tup [.str "call", .str f.s, .ref l1, .bool b]]) o')) l1 = some (.list (ss.map Val.str) o1) := by rw [Store.set_ne hne]; exact hl1'
    simp only [Rs.call, e1] at q
    cases b
    all_goals
      repeat walk_at "go"
      with_reducible refine WE_methS PySem.F.slot_str_join ty_join ?_ ?_ ?_
      rotate_left
      · intro f h; cases f; cases h; exact ⟨_, rfl⟩
      · exact .inr ⟨_, _, rfl, fun _ => rfl, fun _ => rfl⟩
      repeat walk_at "go"
      refine ⟨_, rfl, ?_⟩
      repeat walk_at "go"
      refine GL_join hl1'' rfl ?_ (by decide) (by lia)
      repeat walk_at "go"
      refine q _ ((K0.but.trans K1).trans KeepBut.set) ?_
      rw [← List.append_assoc]
      exact NotesAt.put hM hv (.call hl1M ⟨o1, hl1'⟩)
end

section
variable {c : Cx} {A : Nat → Addr} (F : Facts c A)
include F
theorem n_item {a b : Tr} {k : Nat} (w : Bool) (ha : Rds c (A 21) k [a.val] [] (wt a) (ev a)) (hb : Rds c (A 21) k [b.val] [] (wt b) (ev b)) (h1 : a.h ≤ 8) (h2 : b.h ≤ 8) : Rds c (A 23) (k + 2) [(Go.item a b).val] [.bool w] (wg (.item a b)) (en w (.item a b)) := by
  refine Rds.succ fun d σ M n ns Q hd hM hL N hz q => ?_
  obtain ⟨d', rfl⟩ : ∃ d', d = d' + 1 := ⟨d - 1, by lia⟩
  have wa := wt_small h1
  have wb := wt_small h2
  have hf := (Rs.fit_nil.snoc (ev_fit a)).snoc (ev_fit b)
  simp only [wg] at hz
  rw [Go.val]
  refine WC_def F.f23.toFunAt nam_plain rfl ?_
  refine WS_cons ?_
  repeat walk_at "go"
  refine GL_listT (fun l o hl => ?_) (by show 1 ≤ sizeLine; decide)
  repeat walk_at "go"
  rename_i l1 o1 hl1 l2 o2 hl2
  have K0 : Keep σ (((σ.set l1 (.list [a.val] o1)).set l (.list [b.val] o)).set l2 (.list ([a.val] ++ [b.val]) o2)) := ((Keep.new hl1).trans (Keep.new hl)).trans (Keep.new hl2)
  refine sev_spec F [(a.val, ev a, wt a), (b.val, ev b, wt b)] (fun p hp => by rcases List.mem_cons.mp hp with rfl | hp; exact ha; rw [List.mem_singleton.mp hp]; exact hb) (fun p hp => by rcases List.mem_cons.mp hp with rfl | hp; exact ev_fit a; rw [List.mem_singleton.mp hp]; exact ev_fit b) (by lia) hM (hL.keep K0) (N.keep K0) ⟨o2, Store.set_same⟩ (fun e => (hL.keep ((Keep.new hl1).trans (Keep.new hl))) l2 e hl2) (by simp only [List.map_cons, List.map_nil, List.sum_cons, List.sum_nil]; lia) (by show 2 ≤ 2; decide) (fun σ1 K1 N1 e1 => ?_) (fun σ1 l3 ss K1 N1 e1 hl3 hn3 => ?_)
  · repeat walk_at "go"
    have e1' : ((Rs.nil.snoc (ev a)).snoc (ev b)).2 = none := e1
    simp only [en, Rs.call, e1'] at q
    exact q _ (K0.but.trans K1) N1
  · repeat walk_at "go"
    have e1' : ((Rs.nil.snoc (ev a)).snoc (ev b)).2 = some ss := e1
    have hl3M : l3 ∉ M := fun e => (hL.keep K0) l3 e hn3
    obtain ⟨vs, on, hnn, hv⟩ := N1
    have hvl := hv.length
    have fit : ((sevR [(a.val, ev a), (b.val, ev b)]).1).length ≤ 0 + wt a + wt b := hf.len
    refine WE_methL rfl hnn PySem.F.slot_list_append ty_append ?_
    repeat walk_at "go"
    refine GL_append hnn (fun o' => ?_) (by
      rw [hvl, List.length_append]
      have := Nat.add_le_add_left fit ns.length
      refine Nat.le_trans this (Nat.le_trans (by lia) mil))
    obtain ⟨f1, f2, f3⟩ := hf.val ss e1'
    have hjl := len_join ss
    have hne : l3 ≠ n := fun e => hl3M (e ▸ hM)
    obtain ⟨o3, hl3'⟩ := hl3
    have hl3'' : (σ1.set n (.list (vs ++ [.tup [.str "item", .str "", .ref l3, .bool w]]) o')) l3 = some (.list (ss.map Val.str) o3) := by rw [Store.set_ne hne]; exact hl3'
    simp only [en, Rs.call, e1'] at q
    cases w
    all_goals
      repeat walk_at "go"
      with_reducible refine WE_methS PySem.F.slot_str_join ty_join ?_ ?_ ?_
      rotate_left
      · intro f h; cases f; cases h; exact ⟨_, rfl⟩
      · exact .inr ⟨_, _, rfl, fun _ => rfl, fun _ => rfl⟩
      repeat walk_at "go"
      refine ⟨_, rfl, ?_⟩
      repeat walk_at "go"
      refine GL_join hl3'' rfl ?_ (by decide) (by lia)
      repeat walk_at "go"
      refine q _ ((K0.but.trans K1).trans KeepBut.set) ?_
      rw [← List.append_assoc]
      exact NotesAt.put hM hv (.call hl3M ⟨o3, hl3'⟩)
/- values of goals and calls -/
theorem l_via {k : Nat} {g : Val} {W : Nat} {r : Rv} (h : ∃ s x y, g = .tup [.str s, x, y] ∧ (s = "call" ∨ s = "item")) (hn : Rds c (A 23) k [g] [.bool false] W r) : Rds c (A 21) (k + 1) [g] [] W r := by
  refine Rds.succ fun d σ M n ns Q hd hM hL N hz q => ?_
  obtain ⟨s, x, y, rfl, hs⟩ := h
  refine WC_def F.f21.toFunAt val_plain rfl ?_
  refine WS_cons ?_
  rcases hs with rfl | rfl
  all_goals
    repeat walk_at "go"
    refine hn.use hd hM hL N hz (fun σ1 K1 N1 e1 => ?_) (fun σ1 s1 K1 N1 e1 => ?_)
    · repeat walk_at "go"
      rw [e1] at q
      exact q _ K1 N1
    · repeat walk_at "go"
      rw [e1] at q
      exact q _ K1 N1
theorem l_una {k : Nat} {g : Go} {W : Nat} (h : ∃ s rest, g.val = .tup [.str "unary", .str s, rest] ∧ (s = "$" ∨ s = "&")) (he : egOf (en false g) g = (en false g).bind fun s => ([.value s], some s)) (hf : (en false g).Fit W) (hn : Rds c (A 23) k [g.val] [.bool false] W (en false g)) : Rds c (A 21) (k + 1) [g.val] [] (W + 1) (egOf (en false g) g) := by
  refine Rds.succ fun d σ M n ns Q hd hM hL N hz q => ?_
  obtain ⟨s, rest, hg, hs⟩ := h
  rw [hg] at hn ⊢
  rw [he] at q
  refine WC_def F.f21.toFunAt val_plain rfl ?_
  refine WS_cons ?_
  rcases hs with rfl | rfl
  all_goals
    repeat walk_at "go"
    refine hn.use hd hM hL N (by lia) (fun σ1 K1 N1 e1 => ?_) (fun σ1 s1 K1 N1 e1 => ?_)
    · repeat walk_at "go"
      simp only [Rv.bind, e1] at q
      exact q _ K1 N1
    · repeat walk_at "go"
      obtain ⟨vs, on, hnn, hv⟩ := N1
      have hvl := hv.length
      have fl := hf.len
      refine WE_methL rfl hnn PySem.F.slot_list_append ty_append ?_
      repeat walk_at "go"
      refine GL_append hnn (fun o' => ?_) (by rw [hvl, List.length_append]; exact Nat.le_trans (by lia) mil)
      repeat walk_at "go"
      simp only [Rv.bind, e1] at q
      refine q _ (K1.trans KeepBut.set) ?_
      rw [← List.append_assoc]
      exact NotesAt.put hM hv (.value _)
theorem l_gname (x : Nm) : Rds c (A 21) 1 [(Go.name x).val] [] 40 (readR x) := by
  have h := l_name F x
  rw [Tr.val] at h; rw [Go.val]; exact h
mutual
theorem rds_t : ∀ t : Tr, t.h ≤ 8 → Rds c (A 21) (3 * t.h + 3) [t.val] [] (wt t) (ev t)
  | .name x, _ => by simp only [ev, wt]; exact (l_name F x).up (by lia) (Nat.le_refl _)
  | .whole n, _ => (l_whole F n).up (by lia) (by simp only [wt]; lia)
  | .text, _ => (l_text F).up (by lia) (by simp only [wt]; lia)
  | .null, _ => (l_null F).up (by lia) (by simp only [wt]; lia)
  | .join l r, h => by
    simp only [Tr.h] at h
    exact (l_join F ((rds_t l (by lia)).up (k' := 3 * max l.h r.h + 3) (by lia) (Nat.le_refl _)) ((rds_t r (by lia)).up (by lia) (Nat.le_refl _)) (by lia) (by lia)).up (by simp only [Tr.h]; lia) (Nat.le_refl _)
  | .bin op l r, h => by
    simp only [Tr.h] at h
    exact (l_bin F ((rds_t l (by lia)).up (k' := 3 * max l.h r.h + 3) (by lia) (Nat.le_refl _)) ((rds_t r (by lia)).up (by lia) (Nat.le_refl _)) (by lia) (by lia)).up (by simp only [Tr.h]; lia) (Nat.le_refl _)
  | .call0, h => by
    have := n_call F .F [] false (k := 0) (fun p hp => by cases hp) (fun p hp => by cases hp) (by decide) (by decide) ⟨Nat.le_refl _, fun n h => (by cases h), fun l h => by cases h; exact ⟨Nat.le_refl _, Nat.zero_le _, fun s h => (by cases h)⟩⟩
    have := (l_via F ⟨_, _, _, rfl, .inl rfl⟩ this).up (k' := 3 * (Tr.call0).h + 3) (W' := wt .call0) (by lia) (by simp only [wt, List.map_nil, List.sum_nil]; lia)
    simp only [ev]; exact this
  | .call1 a, h => by
    simp only [Tr.h] at h
    have wa := wt_small (t := a) (by lia)
    have := n_call F .F [(a.val, ev a, wt a)] false (k := 3 * a.h + 3) (fun p hp => by rw [List.mem_singleton.mp hp]; exact rds_t a (by lia)) (fun p hp => by rw [List.mem_singleton.mp hp]; exact ev_fit a) (by show _ ≤ 2; simp only [List.length_cons, List.length_nil]; decide) (by simp only [List.map_cons, List.map_nil, List.sum_cons, List.sum_nil]; lia)
      (by have q := Rs.fit_nil.snoc (ev_fit a)
          rw [Nat.zero_add] at q
          exact ⟨q.len, q.ok, fun l e => ⟨(q.val l e).1, Nat.le_succ_of_le (q.val l e).2.1, (q.val l e).2.2⟩⟩)
    have := (l_via F ⟨_, _, _, rfl, .inl rfl⟩ this).up (k' := 3 * (Tr.call1 a).h + 3) (W' := wt (.call1 a)) (by simp only [Tr.h]; lia) (by simp only [wt, List.map_cons, List.map_nil, List.sum_cons, List.sum_nil]; lia)
    simp only [ev]; exact this
  | .call2 a b, h => by
    simp only [Tr.h] at h
    have wa := wt_small (t := a) (by lia)
    have wb := wt_small (t := b) (by lia)
    have := n_call F .F [(a.val, ev a, wt a), (b.val, ev b, wt b)] false (k := 3 * max a.h b.h + 3) (fun p hp => by rcases List.mem_cons.mp hp with rfl | hp; exact (rds_t a (by lia)).up (by lia) (Nat.le_refl _); rw [List.mem_singleton.mp hp]; exact (rds_t b (by lia)).up (by lia) (Nat.le_refl _))
      (fun p hp => by rcases List.mem_cons.mp hp with rfl | hp; exact ev_fit a; rw [List.mem_singleton.mp hp]; exact ev_fit b) (by show _ ≤ 2; simp only [List.length_cons, List.length_nil]; decide) (by simp only [List.map_cons, List.map_nil, List.sum_cons, List.sum_nil]; lia)
      (by have q := (Rs.fit_nil.snoc (ev_fit a)).snoc (ev_fit b)
          rw [Nat.zero_add] at q
          exact q)
    have := (l_via F ⟨_, _, _, rfl, .inl rfl⟩ this).up (k' := 3 * (Tr.call2 a b).h + 3) (W' := wt (.call2 a b)) (by simp only [Tr.h]; lia) (by simp only [wt, List.map_cons, List.map_nil, List.sum_cons, List.sum_nil]; lia)
    simp only [ev]; exact this
  | .give op l g, h => by
    simp only [Tr.h] at h
    exact (l_give F ((rds_t l (by lia)).up (k' := 3 * max l.h g.h + 3) (by lia) (Nat.le_refl _)) ((rds_n g true (by lia)).up (by lia) (Nat.le_refl _)) (by lia) (by lia)).up (by simp only [Tr.h]; lia) (Nat.le_refl _)
  | .una .not g, h => by
    simp only [Tr.h] at h
    exact (l_not F (rds_g g (by lia)) (by lia)).up (by simp only [Tr.h]; lia) (Nat.le_refl _)
  | .una .ask g, h => by
    simp only [Tr.h] at h
    exact (l_ask F (rds_g g (by lia)) (by lia)).up (by simp only [Tr.h]; lia) (Nat.le_refl _)
  | .una .neg g, h => by
    simp only [Tr.h] at h
    exact (l_neg F (rds_g g (by lia)) (by lia)).up (by simp only [Tr.h]; lia) (Nat.le_refl _)
  | .una .del g, h => by
    simp only [Tr.h] at h
    exact (l_del F g (by lia)).up (by lia) (Nat.le_refl _)
  | .una .cur g, h => by
    simp only [Tr.h] at h
    exact (l_cur F (rds_n g true (by lia)) (by lia)).up (by simp only [Tr.h]; lia) (Nat.le_refl _)
  | .goal g, h => by
    simp only [Tr.h] at h
    have := (rds_g g (by lia)).up (k' := 3 * (Tr.goal g).h + 3) (W' := wt (.goal g)) (by simp only [Tr.h]; lia) (by simp only [wt]; lia)
    rw [Tr.val]; simp only [ev]; exact this
theorem rds_g : ∀ g : Go, g.h ≤ 8 → Rds c (A 21) (3 * g.h + 3) [g.val] [] (wg g + 1) (egOf (en false g) g)
  | .item a b, h => by
    simp only [Go.h] at h
    have := n_item F false ((rds_t a (by lia)).up (k' := 3 * max a.h b.h + 3) (by lia) (Nat.le_refl _)) ((rds_t b (by lia)).up (by lia) (Nat.le_refl _)) (by lia) (by lia)
    exact (l_via F ⟨_, _, _, by rw [Go.val], .inr rfl⟩ this).up (by simp only [Go.h]; lia) (Nat.le_succ _)
  | .callG a, h => by
    simp only [Go.h] at h
    have wa := wt_small (t := a) (by lia)
    have := n_call F .G [(a.val, ev a, wt a)] false (k := 3 * a.h + 3) (fun p hp => by rw [List.mem_singleton.mp hp]; exact rds_t a (by lia)) (fun p hp => by rw [List.mem_singleton.mp hp]; exact ev_fit a) (by show _ ≤ 2; simp only [List.length_cons, List.length_nil]; decide) (by simp only [List.map_cons, List.map_nil, List.sum_cons, List.sum_nil]; lia)
      (by have q := Rs.fit_nil.snoc (ev_fit a)
          rw [Nat.zero_add] at q
          exact ⟨q.len, q.ok, fun l e => ⟨(q.val l e).1, Nat.le_succ_of_le (q.val l e).2.1, (q.val l e).2.2⟩⟩)
    have := (l_via F ⟨_, _, _, rfl, .inl rfl⟩ this).up (k' := 3 * (Go.callG a).h + 3) (W' := wg (.callG a) + 1) (by simp only [Go.h]; lia) (by simp only [wg, List.map_cons, List.map_nil, List.sum_cons, List.sum_nil]; lia)
    rw [Go.val]; simp only [egOf, en]; exact this
  | .ind a, h => by
    simp only [Go.h] at h
    exact (l_una F ⟨_, _, by rw [Go.val], .inl rfl⟩ rfl (en_fit false _) (n_ind F false (rds_t a (by lia)) (by lia))).up (by simp only [Go.h]; lia) (Nat.le_refl _)
  | .key, h => (l_una F ⟨_, _, by rw [Go.val], .inr rfl⟩ rfl (en_fit false _) ((n_key F false).up (Nat.le_refl _) (by simp only [wg]; lia))).up (by simp only [Go.h]; lia) (Nat.le_refl _)
  | .name x, h => (l_gname F x).up (by lia) (by simp only [wg]; lia)
theorem rds_n : ∀ (g : Go) (b : Bool), g.h ≤ 8 → Rds c (A 23) (3 * g.h + 3) [g.val] [.bool b] (wg g) (en b g)
  | .item a e, b, h => by
    simp only [Go.h] at h
    exact (n_item F b ((rds_t a (by lia)).up (k' := 3 * max a.h e.h + 3) (by lia) (Nat.le_refl _)) ((rds_t e (by lia)).up (by lia) (Nat.le_refl _)) (by lia) (by lia)).up (by simp only [Go.h]; lia) (Nat.le_refl _)
  | .callG a, b, h => by
    simp only [Go.h] at h
    have wa := wt_small (t := a) (by lia)
    have := n_call F .G [(a.val, ev a, wt a)] b (k := 3 * a.h + 3) (fun p hp => by rw [List.mem_singleton.mp hp]; exact rds_t a (by lia)) (fun p hp => by rw [List.mem_singleton.mp hp]; exact ev_fit a) (by show _ ≤ 2; simp only [List.length_cons, List.length_nil]; decide) (by simp only [List.map_cons, List.map_nil, List.sum_cons, List.sum_nil]; lia)
      (by have q := Rs.fit_nil.snoc (ev_fit a)
          rw [Nat.zero_add] at q
          exact ⟨q.len, q.ok, fun l e => ⟨(q.val l e).1, Nat.le_succ_of_le (q.val l e).2.1, (q.val l e).2.2⟩⟩)
    have := this.up (k' := 3 * (Go.callG a).h + 3) (W' := wg (.callG a)) (by simp only [Go.h]; lia) (by simp only [wg, List.map_cons, List.map_nil, List.sum_cons, List.sum_nil]; lia)
    rw [Go.val]; simp only [en]; exact this
  | .ind a, b, h => by
    simp only [Go.h] at h
    exact (n_ind F b (rds_t a (by lia)) (by lia)).up (by simp only [Go.h]; lia) (Nat.le_refl _)
  | .key, b, h => (n_key F b).up (by lia) (by simp only [wg]; lia)
  | .name x, b, h => (n_name F x b).up (by lia) (by simp only [wg]; lia)
end
end

/-! the machine of orders -/
noncomputable def PV.str : PV → Str
  | .txt s => s
  | .num n => Str.ofString (toString ((n.val : Nat) : Int))
inductive DoM : Ord → List Str → List Note → List Str → Bool → Prop
  | push (v : PV) (s : List Str) : DoM (.push v) s [] (s ++ [v.str]) true
  | varA (s : List Str) : DoM (.var .A) s [.read .A] (s ++ [Nm.A.s]) true
  | varB (s : List Str) : DoM (.var .B) s [.read .B] (s ++ [Nm.B.s]) true
  | varX (s : List Str) : DoM (.var .X) s [.read .X] (s ++ [Nm.X.s]) true
  | varZ (s : List Str) : DoM (.var .Z) s [.read .Z] s false
  | ref (x : Nm) (s : List Str) : DoM (.ref x) s [] (s ++ ["." ++ x.s]) true
  | kw (s : List Str) : DoM .kw s [] (s ++ [("&" : Str) ++ "K"]) true
  | delayed (g : Go) (s : List Str) : g.h ≤ 8 → DoM (.delayed g) s [] (s ++ ["*" ++ g.data.shown]) true
  | indirect (s : List Str) (a : Str) : DoM .indirect (s ++ [a]) [] (s ++ ["$" ++ a]) true
  | value (s : List Str) (a : Str) : DoM .value (s ++ [a]) [.value a] (s ++ [a]) true
  | call (f : Fn) (b : Bool) (s args : List Str) : args.length ≤ 2 → DoM (.call f args.length b) (s ++ args) [.call "call" f.s args b] (s ++ [callStr b f.s args]) true
  | item (b : Bool) (s : List Str) (x y : Str) : DoM (.item b) (s ++ [x, y]) [.call "item" "" [x, y] b] (s ++ [callStr b "item" [x, y]]) true
  | cursor (s : List Str) (a : Str) : DoM .cursor (s ++ [a]) [] (s ++ ["(@" ++ a ++ ")"]) true
  | neg (s : List Str) (a : Str) : DoM .neg (s ++ [a]) [] (s ++ ["(-" ++ a ++ ")"]) true
  | join (s : List Str) (a b : Str) : DoM .join (s ++ [a, b]) [] (s ++ ["(" ++ a ++ " " ++ b ++ ")"]) true
  | bin (op : B3) (s : List Str) (a b : Str) : DoM (.bin op) (s ++ [a, b]) [] (s ++ ["(" ++ a ++ op.s ++ b ++ ")"]) true
  | given (op : B2) (s : List Str) (a b : Str) : DoM (.given op) (s ++ [a, b]) [] (s ++ ["(" ++ a ++ op.s ++ b ++ ")"]) true
  | drop (s : List Str) (a : Str) : DoM .drop (s ++ [a]) [] s true
  | double (s : List Str) (a : Str) : DoM .double (s ++ [a]) [] (s ++ [a] ++ [a]) true
  | mtch (s : List Str) (a b : Str) : DoM .mtch (s ++ [a, b]) [.done "MATCH" [a, b]] s true
  | assign (s : List Str) (a b : Str) : DoM .assign (s ++ [a, b]) [.done "ASSIGN" [a, b]] s true
  | replace (s : List Str) (a b : Str) : DoM .replace (s ++ [a, b]) [.done "REPLACE" [a, b]] s true
  | fail (s : List Str) : DoM .fail s [] s false
/-- a stack that is small -/
noncomputable def Sm (s : List Str) : Prop := s.length ≤ 100000 ∧ ∀ x ∈ s, x.length ≤ 400000
structure MSt where
  at_ : Nat
  s : List Str
  g : List (Nat × Nat)
  h : Nat
  ns : List Note
noncomputable abbrev MR := Option (List Str × Nat) × List Note
inductive Runs (os : List Ord) : Nat → MSt → MR → Prop
  | stop {a : Nat} {s : List Str} {g : List (Nat × Nat)} {h : Nat} {ns : List Note} : os.length ≤ a → Runs os 0 ⟨a, s, g, h, ns⟩ (some (s, h), ns)
  | guard {k a n : Nat} {s : List Str} {g : List (Nat × Nat)} {h : Nat} {ns : List Note} {R : MR} : os[a]? = some (.guard n) → g.length ≤ 100000 → Runs os k ⟨a + 1, s, g ++ [(a + n, s.length)], max h s.length, ns⟩ R → Runs os (k + 1) ⟨a, s, g, h, ns⟩ R
  | unguard {k a : Nat} {s : List Str} {g : List (Nat × Nat)} {x : Nat × Nat} {h : Nat} {ns : List Note} {R : MR} : os[a]? = some .unguard → g.length ≤ 100000 → Runs os k ⟨a + 1, s, g, max h s.length, ns⟩ R → Runs os (k + 1) ⟨a, s, g ++ [x], h, ns⟩ R
  | good {k a : Nat} {o : Ord} {s s' : List Str} {g : List (Nat × Nat)} {h : Nat} {ns new : List Note} {R : MR} : os[a]? = some o → DoM o s new s' true → Sm s' → (ns ++ new).length ≤ 900000 → Runs os k ⟨a + 1, s', g, max h s'.length, ns ++ new⟩ R → Runs os (k + 1) ⟨a, s, g, h, ns⟩ R
  | dead {a : Nat} {o : Ord} {s s' : List Str} {h : Nat} {ns new : List Note} : os[a]? = some o → DoM o s new s' false → (ns ++ new).length ≤ 900000 → Runs os 1 ⟨a, s, [], h, ns⟩ (none, ns ++ new)
  | jump {k a b ht : Nat} {o : Ord} {s s' : List Str} {g : List (Nat × Nat)} {h : Nat} {ns new : List Note} {R : MR} : os[a]? = some o → DoM o s new s' false → (ns ++ new).length ≤ 900000 → g.length ≤ 100000 → Runs os k ⟨b, s'.take ht, g, h, ns ++ new⟩ R → Runs os (k + 1) ⟨a, s, g ++ [(b, ht)], h, ns⟩ R
theorem Runs.elim {os : List Ord} {k a : Nat} {s : List Str} {g : List (Nat × Nat)} {h : Nat} {ns : List Note} {R : MR} {P : Prop} (run : Runs os k ⟨a, s, g, h, ns⟩ R)
    (stop : os.length ≤ a → R = (some (s, h), ns) → P)
    (guard : ∀ j n, k = j + 1 → os[a]? = some (.guard n) → g.length ≤ 100000 → Runs os j ⟨a + 1, s, g ++ [(a + n, s.length)], max h s.length, ns⟩ R → P)
    (unguard : ∀ j g' x, k = j + 1 → g = g' ++ [x] → os[a]? = some .unguard → g'.length ≤ 100000 → Runs os j ⟨a + 1, s, g', max h s.length, ns⟩ R → P)
    (step : ∀ o s' new b, os[a]? = some o → DoM o s new s' b → (ns ++ new).length ≤ 900000 → ((b = true ∧ ∃ j, k = j + 1 ∧ Sm s' ∧ Runs os j ⟨a + 1, s', g, max h s'.length, ns ++ new⟩ R) ∨ (b = false ∧ g = [] ∧ R = (none, ns ++ new)) ∨
      (b = false ∧ ∃ j b ht g', k = j + 1 ∧ g = g' ++ [(b, ht)] ∧ g'.length ≤ 100000 ∧ Runs os j ⟨b, s'.take ht, g', h, ns ++ new⟩ R)) → P) : P := by
  cases run with
  | stop a1 => exact stop a1 rfl
  | guard a1 a2 a3 => exact guard _ _ rfl a1 a2 a3
  | unguard a1 a2 a3 => exact unguard _ _ _ rfl rfl a1 a2 a3
  | good a1 a2 a3 a4 a5 => exact step _ _ _ _ a1 a2 a4 (.inl ⟨rfl, _, rfl, a3, a5⟩)
  | dead a1 a2 a3 => exact step _ _ _ _ a1 a2 a3 (.inr (.inl ⟨rfl, rfl, rfl⟩))
  | jump a1 a2 a3 a4 a5 => exact step _ _ _ _ a1 a2 a3 (.inr (.inr ⟨rfl, _, _, _, _, rfl, rfl, a4, a5⟩))
theorem DoM.same {o : Ord} {s s' : List Str} {new : List Note} {b : Bool} (h : DoM o s new s' b) : b = false → s' = s := by
  induction h <;> intro e <;> first | rfl | exact Bool.noConfusion e

/-! the plain law of the orders -/
noncomputable def chg : Ord → Int
  | .push _ | .var _ | .ref _ | .kw | .delayed _ | .double => 1
  | .call _ n _ => 1 - n
  | .item _ | .bin _ | .join | .given _ | .drop => -1
  | .mtch | .assign | .replace => -2
  | .indirect | .value | .cursor | .neg | .guard _ | .unguard | .fail => 0
noncomputable def Hs : List Ord → Int
  | [] => 0
  | o :: os => chg o + Hs os
noncomputable def Mx : List Ord → Int
  | [] => 0
  | o :: os => max 0 (chg o + Mx os)
theorem Hs_app (a b : List Ord) : Hs (a ++ b) = Hs a + Hs b := by
  induction a with
  | nil => simp [Hs]
  | cons o a ih => simp only [List.cons_append, Hs, ih]; lia
theorem Mx_nn (a : List Ord) : 0 ≤ Mx a := by
  cases a with
  | nil => exact Int.le_refl _
  | cons o a => simp only [Mx]; lia
theorem iadd_max (a b c : Int) : max (a + b) (a + c) = a + max b c := by
  rcases Int.le_total b c with h | h
  · rw [Int.max_eq_right h, Int.max_eq_right (Int.add_le_add_left h a)]
  · rw [Int.max_eq_left h, Int.max_eq_left (Int.add_le_add_left h a)]
theorem imax_right {a b c : Int} (h : a ≤ c) : a ≤ max b c := Int.le_trans h (Int.le_max_right ..)
theorem imono {h a b : Int} (e : a ≤ b) : max h a ≤ max h b := Int.max_le.mpr ⟨Int.le_max_left .., imax_right e⟩
theorem nmax_le {a b : Nat} {M : Int} (x : (a : Int) ≤ M) (y : (b : Int) ≤ M) : ((max a b : Nat) : Int) ≤ M := by
  rcases Nat.le_total a b with h | h
  · rw [Nat.max_eq_right h]; exact y
  · rw [Nat.max_eq_left h]; exact x
theorem Mx_app (a b : List Ord) : Mx (a ++ b) = max (Mx a) (Hs a + Mx b) := by
  induction a with
  | nil => simp only [List.nil_append, Mx, Hs]; rw [Int.zero_add, Int.max_eq_right (Mx_nn b)]
  | cons o a ih => simp only [List.cons_append, Mx, Hs, ih]; rw [← iadd_max, Int.max_assoc, Int.add_assoc]
theorem Mx_l (a b : List Ord) : Mx a ≤ Mx (a ++ b) := by rw [Mx_app]; exact Int.le_max_left ..
theorem app_max {h h1 h2 s t a b k : Int} (b1 : h1 ≤ max h (s + a)) (b2 : h2 ≤ max h1 (t + b)) (e : t ≤ s + k) : h2 ≤ max h (s + max a (k + b)) := by
  refine Int.le_trans b2 (Int.max_le.mpr ⟨Int.le_trans b1 (imono (Int.add_le_add_left (Int.le_max_left ..) s)), imax_right ?_⟩)
  rw [← iadd_max]
  exact imax_right (by lia)
theorem not_max {h h' s : Nat} {a M : Int} (b1 : (h' : Int) ≤ max ((max h s : Nat) : Int) (s + a)) (e1 : a ≤ M) (e2 : 1 ≤ M) : ((max h' (s + 1) : Nat) : Int) ≤ max (h : Int) (s + M) :=
  nmax_le (Int.le_trans b1 (Int.max_le.mpr ⟨nmax_le (Int.le_max_left ..) (imax_right (by lia)), imax_right (Int.add_le_add_left e1 _)⟩)) (imax_right (by lia))
theorem Hs_le (a : List Ord) : Hs a ≤ Mx a := by
  induction a with
  | nil => exact Int.le_refl _
  | cons o a ih => simp only [Mx, Hs]; lia
noncomputable def Fails (os : List Ord) (s : List Str) (g : List (Nat × Nat)) (h : Nat) (ns : List Note) (R : MR) : Prop :=
  (g = [] ∧ R = (none, ns)) ∨ ∃ g' b ht k, g = g' ++ [(b, ht)] ∧ g'.length ≤ 100000 ∧ Runs os k ⟨b, s.take ht, g', h, ns⟩ R
theorem fail_step {os : List Ord} {a : Nat} {o : Ord} {s s' : List Str} {g : List (Nat × Nat)} {h : Nat} {ns new : List Note} {R : MR} (hx : os[a]? = some o) (hd : DoM o s new s' false) (hz : (ns ++ new).length ≤ 900000) (F : Fails os s' g h (ns ++ new) R) : ∃ k, Runs os k ⟨a, s, g, h, ns⟩ R := by
  rcases F with ⟨rfl, rfl⟩ | ⟨g', b, ht, k, rfl, hg, r⟩
  · exact ⟨1, .dead hx hd hz⟩
  · exact ⟨k + 1, .jump hx hd hz hg r⟩
noncomputable def Rs.app (r q : Rs) : Rs := match r.2 with
  | none => (r.1, none)
  | some l => match q.2 with
    | none => (r.1 ++ q.1, none)
    | some l' => (r.1 ++ q.1, some (l ++ l'))
noncomputable def Rs.op (r : Rs) (f : List Str → List Str) (new : List Str → List Note) : Rs := match r.2 with
  | none => (r.1, none)
  | some l => (r.1 ++ new l, some (f l))
noncomputable def Rv.rs (r : Rv) : Rs := (r.1, r.2.map fun v => [v])
structure SegN (sg : List Ord) (W n : Nat) (rs : Rs) : Prop where
  hs : (n : Int) ≤ Hs sg
  out : ∀ l, rs.2 = some l → l.length = n ∧ ∀ x ∈ l, x.length ≤ 400000
  nts : rs.1.length ≤ W
  nw : n ≤ W
  good : ∀ (os pre post : List Ord) (s : List Str) (g : List (Nat × Nat)) (h : Nat) (ns : List Note), os = pre ++ sg ++ post → s.length + W ≤ 100000 → (∀ x ∈ s, x.length ≤ 400000) → g.length + W ≤ 100000 → ns.length + W ≤ 900000 →
    ∀ l, rs.2 = some l → ∃ h' : Nat, (h' : Int) ≤ max (h : Int) (s.length + Mx sg) ∧ ∀ k R, Runs os k ⟨pre.length + sg.length, s ++ l, g, h', ns ++ rs.1⟩ R → ∃ k', Runs os k' ⟨pre.length, s, g, h, ns⟩ R
  bad : ∀ (os pre post : List Ord) (s : List Str) (g : List (Nat × Nat)) (h : Nat) (ns : List Note), os = pre ++ sg ++ post → s.length + W ≤ 100000 → (∀ x ∈ s, x.length ≤ 400000) → g.length + W ≤ 100000 → ns.length + W ≤ 900000 →
    rs.2 = none → ∃ (h' : Nat) (e : List Str), (h' : Int) ≤ max (h : Int) (s.length + Mx sg) ∧ ∀ R, Fails os (s ++ e) g h' (ns ++ rs.1) R → ∃ k', Runs os k' ⟨pre.length, s, g, h, ns⟩ R
theorem SegN.up {sg : List Ord} {W W' n : Nat} {rs : Rs} (h : SegN sg W n rs) (e : W ≤ W') : SegN sg W' n rs :=
  ⟨h.hs, h.out, Nat.le_trans h.nts e, Nat.le_trans h.nw e, fun os pre post s g hh ns ho h1 h2 h3 h4 => h.good os pre post s g hh ns ho (by lia) h2 (by lia) (by lia), fun os pre post s g hh ns ho h1 h2 h3 h4 => h.bad os pre post s g hh ns ho (by lia) h2 (by lia) (by lia)⟩
theorem SegN.nil : SegN [] 0 0 Rs.nil where
  hs := Int.le_refl _
  out := fun l h => by cases h; exact ⟨rfl, fun x h => (by cases h)⟩
  nts := Nat.le_refl _
  nw := Nat.le_refl _
  good := fun os pre post s g h ns ho _ _ _ _ l hl => by
    cases hl
    exact ⟨h, by lia, fun k R r => ⟨k, by simpa [Rs.nil] using r⟩⟩
  bad := fun os pre post s g h ns ho _ _ _ _ hl => by cases hl
theorem SegN.app {sa sb : List Ord} {W V n m : Nat} {r q : Rs} (A : SegN sa W n r) (B : SegN sb V m q) : SegN (sa ++ sb) (W + V) (n + m) (r.app q) where
  hs := by have := A.hs; have := B.hs; rw [Hs_app]; lia
  out := fun l h => by
    unfold Rs.app at h
    cases e : r.2 with
    | none => rw [e] at h; cases h
    | some l₁ =>
      rw [e] at h; dsimp only at h
      cases e' : q.2 with
      | none => rw [e'] at h; cases h
      | some l₂ =>
        rw [e'] at h; cases h
        obtain ⟨a1, a2⟩ := A.out l₁ e
        obtain ⟨b1, b2⟩ := B.out l₂ e'
        exact ⟨by rw [List.length_append]; lia, fun x hx => (List.mem_append.mp hx).elim (a2 x) (b2 x)⟩
  nts := by
    have := A.nts; have := B.nts
    unfold Rs.app
    cases e : r.2 with
    | none => dsimp only; lia
    | some l₁ => dsimp only; cases e' : q.2 <;> (simp only [List.length_append]; lia)
  nw := by have := A.nw; have := B.nw; lia
  good := fun os pre post s g h ns ho z1 z2 z3 z4 l hl => by
    unfold Rs.app at hl ⊢
    cases e : r.2 with
    | none => rw [e] at hl; cases hl
    | some l₁ =>
      rw [e] at hl; dsimp only at hl ⊢
      cases e' : q.2 with
      | none => rw [e'] at hl; cases hl
      | some l₂ =>
        rw [e'] at hl; cases hl
        obtain ⟨a1, a2⟩ := A.out l₁ e
        have an := A.nts
        have aw := A.nw
        obtain ⟨h₁, b1, k1⟩ := A.good os pre (sb ++ post) s g h ns (by rw [ho]; simp) (by lia) z2 (by lia) (by lia) l₁ e
        obtain ⟨h₂, b2, k2⟩ := B.good os (pre ++ sa) post (s ++ l₁) g h₁ (ns ++ r.1) (by rw [ho]; simp) (by rw [List.length_append]; lia) (fun x hx => (List.mem_append.mp hx).elim (z2 x) (a2 x)) (by lia) (by rw [List.length_append]; lia) l₂ e'
        refine ⟨h₂, ?_, fun k R rr => ?_⟩
        · rw [Mx_app]
          exact app_max b1 b2 (by rw [List.length_append, a1, Int.natCast_add]; exact Int.add_le_add_left A.hs _)
        · obtain ⟨k', r'⟩ := k2 k R (by simpa [List.append_assoc, Nat.add_assoc] using rr)
          exact k1 k' R (by simpa using r')
  bad := fun os pre post s g h ns ho z1 z2 z3 z4 hl => by
    unfold Rs.app at hl ⊢
    cases e : r.2 with
    | none =>
      dsimp only
      obtain ⟨h₁, ex, b1, k1⟩ := A.bad os pre (sb ++ post) s g h ns (by rw [ho]; simp) (by lia) z2 (by lia) (by lia) e
      exact ⟨h₁, ex, Int.le_trans b1 (imono (Int.add_le_add_left (Mx_l ..) _)), k1⟩
    | some l₁ =>
      rw [e] at hl; dsimp only at hl ⊢
      cases e' : q.2 with
      | some l₂ => rw [e'] at hl; cases hl
      | none =>
        obtain ⟨a1, a2⟩ := A.out l₁ e
        have an := A.nts
        have aw := A.nw
        obtain ⟨h₁, b1, k1⟩ := A.good os pre (sb ++ post) s g h ns (by rw [ho]; simp) (by lia) z2 (by lia) (by lia) l₁ e
        obtain ⟨h₂, ex, b2, k2⟩ := B.bad os (pre ++ sa) post (s ++ l₁) g h₁ (ns ++ r.1) (by rw [ho]; simp) (by rw [List.length_append]; lia) (fun x hx => (List.mem_append.mp hx).elim (z2 x) (a2 x)) (by lia) (by rw [List.length_append]; lia) e'
        refine ⟨h₂, l₁ ++ ex, ?_, fun R rr => ?_⟩
        · rw [Mx_app]
          exact app_max b1 b2 (by rw [List.length_append, a1, Int.natCast_add]; exact Int.add_le_add_left A.hs _)
        · obtain ⟨k', r'⟩ := k2 R (by simpa [List.append_assoc] using rr)
          exact k1 k' R (by simpa using r')
theorem at_end {os pre sg post : List Ord} {o : Ord} (ho : os = pre ++ (sg ++ [o]) ++ post) : os[pre.length + sg.length]? = some o := by
  rw [ho]
  simp [List.getElem?_append]
theorem op_hs {sg : List Ord} {n m : Nat} {o : Ord} (h : (n : Int) ≤ Hs sg) (hc : chg o = (m : Int) - n) : (m : Int) ≤ Hs (sg ++ [o]) := by
  rw [Hs_app]; simp only [Hs]; lia
theorem SegN.op {sg : List Ord} {W n m : Nat} {rs : Rs} {o : Ord} {f : List Str → List Str} {new : List Str → List Note} (A : SegN sg W n rs) (hc : chg o = (m : Int) - n) (hm : m ≤ n + 1) (hn : ∀ l, (new l).length ≤ 1)
    (hd : ∀ s l, rs.2 = some l → l.length = n → DoM o (s ++ l) (new l) (s ++ f l) true ∧ (f l).length = m ∧ ∀ x ∈ f l, x.length ≤ 400000) : SegN (sg ++ [o]) (W + 1) m (rs.op f new) where
  hs := op_hs A.hs hc
  out := fun l h => by
    unfold Rs.op at h
    cases e : rs.2 with
    | none => rw [e] at h; cases h
    | some l₁ =>
      rw [e] at h; cases h
      exact (hd [] l₁ e (A.out l₁ e).1).2
  nts := by
    have := A.nts
    unfold Rs.op
    cases e : rs.2 with
    | none => dsimp only; lia
    | some l₁ => have := hn l₁; simp only [List.length_append]; lia
  nw := by have := A.nw; lia
  good := fun os pre post s g h ns ho z1 z2 z3 z4 l hl => by
    unfold Rs.op at hl ⊢
    cases e : rs.2 with
    | none => rw [e] at hl; cases hl
    | some l₁ =>
      rw [e] at hl; cases hl
      obtain ⟨a1, a2⟩ := A.out l₁ e
      obtain ⟨d1, d2, d3⟩ := hd s l₁ e a1
      have an := A.nts
      have aw := A.nw
      have hn1 := hn l₁
      obtain ⟨h₁, b1, k1⟩ := A.good os pre ([o] ++ post) s g h ns (by rw [ho]; simp) (by lia) z2 (by lia) (by lia) l₁ e
      refine ⟨max h₁ (s ++ f l₁).length, ?_, fun k R rr => ?_⟩
      · refine nmax_le (Int.le_trans b1 (imono (Int.add_le_add_left (Mx_l ..) _))) (imax_right ?_)
        rw [List.length_append, d2, Int.natCast_add]
        exact Int.add_le_add_left (Int.le_trans (op_hs A.hs hc) (Hs_le _)) _
      · refine k1 (k + 1) R (.good (at_end ho) d1 ⟨by rw [List.length_append]; lia, fun x hx => (List.mem_append.mp hx).elim (z2 x) (d3 x)⟩ (by simp only [List.length_append]; lia) ?_)
        simpa [List.append_assoc, Nat.add_assoc] using rr
  bad := fun os pre post s g h ns ho z1 z2 z3 z4 hl => by
    unfold Rs.op at hl ⊢
    cases e : rs.2 with
    | some l₁ => rw [e] at hl; cases hl
    | none =>
      dsimp only
      obtain ⟨h₁, ex, b1, k1⟩ := A.bad os pre ([o] ++ post) s g h ns (by rw [ho]; simp) (by lia) z2 (by lia) (by lia) e
      exact ⟨h₁, ex, Int.le_trans b1 (imono (Int.add_le_add_left (Mx_l ..) _)), k1⟩
/-- the whole run of a segment -/
theorem SegN.run {sg : List Ord} {W n : Nat} {rs : Rs} (A : SegN sg W n rs) (hW : W ≤ 90000) : ∃ k R, Runs sg k ⟨0, [], [], 0, []⟩ R ∧ R.2 = rs.1 ∧ (rs.2 = none → R.1 = none) ∧ ∀ l, rs.2 = some l → ∃ h : Nat, R.1 = some (l, h) ∧ (h : Int) ≤ Mx sg := by
  cases e : rs.2 with
  | none =>
    obtain ⟨h', ex, _, k⟩ := A.bad sg [] [] [] [] 0 [] (by simp) (by simp only [List.length_nil]; lia) (fun x hx => by cases hx) (by simp only [List.length_nil]; lia) (by simp only [List.length_nil]; lia) e
    obtain ⟨k', r⟩ := k (none, [] ++ rs.1) (.inl ⟨rfl, rfl⟩)
    exact ⟨k', _, r, rfl, fun _ => rfl, fun l q => (by cases q)⟩
  | some l =>
    obtain ⟨h', b, k⟩ := A.good sg [] [] [] [] 0 [] (by simp) (by simp only [List.length_nil]; lia) (fun x hx => by cases hx) (by simp only [List.length_nil]; lia) (by simp only [List.length_nil]; lia) l e
    obtain ⟨k', r⟩ := k 0 (some ([] ++ l, h'), [] ++ rs.1) (.stop (by simp))
    refine ⟨k', _, r, rfl, fun q => (by cases q), fun l' q => ?_⟩
    cases q
    refine ⟨h', rfl, ?_⟩
    have := Mx_nn sg
    simp only [List.length_nil] at b
    lia

theorem snoc_app (r : Rs) (v : Rv) : r.snoc v = r.app v.rs := by
  obtain ⟨n1, v1⟩ := r
  obtain ⟨n2, v2⟩ := v
  cases v1 <;> cases v2 <;> rfl
theorem nil_app (r : Rs) : Rs.nil.app r = r := by
  obtain ⟨n, v⟩ := r
  cases v <;> simp [Rs.nil, Rs.app]
noncomputable def f1 (p q : Str) : List Str → List Str
  | [a] => [p ++ a ++ q]
  | _ => []
noncomputable def f2 (op : Str) : List Str → List Str
  | [a, b] => ["(" ++ a ++ op ++ b ++ ")"]
  | _ => []
noncomputable def v1 : List Str → List Note
  | [a] => [.value a]
  | _ => []
theorem rs_two (a b : Rv) (op : Str) : (a.bind fun x => b.map fun y => "(" ++ x ++ op ++ y ++ ")").rs = (a.rs.app b.rs).op (f2 op) (fun _ => []) := by
  obtain ⟨n1, v1⟩ := a
  obtain ⟨n2, v2⟩ := b
  cases v1 <;> cases v2 <;> simp [Rv.rs, Rv.bind, Rv.map, Rs.app, Rs.op, f2]
theorem rs_call (r : Rs) (k nm sh : Str) (b : Bool) : (r.call k nm sh b).rs = r.op (fun l => [callStr b sh l]) (fun l => [.call k nm l b]) := by
  obtain ⟨n1, v1⟩ := r
  cases v1 <;> simp [Rv.rs, Rs.call, Rs.op]
theorem rs_map (a : Rv) (f : Str → Str) (F : List Str → List Str) (h : ∀ x, F [x] = [f x]) : (a.map f).rs = a.rs.op F (fun _ => []) := by
  obtain ⟨n1, v1⟩ := a
  cases v1 <;> simp [Rv.rs, Rv.map, Rs.op, h]
theorem rs_value (a : Rv) : (a.bind fun s => ([.value s], some s)).rs = a.rs.op (fun l => l) v1 := by
  obtain ⟨n1, v1⟩ := a
  cases v1 <;> simp [Rv.rs, Rv.bind, Rs.op, Mine.v1]
theorem SegN.op1 {sg : List Ord} {W n V : Nat} {rs : Rs} {o : Ord} {f : List Str → List Str} {new : List Str → List Note} {r : Rv} (A : SegN sg W n rs) (hf : r.Fit V) (hV : 16 * V ≤ 400000) (eq : r.rs = rs.op f new) (hc : chg o = (1 : Int) - n) (hn : ∀ l, (new l).length ≤ 1)
    (hd : ∀ s l, l.length = n → DoM o (s ++ l) (new l) (s ++ f l) true ∧ (f l).length = 1) : SegN (sg ++ [o]) (W + 1) 1 r.rs := by
  rw [eq]
  refine A.op hc (by lia) hn fun s l hl hln => ⟨(hd s l hln).1, (hd s l hln).2, fun x hx => ?_⟩
  have e : r.rs.2 = some (f l) := by rw [eq]; unfold Rs.op; rw [hl]
  unfold Rv.rs at e
  dsimp only at e
  cases e' : r.2 with
  | none => rw [e'] at e; cases e
  | some v =>
    rw [e'] at e
    have : f l = [v] := (Option.some.inj e).symm
    rw [this] at hx
    rw [List.mem_singleton.mp hx]
    have := (hf.val v e').1
    lia
theorem len_one {l : List Str} (h : l.length = 1) : ∃ a, l = [a] := len1 h
theorem seg_push (v : PV) {s : Str} (h : v.str = s) (hl : s.length ≤ 400000) : SegN [.push v] 1 1 ([], some [s]) := by
  have := SegN.nil.op (o := .push v) (f := fun _ => [s]) (new := fun _ => []) (m := 1) rfl (by lia) (fun _ => Nat.zero_le _) fun t l hl' hln => by
    have : l = [] := List.eq_nil_of_length_eq_zero hln
    subst this
    rw [List.append_nil]
    exact ⟨h ▸ DoM.push v t, rfl, fun x hx => by rw [List.mem_singleton.mp hx]; exact hl⟩
  exact this
theorem seg_lit {o : Ord} {s : Str} (hc : chg o = 1) (hd : ∀ t, DoM o t [] (t ++ [s]) true) (hl : s.length ≤ 400000) : SegN [o] 1 1 ([], some [s]) := by
  have := SegN.nil.op (o := o) (f := fun _ => [s]) (new := fun _ => []) (m := 1) hc (by lia) (fun _ => Nat.zero_le _) fun t l hl' hln => by
    have : l = [] := List.eq_nil_of_length_eq_zero hln
    subst this
    rw [List.append_nil]
    exact ⟨hd t, rfl, fun x hx => by rw [List.mem_singleton.mp hx]; exact hl⟩
  exact this
theorem seg_var {o : Ord} {s : Str} {x : Note} (hc : chg o = 1) (hd : ∀ t, DoM o t [x] (t ++ [s]) true) (hl : s.length ≤ 400000) : SegN [o] 1 1 ([x], some [s]) := by
  have := SegN.nil.op (o := o) (f := fun _ => [s]) (new := fun _ => [x]) (m := 1) hc (by lia) (fun _ => Nat.le_refl _) fun t l hl' hln => by
    have : l = [] := List.eq_nil_of_length_eq_zero hln
    subst this
    rw [List.append_nil]
    exact ⟨hd t, rfl, fun x hx => by rw [List.mem_singleton.mp hx]; exact hl⟩
  exact this
theorem seg_read (x : Nm) : SegN [.var x] 1 1 (readR x).rs := by
  have hl := len_nm x
  cases x with
  | A => exact seg_var rfl (fun t => .varA t) (by lia)
  | B => exact seg_var rfl (fun t => .varB t) (by lia)
  | X => exact seg_var rfl (fun t => .varX t) (by lia)
  | Z =>
    refine ⟨by decide, (fun l h => (by cases h)), Nat.le_refl _, Nat.le_refl _, (fun os pre post s g h ns ho z1 z2 z3 z4 l hl => (by cases hl)), fun os pre post s g h ns ho z1 z2 z3 z4 _ => ⟨h, [], (by lia), fun R F => ?_⟩⟩
    rw [List.append_nil] at F
    exact fail_step (by rw [ho]; simp) (.varZ s) (by simp only [List.length_append, List.length_cons, List.length_nil]; lia) F
theorem at_here {os x y : List Ord} {o : Ord} {i : Nat} (h : os = x ++ o :: y) (e : i = x.length) : os[i]? = some o := by
  subst h; subst e; simp
theorem not_hs {sg : List Ord} {k : Nat} (h : ((1 : Nat) : Int) ≤ Hs sg) : ((1 : Nat) : Int) ≤ Hs (([.guard k] ++ sg) ++ [.unguard, .fail, .push (.txt "")]) := by
  simp only [Hs_app, Hs, chg]; lia
theorem seg_not {sg : List Ord} {W : Nat} {r : Rv} (A : SegN sg W 1 r.rs) : SegN (([.guard (sg.length + 3)] ++ sg) ++ [.unguard, .fail, .push (.txt "")]) (W + 4) 1 (Rv.rs (r.1, match r.2 with | none => some "" | some _ => none)) where
  hs := not_hs A.hs
  out := fun l h => by
    unfold Rv.rs at h
    cases e : r.2 with
    | none => rw [e] at h; cases h; exact ⟨rfl, fun x hx => by rw [List.mem_singleton.mp hx, e0_len]; lia⟩
    | some v => rw [e] at h; cases h
  nts := by have := A.nts; show r.1.length ≤ _; have : r.rs.1.length = r.1.length := rfl; lia
  nw := by lia
  good := fun os pre post s g h ns ho z1 z2 z3 z4 l hl => by
    unfold Rv.rs at hl
    cases e : r.2 with
    | some v => rw [e] at hl; cases hl
    | none =>
      rw [e] at hl; cases hl
      obtain ⟨h', ex, b1, k1⟩ := A.bad os (pre ++ [.guard (sg.length + 3)]) ([.unguard, .fail, .push (.txt "")] ++ post) s (g ++ [(pre.length + (sg.length + 3), s.length)]) (max h s.length) ns (by rw [ho]; simp) (by lia) z2 (by rw [List.length_append, List.length_singleton]; lia) (by lia) (by unfold Rv.rs; rw [e]; rfl)
      have nt : r.rs.1.length = r.1.length := rfl
      have an := A.nts
      refine ⟨max h' (s ++ [("" : Str)]).length, ?_, fun k R rr => ?_⟩
      · rw [List.length_append]
        exact not_max b1 (Int.le_trans (Int.le_trans (Int.le_of_eq (Int.zero_add _).symm) (Int.le_max_right ..)) (Mx_l ([.guard (sg.length + 3)] ++ sg) _)) (Int.le_trans (not_hs A.hs) (Hs_le _))
      · have hidx : os[pre.length + (sg.length + 3)]? = some (.push (.txt "")) := by
          rw [ho]
          simp [List.getElem?_append]
        have step : Runs os (k + 1) ⟨pre.length + (sg.length + 3), s, g, h', ns ++ r.1⟩ R := by
          refine .good hidx (.push (.txt "") s) ⟨by rw [List.length_append, List.length_singleton]; lia, fun x hx => (List.mem_append.mp hx).elim (z2 x) (fun hx => by rw [List.mem_singleton.mp hx]; show (("" : Str)).length ≤ _; rw [e0_len]; lia)⟩ (by simp only [List.append_nil, List.length_append]; lia) ?_
          rw [List.append_nil]
          have e3 : pre.length + (([.guard (sg.length + 3)] ++ sg) ++ [.unguard, .fail, .push (.txt "")] : List Ord).length = pre.length + (sg.length + 3) + 1 := by
            simp only [List.length_append, List.length_cons, List.length_nil]; lia
          rw [e3] at rr
          exact rr
        obtain ⟨k', r'⟩ := k1 R (.inr ⟨g, _, _, k + 1, rfl, by lia, by
          have : (s ++ ex).take s.length = s := by simp
          rw [this]
          exact step⟩)
        refine ⟨k' + 1, .guard (n := sg.length + 3) (by rw [ho]; simp) (by lia) ?_⟩
        simpa using r'
  bad := fun os pre post s g h ns ho z1 z2 z3 z4 hl => by
    unfold Rv.rs at hl
    cases e : r.2 with
    | none => rw [e] at hl; cases hl
    | some v =>
      obtain ⟨a1, a2⟩ := A.out [v] (by unfold Rv.rs; rw [e]; rfl)
      have nt : r.rs.1.length = r.1.length := rfl
      have an := A.nts
      obtain ⟨h', b1, k1⟩ := A.good os (pre ++ [.guard (sg.length + 3)]) ([.unguard, .fail, .push (.txt "")] ++ post) s (g ++ [(pre.length + (sg.length + 3), s.length)]) (max h s.length) ns (by rw [ho]; simp) (by lia) z2 (by rw [List.length_append, List.length_singleton]; lia) (by lia) [v] (by unfold Rv.rs; rw [e]; rfl)
      refine ⟨max h' (s ++ [v]).length, [v], ?_, fun R F => ?_⟩
      · rw [List.length_append]
        exact not_max b1 (Int.le_trans (Int.le_trans (Int.le_of_eq (Int.zero_add _).symm) (Int.le_max_right ..)) (Mx_l ([.guard (sg.length + 3)] ++ sg) _)) (Int.le_trans (not_hs A.hs) (Hs_le _))
      · have hidx1 : os[(pre ++ [Ord.guard (sg.length + 3)]).length + sg.length]? = some .unguard :=
          at_here (x := pre ++ Ord.guard (sg.length + 3) :: sg) (y := .fail :: .push (.txt "") :: post) (by rw [ho]; simp) (by simp only [List.length_append, List.length_cons, List.length_nil]; lia)
        have hidx2 : os[(pre ++ [Ord.guard (sg.length + 3)]).length + sg.length + 1]? = some .fail :=
          at_here (x := pre ++ Ord.guard (sg.length + 3) :: sg ++ [.unguard]) (y := .push (.txt "") :: post) (by rw [ho]; simp) (by simp only [List.length_append, List.length_cons, List.length_nil]; lia)
        obtain ⟨k2, r2⟩ := fail_step hidx2 (.fail (s ++ [v])) (by simp only [List.append_nil, List.length_append]; lia) (show Fails os (s ++ [v]) g (max h' (s ++ [v]).length) ((ns ++ r.1) ++ []) R by rw [List.append_nil]; exact F)
        obtain ⟨k3, r3⟩ := k1 (k2 + 1) R (.unguard hidx1 (by lia) r2)
        refine ⟨k3 + 1, .guard (n := sg.length + 3) (by rw [ho]; simp) (by lia) ?_⟩
        simpa using r3

theorem fit400 {t : Tr} (h : t.h ≤ 8) : 16 * wt t ≤ 400000 := by have := wt_small h; lia
theorem fitg400 {g : Go} (h : g.h ≤ 8) : 16 * (wg g + 1) ≤ 400000 := by have := wg_small h; lia
theorem seg_two {sa sb : List Ord} {W V X : Nat} {a b : Rv} {op : Str} {o : Ord} (A : SegN sa W 1 a.rs) (B : SegN sb V 1 b.rs) (hf : (a.bind fun x => b.map fun y => "(" ++ x ++ op ++ y ++ ")").Fit X) (hX : 16 * X ≤ 400000) (hc : chg o = -1) (hd : ∀ s x y, DoM o (s ++ [x, y]) [] (s ++ ["(" ++ x ++ op ++ y ++ ")"]) true) :
    SegN ((sa ++ sb) ++ [o]) (W + V + 1) 1 (a.bind fun x => b.map fun y => "(" ++ x ++ op ++ y ++ ")").rs :=
  (A.app B).op1 hf hX (rs_two a b op) (by rw [hc]; rfl) (fun _ => Nat.zero_le _) fun s l hl => by
    obtain ⟨x, y, rfl⟩ := len2 hl
    exact ⟨hd s x y, rfl⟩
theorem seg_call {sg : List Ord} {W X n : Nat} {rs : Rs} {f : Fn} {b : Bool} (A : SegN sg W n rs) (hn : n ≤ 2) (hf : (rs.call "call" f.s f.s b).Fit X) (hX : 16 * X ≤ 400000) : SegN (sg ++ [.call f n b]) (W + 1) 1 (rs.call "call" f.s f.s b).rs :=
  A.op1 hf hX (rs_call rs _ _ _ b) rfl (fun _ => Nat.le_refl _) fun s l hl => by
    subst hl
    exact ⟨.call f b s l hn, rfl⟩
theorem seg_item {sg : List Ord} {W X : Nat} {rs : Rs} {b : Bool} (A : SegN sg W 2 rs) (hf : (rs.call "item" "" "item" b).Fit X) (hX : 16 * X ≤ 400000) : SegN (sg ++ [.item b]) (W + 1) 1 (rs.call "item" "" "item" b).rs :=
  A.op1 hf hX (rs_call rs _ _ _ b) rfl (fun _ => Nat.le_refl _) fun s l hl => by
    obtain ⟨x, y, rfl⟩ := len2 hl
    exact ⟨.item b s x y, rfl⟩
theorem seg_one {sg : List Ord} {W X : Nat} {a : Rv} {f : Str → Str} {o : Ord} (A : SegN sg W 1 a.rs) (hf : (a.map f).Fit X) (hX : 16 * X ≤ 400000) (hc : chg o = 0) (hd : ∀ s x, DoM o (s ++ [x]) [] (s ++ [f x]) true) : SegN (sg ++ [o]) (W + 1) 1 (a.map f).rs :=
  A.op1 (f := fun l => match l with | [x] => [f x] | _ => []) hf hX (rs_map a f _ fun _ => rfl) (by rw [hc]; rfl) (fun _ => Nat.zero_le _) fun s l hl => by
    obtain ⟨x, rfl⟩ := len1 hl
    exact ⟨hd s x, rfl⟩
theorem seg_value {sg : List Ord} {W X : Nat} {a : Rv} (A : SegN sg W 1 a.rs) (hf : (a.bind fun s => ([.value s], some s)).Fit X) (hX : 16 * X ≤ 400000) : SegN (sg ++ [.value]) (W + 1) 1 (a.bind fun s => ([.value s], some s)).rs :=
  A.op1 hf hX (rs_value a) rfl (fun l => by cases l with
    | nil => exact Nat.zero_le _
    | cons x l => cases l <;> simp [Mine.v1]) fun s l hl => by
    obtain ⟨x, rfl⟩ := len1 hl
    exact ⟨.value s x, rfl⟩
theorem seg_ask {sg : List Ord} {W : Nat} {a : Rv} (A : SegN sg W 1 a.rs) : SegN (sg ++ [.drop, .push (.txt "")]) (W + 2) 1 (a.map fun _ => "").rs := by
  have h1 := A.op (o := .drop) (f := fun _ => []) (new := fun _ => []) (m := 0) rfl (by lia) (fun _ => Nat.zero_le _) fun s l _ hl => by
    obtain ⟨x, rfl⟩ := len1 hl
    rw [List.append_nil]
    exact ⟨.drop s x, rfl, fun y hy => by cases hy⟩
  have h2 := h1.op (o := .push (.txt "")) (f := fun _ => [""]) (new := fun _ => []) (m := 1) rfl (by lia) (fun _ => Nat.zero_le _) fun s l _ hl => by
    have : l = [] := List.eq_nil_of_length_eq_zero hl
    subst this
    rw [List.append_nil]
    exact ⟨.push (.txt "") s, rfl, fun y hy => by rw [List.mem_singleton.mp hy, e0_len]; lia⟩
  have e : (a.map fun _ => ("" : Str)).rs = ((a.rs.op (fun _ => []) (fun _ => [])).op (fun _ => [""]) (fun _ => [])) := by
    obtain ⟨n1, v1⟩ := a
    cases v1 <;> simp [Rv.rs, Rv.map, Rs.op]
  rw [e]
  simpa using h2
mutual
theorem seg_t : ∀ t : Tr, t.h ≤ 8 → SegN (vo t) (wt t) 1 (ev t).rs
  | .name x, _ => by simp only [vo, ev, wt]; exact (seg_read x).up (by lia)
  | .whole n, h => by
    have hf := (ev_fit (.whole n)).val
    simp only [ev, wt] at hf
    simp only [vo, ev, wt]
    exact (seg_push (.num n) (s := Str.ofString (toString ((n.val : Nat) : Int))) rfl (by have := (hf _ rfl).1; lia)).up (by lia)
  | .text, _ => by simp only [vo, ev, wt]; exact (seg_push (.txt "t") rfl (by decide +kernel)).up (by lia)
  | .null, _ => by simp only [vo, ev, wt]; exact (seg_push (.txt "") rfl (by decide +kernel)).up (by lia)
  | .join l r, h => by
    have hf := ev_fit (.join l r)
    have hX := fit400 h
    simp only [Tr.h] at h
    simp only [ev] at hf
    simp only [vo, ev]
    exact (seg_two (seg_t l (by lia)) (seg_t r (by lia)) hf hX rfl fun s x y => .join s x y).up (by simp only [wt]; lia)
  | .bin op l r, h => by
    have hf := ev_fit (.bin op l r)
    have hX := fit400 h
    simp only [Tr.h] at h
    simp only [ev] at hf
    simp only [vo, ev]
    exact (seg_two (seg_t l (by lia)) (seg_t r (by lia)) hf hX rfl fun s x y => .bin op s x y).up (by simp only [wt]; lia)
  | .give op l g, h => by
    have hf := ev_fit (.give op l g)
    have hX := fit400 h
    simp only [Tr.h] at h
    simp only [ev] at hf
    simp only [vo, ev]
    exact (seg_two (seg_t l (by lia)) (seg_g g (by lia)).2 hf hX rfl fun s x y => .given op s x y).up (by simp only [wt]; lia)
  | .call0, h => by
    have hf := ev_fit .call0
    have hX := fit400 h
    simp only [ev] at hf
    simp only [vo, ev]
    exact (seg_call (f := .F) SegN.nil (by lia) hf hX).up (by simp only [wt]; lia)
  | .call1 a, h => by
    have hf := ev_fit (.call1 a)
    have hX := fit400 h
    simp only [Tr.h] at h
    simp only [ev] at hf
    simp only [vo, ev]
    refine (seg_call (f := .F) (W := wt a) ?_ (by lia) hf hX).up (by simp only [wt]; lia)
    rw [snoc_app, nil_app, List.nil_append]
    exact seg_t a (by lia)
  | .call2 a b, h => by
    have hf := ev_fit (.call2 a b)
    have hX := fit400 h
    simp only [Tr.h] at h
    simp only [ev] at hf
    simp only [vo, ev]
    refine (seg_call (f := .F) (W := wt a + wt b) ?_ (by lia) hf hX).up (by simp only [wt]; lia)
    rw [snoc_app, snoc_app, nil_app, List.nil_append]
    exact (seg_t a (by lia)).app (seg_t b (by lia))
  | .una .not g, h => by
    simp only [Tr.h] at h
    simp only [vo, ev]
    exact (seg_not (seg_g g (by lia)).1).up (by simp only [wt]; lia)
  | .una .ask g, h => by
    simp only [Tr.h] at h
    simp only [vo, ev]
    exact (seg_ask (seg_g g (by lia)).1).up (by simp only [wt]; lia)
  | .una .neg g, h => by
    have hf := ev_fit (.una .neg g)
    have hX := fit400 h
    simp only [Tr.h] at h
    simp only [ev] at hf
    simp only [vo, ev]
    exact (seg_one (seg_g g (by lia)).1 hf hX rfl fun s x => .neg s x).up (by simp only [wt]; lia)
  | .una .del g, h => by
    have hf := (ev_fit (.una .del g)).val
    have hX := fit400 h
    simp only [Tr.h] at h
    simp only [ev] at hf
    simp only [vo, ev]
    exact (seg_lit (o := .delayed g) rfl (fun t => .delayed g t (by lia)) (by have := (hf _ rfl).1; lia)).up (by simp only [wt]; lia)
  | .una .cur g, h => by
    have hf := ev_fit (.una .cur g)
    have hX := fit400 h
    simp only [Tr.h] at h
    simp only [ev] at hf
    simp only [vo, ev]
    exact (seg_one (seg_g g (by lia)).2 hf hX rfl fun s x => .cursor s x).up (by simp only [wt]; lia)
  | .goal g, h => by
    simp only [Tr.h] at h
    simp only [vo, ev]
    exact (seg_g g (by lia)).1.up (by simp only [wt]; lia)
theorem seg_g : ∀ g : Go, g.h ≤ 8 → SegN (vg g) (wg g + 1) 1 (egOf (en false g) g).rs ∧ SegN (ng g) (wg g) 1 (en true g).rs
  | .name x, _ => by
    refine ⟨by simp only [vg, egOf]; exact (seg_read x).up (by lia), ?_⟩
    have := len_nm x
    simp only [ng, en, wg]
    refine (seg_lit (o := .ref x) rfl (fun t => .ref x t) ?_).up (by lia)
    rw [Str.length_append]
    have e1 : (("." : Str)).length = 1 := by decide +kernel
    lia
  | .key, h => by
    have hf := egf .key
    have hX := fitg400 h
    unfold eg at hf
    simp only [egOf, en] at hf
    have hk : SegN [.kw] 1 1 (Rv.rs ([], some (("&" : Str) ++ "K"))) := seg_lit (o := .kw) rfl (fun t => .kw t) (by decide +kernel)
    refine ⟨?_, by simp only [ng, en, wg]; exact hk.up (by lia)⟩
    simp only [vg, egOf, en]
    exact (seg_value hk hf hX).up (by simp only [wg]; lia)
  | .ind a, h => by
    have hf := egf (.ind a)
    have hn := en_fit true (.ind a)
    have hX := fitg400 h
    simp only [Go.h] at h
    unfold eg at hf
    simp only [egOf, en] at hf hn
    have hk := seg_one (o := .indirect) (seg_t a (by lia)) hn (by simp only [wg] at hX ⊢; lia) rfl fun s x => .indirect s x
    refine ⟨?_, by simp only [ng, en]; exact hk.up (by simp only [wg]; lia)⟩
    simp only [vg, egOf, en]
    have := (seg_value hk hf hX).up (W' := wg (.ind a) + 1) (by simp only [wg]; lia)
    simpa using this
  | .callG a, h => by
    have hf := en_fit false (.callG a)
    have hn := en_fit true (.callG a)
    have hX := fitg400 h
    simp only [Go.h] at h
    simp only [en] at hf hn
    have hA : SegN ([] ++ vo a) (wt a) 1 (Rs.nil.snoc (ev a)) := by
      rw [snoc_app, nil_app, List.nil_append]
      exact seg_t a (by lia)
    refine ⟨?_, ?_⟩
    · simp only [vg, egOf, en]
      exact (seg_call (f := .G) hA (by lia) hf (by lia)).up (by simp only [wg]; lia)
    · simp only [ng, en]
      exact (seg_call (f := .G) hA (by lia) hn (by lia)).up (by simp only [wg]; lia)
  | .item a b, h => by
    have hf := en_fit false (.item a b)
    have hn := en_fit true (.item a b)
    have hX := fitg400 h
    simp only [Go.h] at h
    simp only [en] at hf hn
    have hA : SegN (vo a ++ ([] ++ vo b)) (wt a + wt b) 2 ((Rs.nil.snoc (ev a)).snoc (ev b)) := by
      rw [snoc_app, snoc_app, nil_app, List.nil_append]
      exact (seg_t a (by lia)).app (seg_t b (by lia))
    refine ⟨?_, ?_⟩
    · simp only [vg, egOf, en]
      exact (seg_item hA hf (by lia)).up (by simp only [wg]; lia)
    · simp only [ng, en]
      exact (seg_item hA hn (by lia)).up (by simp only [wg]; lia)
end

theorem pops_plain : PlainScope ["stack", "many"] (scopeAt 24) := ⟨by decide +kernel, by decide +kernel, by decide +kernel, by decide +kernel, by decide +kernel⟩
theorem done_plain : PlainScope ["order", "stack", "notes"] (scopeAt 25) := ⟨by decide +kernel, by decide +kernel, by decide +kernel, by decide +kernel, by decide +kernel⟩
section
variable {c : Cx} {A : Nat → Addr} (F : Facts c A)
include F
theorem pops_spec {d : Nat} {σ : Store} {st : Addr} {xs ys : List Val} {o : Obj} {m : Nat} {Q : Val → Store → Prop} (hst : σ st = some (.list (xs ++ ys) o)) (hm : ys.length = m) (hz : (xs ++ ys).length ≤ 1000000)
    (q : ∀ σ' l ol os, σ l = none → KeepBut st σ σ' → σ' l = some (.list ys ol) → σ' st = some (.list xs os) → Q (.ref l) σ') : WC c (d + 1) (A 24) [.ref st, .int (m : Nat)] σ Q := by
  refine WC_def F.f24.toFunAt pops_plain rfl ?_
  refine WS_cons ?_
  have hz' : (xs ++ ys).length ≤ sizeLine := Nat.le_trans hz mil
  have e : (((xs ++ ys).length : Nat) : Int) - (m : Nat) = ((xs.length : Nat) : Int) := by rw [List.length_append, hm]; lia
  walk_at "go"
  walk_at "go"
  walk_at "go"
  walk_at "go"
  walk_at "go"
  walk_at "go"
  walk_at "go"
  walk_at "go"
  refine GL_lenL hst ?_ hz'
  walk_at "go"
  walk_at "go"
  rw [e]
  refine ⟨st, xs ++ ys, o, xs.length, rfl, hst, rfl, hz', fun l ol hl => ?_⟩
  rw [List.drop_left]
  have hls : l ≠ st := fun e => by rw [e, hst] at hl; cases hl
  repeat walk_at "go"
  refine WX_forRange F.brange (WE_name (by rfl) ⟨m, rfl, Nat.le_trans (by rw [List.length_append] at hz; lia) mil, fun i ρ σ' => At ρ "found" (.ref l) ∧ At ρ "stack" (.ref st) ∧ KeepBut st σ σ' ∧ σ' l = some (.list ys ol) ∧ ∃ os, σ' st = some (.list (xs ++ ys.take (m - i)) os), ?_, ?_, ?_⟩)
  · refine ⟨by rfl, by rfl, (Keep.new hl).but, Store.set_same, o, ?_⟩
    rw [Nat.sub_zero, ← hm, List.take_length]
    exact Store.old hl hst
  · rintro i ρ σ' hi ⟨r1, r2, k1, e1, os, e2⟩
    obtain ⟨j, hj⟩ : ∃ j, m - i = j + 1 := ⟨m - i - 1, by lia⟩
    have hjl : j < ys.length := by lia
    rw [hj, List.take_add_one, List.getElem?_eq_getElem hjl, ← List.append_assoc] at e2
    walk_at "go"
    walk_at "go"
    refine WE_methL r2 e2 PySem.F.slot_list_pop ty_pop ?_
    repeat walk_at "go"
    refine GL_pop e2 (fun o' => ?_) (by rw [List.length_append] at hz ⊢; have := List.length_take_le j ys; exact Nat.le_trans (by lia) mil)
    repeat walk_at "go"
    refine ⟨r1, r2, k1.trans KeepBut.set, by rw [Store.set_ne hls]; exact e1, o', ?_⟩
    rw [Store.set_same, show m - (i + 1) = j by lia]
  · rintro ρ σ' ⟨r1, r2, k1, e1, os, e2⟩
    rw [Nat.sub_self, List.take_zero, List.append_nil] at e2
    repeat walk_at "go"
    refine WE_name r1 ?_
    repeat walk_at "go"
    exact q σ' l ol os hl k1 e1 e2
end

/-- what an order does -/
noncomputable def DoneOK (c : Cx) (A : Nat → Addr) (o : Ord) (s : List Str) (new : List Note) (s' : List Str) (b : Bool) : Prop :=
  ∀ (d : Nat) (σ : Store) (M : List Addr) (n st : Addr) (ns : List Note) (Q : Val → Store → Prop), 2 ≤ d → n ∈ M → st ∈ M → n ≠ st → Live M σ → NotesAt M σ n ns → IsL σ st (s.map Val.str) → Sm s → ns.length ≤ 900000 →
    (∀ σ', KeepOut [st, n] σ σ' → NotesAt M σ' n (ns ++ new) → IsL σ' st (s'.map Val.str) → Q (.bool b) σ') → WC c d (A 25) [o.val, .ref st, .ref n] σ Q
theorem seq_last {α : Type} (xs : List α) (a : α) : seqIndex? (-1) (xs ++ [a]).length = some xs.length := by
  unfold seqIndex?
  simp only [show ((-1 : Int) < 0) from by decide, if_true, List.length_append, List.length_cons, List.length_nil]
  have e : (-1 + ((xs.length + (0 + 1) : Nat) : Int)) = (xs.length : Int) := by lia
  rw [e]
  simp
  lia
theorem KO1 {st n : Addr} {σ : Store} {c : Cell} : KeepOut [st, n] σ (σ.set st c) := KeepOut.set (by simp)
theorem KO2 {st n : Addr} {σ : Store} {c : Cell} : KeepOut [st, n] σ (σ.set n c) := KeepOut.set (by simp)
theorem KeepBut.st {st n : Addr} {σ σ' : Store} (k : KeepBut st σ σ') : KeepOut [st, n] σ σ' := k.out (by simp)
theorem push_eq {s : List Str} {a : Str} : s.map Val.str ++ [.str a] = (s ++ [a]).map Val.str := by simp
section
variable {c : Cx} {A : Nat → Addr} (F : Facts c A)
include F
theorem d_txt (t : Str) (s : List Str) : DoneOK c A (.push (.txt t)) s [] (s ++ [t]) true := by
  intro d σ M n st ns Q hd hM hS hne hL N hst hsm hz q
  simp only [Ord.val]
  try simp only [PV.val]
  obtain ⟨d', rfl⟩ : ∃ d', d = d' + 1 + 1 := ⟨d - 2, by lia⟩
  obtain ⟨vs, on, hn, hv⟩ := N
  obtain ⟨o₀, hst⟩ := hst
  have hvl := hv.length
  refine WC_def F.f25.toFunAt done_plain rfl ?_
  refine WS_cons ?_
  repeat walk_at "go"
  refine WE_methL rfl hst PySem.F.slot_list_append ty_append ?_
  repeat walk_at "go"
  refine GL_strS ?_
  repeat walk_at "go"
  refine GL_append hst (fun o' => ?_) (by simp only [List.length_map]; exact Nat.le_trans (by have := hsm.1; lia : s.length ≤ 1000000) mil)
  repeat walk_at "go"
  rw [List.append_nil] at q
  exact q _ (KO1) (⟨vs, on, by rw [Store.set_ne hne]; exact hn, hv.out (KeepOut.set hS)⟩) (IsL.set push_eq)
theorem d_num (i : Fin 10) (s : List Str) : DoneOK c A (.push (.num i)) s [] (s ++ [Str.ofString (toString ((i.val : Nat) : Int))]) true := by
  intro d σ M n st ns Q hd hM hS hne hL N hst hsm hz q
  simp only [Ord.val]
  try simp only [PV.val]
  obtain ⟨d', rfl⟩ : ∃ d', d = d' + 1 + 1 := ⟨d - 2, by lia⟩
  obtain ⟨vs, on, hn, hv⟩ := N
  obtain ⟨o₀, hst⟩ := hst
  have hvl := hv.length
  refine WC_def F.f25.toFunAt done_plain rfl ?_
  refine WS_cons ?_
  repeat walk_at "go"
  refine WE_methL rfl hst PySem.F.slot_list_append ty_append ?_
  repeat walk_at "go"
  refine GL_strI ?_ (by
    have : ∀ i : Fin 10, (((i.val : Nat) : Int)).natAbs.log2 < 1920 := by decide +kernel
    exact this i)
  repeat walk_at "go"
  refine GL_append hst (fun o' => ?_) (by simp only [List.length_map]; exact Nat.le_trans (by have := hsm.1; lia : s.length ≤ 1000000) mil)
  repeat walk_at "go"
  rw [List.append_nil] at q
  exact q _ (KO1) (⟨vs, on, by rw [Store.set_ne hne]; exact hn, hv.out (KeepOut.set hS)⟩) (IsL.set push_eq)
theorem d_ref (x : Nm) (s : List Str) : DoneOK c A (.ref x) s [] (s ++ ["." ++ x.s]) true := by
  intro d σ M n st ns Q hd hM hS hne hL N hst hsm hz q
  simp only [Ord.val]
  try simp only [PV.val]
  obtain ⟨d', rfl⟩ : ∃ d', d = d' + 1 + 1 := ⟨d - 2, by lia⟩
  obtain ⟨vs, on, hn, hv⟩ := N
  obtain ⟨o₀, hst⟩ := hst
  have hvl := hv.length
  have hx := len_nm x
  refine WC_def F.f25.toFunAt done_plain rfl ?_
  refine WS_cons ?_
  repeat walk_at "go"
  refine WE_methL rfl hst PySem.F.slot_list_append ty_append ?_
  repeat walk_at "go"
  refine GL_intB ?_
  repeat walk_at "go"
  refine GL_append hst (fun o' => ?_) (by simp only [List.length_map]; exact Nat.le_trans (by have := hsm.1; lia : s.length ≤ 1000000) mil)
  repeat walk_at "go"
  rw [List.append_nil] at q
  exact q _ (KO1) (⟨vs, on, by rw [Store.set_ne hne]; exact hn, hv.out (KeepOut.set hS)⟩) (IsL.set push_eq)
theorem d_kw (s : List Str) : DoneOK c A .kw s [] (s ++ [("&" : Str) ++ "K"]) true := by
  intro d σ M n st ns Q hd hM hS hne hL N hst hsm hz q
  simp only [Ord.val]
  try simp only [PV.val]
  obtain ⟨d', rfl⟩ : ∃ d', d = d' + 1 + 1 := ⟨d - 2, by lia⟩
  obtain ⟨vs, on, hn, hv⟩ := N
  obtain ⟨o₀, hst⟩ := hst
  have hvl := hv.length
  refine WC_def F.f25.toFunAt done_plain rfl ?_
  refine WS_cons ?_
  repeat walk_at "go"
  refine WE_methL rfl hst PySem.F.slot_list_append ty_append ?_
  repeat walk_at "go"
  refine GL_intB ?_
  repeat walk_at "go"
  refine GL_append hst (fun o' => ?_) (by simp only [List.length_map]; exact Nat.le_trans (by have := hsm.1; lia : s.length ≤ 1000000) mil)
  repeat walk_at "go"
  rw [List.append_nil] at q
  exact q _ (KO1) (⟨vs, on, by rw [Store.set_ne hne]; exact hn, hv.out (KeepOut.set hS)⟩) (IsL.set push_eq)
theorem d_del (g : Go) (hg : g.h ≤ 8) (s : List Str) : DoneOK c A (.delayed g) s [] (s ++ ["*" ++ g.data.shown]) true := by
  intro d σ M n st ns Q hd hM hS hne hL N hst hsm hz q
  simp only [Ord.val]
  try simp only [PV.val]
  obtain ⟨d', rfl⟩ : ∃ d', d = d' + 1 + 1 := ⟨d - 2, by lia⟩
  obtain ⟨vs, on, hn, hv⟩ := N
  obtain ⟨o₀, hst⟩ := hst
  have hvl := hv.length
  have wl := wg_small hg
  have sl := shown_len g
  obtain ⟨a1, a2, a3, a4, a5⟩ := datag_ok g
  have hD := deep_g σ g
  obtain ⟨gs, hgv⟩ := go_tup g
  rw [hgv] at hD ⊢
  refine WC_def F.f25.toFunAt done_plain rfl ?_
  refine WS_cons ?_
  repeat walk_at "go"
  refine WE_methL rfl hst PySem.F.slot_list_append ty_append ?_
  repeat walk_at "go"
  refine GL_reprT hD (PyData.hasDict_of_canLay _ a1) a3 (by lia) ?_ (by rw [sizeLine_eq]; lia)
  repeat walk_at "go"
  refine GL_append hst (fun o' => ?_) (by simp only [List.length_map]; exact Nat.le_trans (by have := hsm.1; lia : s.length ≤ 1000000) mil)
  repeat walk_at "go"
  rw [List.append_nil] at q
  exact q _ (KO1) (⟨vs, on, by rw [Store.set_ne hne]; exact hn, hv.out (KeepOut.set hS)⟩) (IsL.set push_eq)
theorem d_varA (s : List Str) : DoneOK c A (.var .A) s [.read .A] (s ++ [Nm.A.s]) true := by
  intro d σ M n st ns Q hd hM hS hne hL N hst hsm hz q
  simp only [Ord.val]
  try simp only [PV.val]
  obtain ⟨d', rfl⟩ : ∃ d', d = d' + 1 + 1 := ⟨d - 2, by lia⟩
  obtain ⟨vs, on, hn, hv⟩ := N
  obtain ⟨o₀, hst⟩ := hst
  have hvl := hv.length
  refine WC_def F.f25.toFunAt done_plain rfl ?_
  refine WS_cons ?_
  repeat walk_at "go"
  refine WE_methL rfl hn PySem.F.slot_list_append ty_append ?_
  repeat walk_at "go"
  refine GL_append hn (fun on' => ?_) (by rw [hvl]; exact Nat.le_trans (by lia) mil)
  repeat walk_at "go"
  have hst2 : (σ.set n (.list (vs ++ [.tup [.str "read", .str Nm.A.s]]) on')) st = some (.list (s.map Val.str) o₀) := by rw [Store.set_ne (Ne.symm hne)]; exact hst
  refine WE_methL rfl hst2 PySem.F.slot_list_append ty_append ?_
  repeat walk_at "go"
  refine GL_append hst2 (fun o' => ?_) (by simp only [List.length_map]; exact Nat.le_trans (by have := hsm.1; lia : s.length ≤ 1000000) mil)
  repeat walk_at "go"
  exact q _ (KO2.trans KO1) ((NotesAt.put hM hv (.read .A)).out (KeepOut.set hS) (Store.set_ne hne)) (IsL.set push_eq)
theorem d_varB (s : List Str) : DoneOK c A (.var .B) s [.read .B] (s ++ [Nm.B.s]) true := by
  intro d σ M n st ns Q hd hM hS hne hL N hst hsm hz q
  simp only [Ord.val]
  try simp only [PV.val]
  obtain ⟨d', rfl⟩ : ∃ d', d = d' + 1 + 1 := ⟨d - 2, by lia⟩
  obtain ⟨vs, on, hn, hv⟩ := N
  obtain ⟨o₀, hst⟩ := hst
  have hvl := hv.length
  refine WC_def F.f25.toFunAt done_plain rfl ?_
  refine WS_cons ?_
  repeat walk_at "go"
  refine WE_methL rfl hn PySem.F.slot_list_append ty_append ?_
  repeat walk_at "go"
  refine GL_append hn (fun on' => ?_) (by rw [hvl]; exact Nat.le_trans (by lia) mil)
  repeat walk_at "go"
  have hst2 : (σ.set n (.list (vs ++ [.tup [.str "read", .str Nm.B.s]]) on')) st = some (.list (s.map Val.str) o₀) := by rw [Store.set_ne (Ne.symm hne)]; exact hst
  refine WE_methL rfl hst2 PySem.F.slot_list_append ty_append ?_
  repeat walk_at "go"
  refine GL_append hst2 (fun o' => ?_) (by simp only [List.length_map]; exact Nat.le_trans (by have := hsm.1; lia : s.length ≤ 1000000) mil)
  repeat walk_at "go"
  exact q _ (KO2.trans KO1) ((NotesAt.put hM hv (.read .B)).out (KeepOut.set hS) (Store.set_ne hne)) (IsL.set push_eq)
theorem d_varX (s : List Str) : DoneOK c A (.var .X) s [.read .X] (s ++ [Nm.X.s]) true := by
  intro d σ M n st ns Q hd hM hS hne hL N hst hsm hz q
  simp only [Ord.val]
  try simp only [PV.val]
  obtain ⟨d', rfl⟩ : ∃ d', d = d' + 1 + 1 := ⟨d - 2, by lia⟩
  obtain ⟨vs, on, hn, hv⟩ := N
  obtain ⟨o₀, hst⟩ := hst
  have hvl := hv.length
  refine WC_def F.f25.toFunAt done_plain rfl ?_
  refine WS_cons ?_
  repeat walk_at "go"
  refine WE_methL rfl hn PySem.F.slot_list_append ty_append ?_
  repeat walk_at "go"
  refine GL_append hn (fun on' => ?_) (by rw [hvl]; exact Nat.le_trans (by lia) mil)
  repeat walk_at "go"
  have hst2 : (σ.set n (.list (vs ++ [.tup [.str "read", .str Nm.X.s]]) on')) st = some (.list (s.map Val.str) o₀) := by rw [Store.set_ne (Ne.symm hne)]; exact hst
  refine WE_methL rfl hst2 PySem.F.slot_list_append ty_append ?_
  repeat walk_at "go"
  refine GL_append hst2 (fun o' => ?_) (by simp only [List.length_map]; exact Nat.le_trans (by have := hsm.1; lia : s.length ≤ 1000000) mil)
  repeat walk_at "go"
  exact q _ (KO2.trans KO1) ((NotesAt.put hM hv (.read .X)).out (KeepOut.set hS) (Store.set_ne hne)) (IsL.set push_eq)
theorem d_varZ (s : List Str) : DoneOK c A (.var .Z) s [.read .Z] s false := by
  intro d σ M n st ns Q hd hM hS hne hL N hst hsm hz q
  simp only [Ord.val]
  try simp only [PV.val]
  obtain ⟨d', rfl⟩ : ∃ d', d = d' + 1 + 1 := ⟨d - 2, by lia⟩
  obtain ⟨vs, on, hn, hv⟩ := N
  obtain ⟨o₀, hst⟩ := hst
  have hvl := hv.length
  refine WC_def F.f25.toFunAt done_plain rfl ?_
  refine WS_cons ?_
  repeat walk_at "go"
  refine WE_methL rfl hn PySem.F.slot_list_append ty_append ?_
  repeat walk_at "go"
  refine GL_append hn (fun on' => ?_) (by rw [hvl]; exact Nat.le_trans (by lia) mil)
  repeat walk_at "go"
  exact q _ KO2 (NotesAt.put hM hv (.read .Z)) ⟨o₀, by rw [Store.set_ne (Ne.symm hne)]; exact hst⟩
theorem d_fail (s : List Str) : DoneOK c A .fail s [] s false := by
  intro d σ M n st ns Q hd hM hS hne hL N hst hsm hz q
  simp only [Ord.val]
  try simp only [PV.val]
  obtain ⟨d', rfl⟩ : ∃ d', d = d' + 1 + 1 := ⟨d - 2, by lia⟩
  obtain ⟨vs, on, hn, hv⟩ := N
  obtain ⟨o₀, hst⟩ := hst
  have hvl := hv.length
  refine WC_def F.f25.toFunAt done_plain rfl ?_
  refine WS_cons ?_
  repeat walk_at "go"
  rw [List.append_nil] at q
  exact q _ (KeepOut.refl _ _) ⟨vs, on, hn, hv⟩ ⟨o₀, hst⟩
theorem d_ind (s : List Str) (a : Str) : DoneOK c A .indirect (s ++ [a]) [] (s ++ ["$" ++ a]) true := by
  intro d σ M n st ns Q hd hM hS hne hL N hst hsm hz q
  simp only [Ord.val]
  try simp only [PV.val]
  obtain ⟨d', rfl⟩ : ∃ d', d = d' + 1 + 1 := ⟨d - 2, by lia⟩
  obtain ⟨vs, on, hn, hv⟩ := N
  obtain ⟨o₀, hst⟩ := hst
  have hvl := hv.length
  rw [List.map_append, List.map_cons, List.map_nil] at hst
  have ha := hsm.2 a (by simp)
  have hsl := hsm.1
  simp only [List.length_append, List.length_cons, List.length_nil] at hsl
  refine WC_def F.f25.toFunAt done_plain rfl ?_
  refine WS_cons ?_
  repeat walk_at "go"
  refine WE_methL rfl hst PySem.F.slot_list_append ty_append ?_
  repeat walk_at "go"
  refine WE_methL rfl hst PySem.F.slot_list_pop ty_pop ?_
  repeat walk_at "go"
  refine GL_pop hst (fun o1 => ?_) (by simp only [List.length_map]; exact Nat.le_trans (by lia : s.length + 1 ≤ 1000000) mil)
  repeat walk_at "go"
  refine GL_append Store.set_same (fun o' => ?_) (by simp only [List.length_map]; exact Nat.le_trans (by lia : s.length ≤ 1000000) mil)
  repeat walk_at "go"
  rw [List.append_nil] at q
  exact q _ (KO1.trans KO1) ⟨vs, on, by rw [Store.set_ne hne, Store.set_ne hne]; exact hn, (hv.out (KeepOut.set hS)).out (KeepOut.set hS)⟩ (IsL.set push_eq)
theorem d_cur (s : List Str) (a : Str) : DoneOK c A .cursor (s ++ [a]) [] (s ++ ["(@" ++ a ++ ")"]) true := by
  intro d σ M n st ns Q hd hM hS hne hL N hst hsm hz q
  simp only [Ord.val]
  try simp only [PV.val]
  obtain ⟨d', rfl⟩ : ∃ d', d = d' + 1 + 1 := ⟨d - 2, by lia⟩
  obtain ⟨vs, on, hn, hv⟩ := N
  obtain ⟨o₀, hst⟩ := hst
  have hvl := hv.length
  rw [List.map_append, List.map_cons, List.map_nil] at hst
  have ha := hsm.2 a (by simp)
  have hsl := hsm.1
  simp only [List.length_append, List.length_cons, List.length_nil] at hsl
  refine WC_def F.f25.toFunAt done_plain rfl ?_
  refine WS_cons ?_
  repeat walk_at "go"
  refine WE_methL rfl hst PySem.F.slot_list_append ty_append ?_
  repeat walk_at "go"
  refine WE_methL rfl hst PySem.F.slot_list_pop ty_pop ?_
  repeat walk_at "go"
  refine GL_pop hst (fun o1 => ?_) (by simp only [List.length_map]; exact Nat.le_trans (by lia : s.length + 1 ≤ 1000000) mil)
  repeat walk_at "go"
  refine GL_append Store.set_same (fun o' => ?_) (by simp only [List.length_map]; exact Nat.le_trans (by lia : s.length ≤ 1000000) mil)
  repeat walk_at "go"
  rw [List.append_nil] at q
  exact q _ (KO1.trans KO1) ⟨vs, on, by rw [Store.set_ne hne, Store.set_ne hne]; exact hn, (hv.out (KeepOut.set hS)).out (KeepOut.set hS)⟩ (IsL.set push_eq)
theorem d_neg (s : List Str) (a : Str) : DoneOK c A .neg (s ++ [a]) [] (s ++ ["(-" ++ a ++ ")"]) true := by
  intro d σ M n st ns Q hd hM hS hne hL N hst hsm hz q
  simp only [Ord.val]
  try simp only [PV.val]
  obtain ⟨d', rfl⟩ : ∃ d', d = d' + 1 + 1 := ⟨d - 2, by lia⟩
  obtain ⟨vs, on, hn, hv⟩ := N
  obtain ⟨o₀, hst⟩ := hst
  have hvl := hv.length
  rw [List.map_append, List.map_cons, List.map_nil] at hst
  have ha := hsm.2 a (by simp)
  have hsl := hsm.1
  simp only [List.length_append, List.length_cons, List.length_nil] at hsl
  refine WC_def F.f25.toFunAt done_plain rfl ?_
  refine WS_cons ?_
  repeat walk_at "go"
  refine WE_methL rfl hst PySem.F.slot_list_append ty_append ?_
  repeat walk_at "go"
  refine WE_methL rfl hst PySem.F.slot_list_pop ty_pop ?_
  repeat walk_at "go"
  refine GL_pop hst (fun o1 => ?_) (by simp only [List.length_map]; exact Nat.le_trans (by lia : s.length + 1 ≤ 1000000) mil)
  repeat walk_at "go"
  rw [show (Str.ofString "(" ++ Str.ofString "-" : Str) = Str.ofString "(-" from by decide +kernel]
  refine GL_append Store.set_same (fun o' => ?_) (by simp only [List.length_map]; exact Nat.le_trans (by lia : s.length ≤ 1000000) mil)
  repeat walk_at "go"
  rw [List.append_nil] at q
  exact q _ (KO1.trans KO1) ⟨vs, on, by rw [Store.set_ne hne, Store.set_ne hne]; exact hn, (hv.out (KeepOut.set hS)).out (KeepOut.set hS)⟩ (IsL.set push_eq)
theorem d_drop (s : List Str) (a : Str) : DoneOK c A .drop (s ++ [a]) [] s true := by
  intro d σ M n st ns Q hd hM hS hne hL N hst hsm hz q
  simp only [Ord.val]
  try simp only [PV.val]
  obtain ⟨d', rfl⟩ : ∃ d', d = d' + 1 + 1 := ⟨d - 2, by lia⟩
  obtain ⟨vs, on, hn, hv⟩ := N
  obtain ⟨o₀, hst⟩ := hst
  have hvl := hv.length
  rw [List.map_append, List.map_cons, List.map_nil] at hst
  have ha := hsm.2 a (by simp)
  have hsl := hsm.1
  simp only [List.length_append, List.length_cons, List.length_nil] at hsl
  refine WC_def F.f25.toFunAt done_plain rfl ?_
  refine WS_cons ?_
  repeat walk_at "go"
  refine WE_methL rfl hst PySem.F.slot_list_pop ty_pop ?_
  repeat walk_at "go"
  refine GL_pop hst (fun o1 => ?_) (by simp only [List.length_map]; exact Nat.le_trans (by lia : s.length + 1 ≤ 1000000) mil)
  repeat walk_at "go"
  rw [List.append_nil] at q
  exact q _ KO1 ⟨vs, on, by rw [Store.set_ne hne]; exact hn, hv.out (KeepOut.set hS)⟩ (IsL.set rfl)
theorem d_double (s : List Str) (a : Str) : DoneOK c A .double (s ++ [a]) [] (s ++ [a] ++ [a]) true := by
  intro d σ M n st ns Q hd hM hS hne hL N hst hsm hz q
  simp only [Ord.val]
  try simp only [PV.val]
  obtain ⟨d', rfl⟩ : ∃ d', d = d' + 1 + 1 := ⟨d - 2, by lia⟩
  obtain ⟨vs, on, hn, hv⟩ := N
  obtain ⟨o₀, hst⟩ := hst
  have hvl := hv.length
  rw [List.map_append, List.map_cons, List.map_nil] at hst
  have ha := hsm.2 a (by simp)
  have hsl := hsm.1
  simp only [List.length_append, List.length_cons, List.length_nil] at hsl
  have hix : seqIndex? (-1) (s.map Val.str ++ [Val.str a]).length = some (s.map Val.str).length := seq_last _ _
  refine WC_def F.f25.toFunAt done_plain rfl ?_
  refine WS_cons ?_
  repeat walk_at "go"
  refine WE_methL rfl hst PySem.F.slot_list_append ty_append ?_
  repeat walk_at "go"
  refine G_itemL hst ?_ hix (List.getElem?_concat_length ..) (by decide) (by decide)
  repeat walk_at "go"
  refine GL_append hst (fun o' => ?_) (by simp only [List.length_append, List.length_map, List.length_cons, List.length_nil]; exact Nat.le_trans (by lia : s.length + (0 + 1) ≤ 1000000) mil)
  repeat walk_at "go"
  rw [List.append_nil] at q
  exact q _ KO1 ⟨vs, on, by rw [Store.set_ne hne]; exact hn, hv.out (KeepOut.set hS)⟩ (IsL.set (by simp))
theorem d_value (s : List Str) (a : Str) : DoneOK c A .value (s ++ [a]) [.value a] (s ++ [a]) true := by
  intro d σ M n st ns Q hd hM hS hne hL N hst hsm hz q
  simp only [Ord.val]
  try simp only [PV.val]
  obtain ⟨d', rfl⟩ : ∃ d', d = d' + 1 + 1 := ⟨d - 2, by lia⟩
  obtain ⟨vs, on, hn, hv⟩ := N
  obtain ⟨o₀, hst⟩ := hst
  have hvl := hv.length
  rw [List.map_append, List.map_cons, List.map_nil] at hst
  have ha := hsm.2 a (by simp)
  have hsl := hsm.1
  simp only [List.length_append, List.length_cons, List.length_nil] at hsl
  have hix : seqIndex? (-1) (s.map Val.str ++ [Val.str a]).length = some (s.map Val.str).length := seq_last _ _
  refine WC_def F.f25.toFunAt done_plain rfl ?_
  refine WS_cons ?_
  repeat walk_at "go"
  refine WE_methL rfl hn PySem.F.slot_list_append ty_append ?_
  repeat walk_at "go"
  refine G_itemL hst ?_ hix (List.getElem?_concat_length ..) (by decide) (by decide)
  repeat walk_at "go"
  refine GL_append hn (fun on' => ?_) (by rw [hvl]; exact Nat.le_trans (by lia) mil)
  repeat walk_at "go"
  exact q _ KO2 (NotesAt.put hM hv (.value a)) ⟨o₀, by rw [Store.set_ne (Ne.symm hne), List.map_append]; exact hst⟩
theorem d_join (s : List Str) (a b : Str) : DoneOK c A .join (s ++ [a, b]) [] (s ++ ["(" ++ a ++ " " ++ b ++ ")"]) true := by
  intro d σ M n st ns Q hd hM hS hne hL N hst hsm hz q
  simp only [Ord.val]
  try simp only [PV.val]
  obtain ⟨d', rfl⟩ : ∃ d', d = d' + 1 + 1 := ⟨d - 2, by lia⟩
  obtain ⟨vs, on, hn, hv⟩ := N
  obtain ⟨o₀, hst⟩ := hst
  have hvl := hv.length
  rw [List.map_append, List.map_cons, List.map_cons, List.map_nil] at hst
  have ha := hsm.2 a (by simp)
  have hb := hsm.2 b (by simp)
  have hsl := hsm.1
  simp only [List.length_append, List.length_cons, List.length_nil] at hsl
  refine WC_def F.f25.toFunAt done_plain rfl ?_
  refine WS_cons ?_
  repeat walk_at "go"
  refine WX_unpack ?_
  repeat walk_at "go"
  refine pops_spec F (m := 2) hst rfl (by simp only [List.length_append, List.length_map, List.length_cons, List.length_nil]; lia) fun σ1 l ol os hl k1 e1 e2 => ?_
  refine ⟨[.str a, .str b], .inr ⟨l, ol, rfl, e1⟩, rfl, WAs_name (WAs_name (WAs_nil ?_))⟩
  repeat walk_at "go"
  refine WE_methL rfl e2 PySem.F.slot_list_append ty_append ?_
  repeat walk_at "go"
  refine GL_append e2 (fun o' => ?_) (by simp only [List.length_map]; exact Nat.le_trans (by lia : s.length ≤ 1000000) mil)
  repeat walk_at "go"
  rw [List.append_nil] at q
  exact q _ (k1.st.trans KO1) ⟨vs, on, by rw [Store.set_ne hne]; exact k1 _ _ hne hn, (hv.out (k1.out hS)).out (KeepOut.set hS)⟩ (IsL.set push_eq)
theorem d_bin (op : B3) (s : List Str) (a b : Str) : DoneOK c A (.bin op) (s ++ [a, b]) [] (s ++ ["(" ++ a ++ op.s ++ b ++ ")"]) true := by
  intro d σ M n st ns Q hd hM hS hne hL N hst hsm hz q
  simp only [Ord.val]
  try simp only [PV.val]
  obtain ⟨d', rfl⟩ : ∃ d', d = d' + 1 + 1 := ⟨d - 2, by lia⟩
  obtain ⟨vs, on, hn, hv⟩ := N
  obtain ⟨o₀, hst⟩ := hst
  have hvl := hv.length
  rw [List.map_append, List.map_cons, List.map_cons, List.map_nil] at hst
  have ha := hsm.2 a (by simp)
  have hb := hsm.2 b (by simp)
  have hsl := hsm.1
  simp only [List.length_append, List.length_cons, List.length_nil] at hsl
  have hop := len_b3 op
  refine WC_def F.f25.toFunAt done_plain rfl ?_
  refine WS_cons ?_
  repeat walk_at "go"
  refine WX_unpack ?_
  repeat walk_at "go"
  refine pops_spec F (m := 2) hst rfl (by simp only [List.length_append, List.length_map, List.length_cons, List.length_nil]; lia) fun σ1 l ol os hl k1 e1 e2 => ?_
  refine ⟨[.str a, .str b], .inr ⟨l, ol, rfl, e1⟩, rfl, WAs_name (WAs_name (WAs_nil ?_))⟩
  repeat walk_at "go"
  refine WE_methL rfl e2 PySem.F.slot_list_append ty_append ?_
  repeat walk_at "go"
  refine GL_append e2 (fun o' => ?_) (by simp only [List.length_map]; exact Nat.le_trans (by lia : s.length ≤ 1000000) mil)
  repeat walk_at "go"
  rw [List.append_nil] at q
  exact q _ (k1.st.trans KO1) ⟨vs, on, by rw [Store.set_ne hne]; exact k1 _ _ hne hn, (hv.out (k1.out hS)).out (KeepOut.set hS)⟩ (IsL.set push_eq)
theorem d_given (op : B2) (s : List Str) (a b : Str) : DoneOK c A (.given op) (s ++ [a, b]) [] (s ++ ["(" ++ a ++ op.s ++ b ++ ")"]) true := by
  intro d σ M n st ns Q hd hM hS hne hL N hst hsm hz q
  simp only [Ord.val]
  try simp only [PV.val]
  obtain ⟨d', rfl⟩ : ∃ d', d = d' + 1 + 1 := ⟨d - 2, by lia⟩
  obtain ⟨vs, on, hn, hv⟩ := N
  obtain ⟨o₀, hst⟩ := hst
  have hvl := hv.length
  rw [List.map_append, List.map_cons, List.map_cons, List.map_nil] at hst
  have ha := hsm.2 a (by simp)
  have hb := hsm.2 b (by simp)
  have hsl := hsm.1
  simp only [List.length_append, List.length_cons, List.length_nil] at hsl
  have hop := len_b2 op
  refine WC_def F.f25.toFunAt done_plain rfl ?_
  refine WS_cons ?_
  repeat walk_at "go"
  refine WX_unpack ?_
  repeat walk_at "go"
  refine pops_spec F (m := 2) hst rfl (by simp only [List.length_append, List.length_map, List.length_cons, List.length_nil]; lia) fun σ1 l ol os hl k1 e1 e2 => ?_
  refine ⟨[.str a, .str b], .inr ⟨l, ol, rfl, e1⟩, rfl, WAs_name (WAs_name (WAs_nil ?_))⟩
  repeat walk_at "go"
  refine WE_methL rfl e2 PySem.F.slot_list_append ty_append ?_
  repeat walk_at "go"
  refine GL_append e2 (fun o' => ?_) (by simp only [List.length_map]; exact Nat.le_trans (by lia : s.length ≤ 1000000) mil)
  repeat walk_at "go"
  rw [List.append_nil] at q
  exact q _ (k1.st.trans KO1) ⟨vs, on, by rw [Store.set_ne hne]; exact k1 _ _ hne hn, (hv.out (k1.out hS)).out (KeepOut.set hS)⟩ (IsL.set push_eq)
theorem d_mtch (s : List Str) (a b : Str) : DoneOK c A .mtch (s ++ [a, b]) [.done "MATCH" [a, b]] s true := by
  intro d σ M n st ns Q hd hM hS hne hL N hst hsm hz q
  simp only [Ord.val]
  try simp only [PV.val]
  obtain ⟨d', rfl⟩ : ∃ d', d = d' + 1 + 1 := ⟨d - 2, by lia⟩
  obtain ⟨vs, on, hn, hv⟩ := N
  obtain ⟨o₀, hst⟩ := hst
  have hvl := hv.length
  rw [List.map_append, List.map_cons, List.map_cons, List.map_nil] at hst
  have ha := hsm.2 a (by simp)
  have hb := hsm.2 b (by simp)
  have hsl := hsm.1
  simp only [List.length_append, List.length_cons, List.length_nil] at hsl
  refine WC_def F.f25.toFunAt done_plain rfl ?_
  refine WS_cons ?_
  repeat walk_at "go"
  refine WE_methL rfl hn PySem.F.slot_list_append ty_append ?_
  repeat walk_at "go"
  refine pops_spec F (m := 2) hst rfl (by simp only [List.length_append, List.length_map, List.length_cons, List.length_nil]; lia) fun σ1 l ol os hl k1 e1 e2 => ?_
  repeat walk_at "go"
  have hn1 := k1 _ _ hne hn
  have hlM := hL.off hl
  have hln : l ≠ n := fun e => hlM (e ▸ hM)
  refine GL_append hn1 (fun on' => ?_) (by rw [hvl]; exact Nat.le_trans (by lia) mil)
  repeat walk_at "go"
  exact q _ (k1.st.trans KO2) (NotesAt.put hM (hv.out (k1.out hS)) (.done hlM ⟨ol, e1⟩)) ⟨os, by rw [Store.set_ne (Ne.symm hne)]; exact e2⟩
theorem d_assign (s : List Str) (a b : Str) : DoneOK c A .assign (s ++ [a, b]) [.done "ASSIGN" [a, b]] s true := by
  intro d σ M n st ns Q hd hM hS hne hL N hst hsm hz q
  simp only [Ord.val]
  try simp only [PV.val]
  obtain ⟨d', rfl⟩ : ∃ d', d = d' + 1 + 1 := ⟨d - 2, by lia⟩
  obtain ⟨vs, on, hn, hv⟩ := N
  obtain ⟨o₀, hst⟩ := hst
  have hvl := hv.length
  rw [List.map_append, List.map_cons, List.map_cons, List.map_nil] at hst
  have ha := hsm.2 a (by simp)
  have hb := hsm.2 b (by simp)
  have hsl := hsm.1
  simp only [List.length_append, List.length_cons, List.length_nil] at hsl
  refine WC_def F.f25.toFunAt done_plain rfl ?_
  refine WS_cons ?_
  repeat walk_at "go"
  refine WE_methL rfl hn PySem.F.slot_list_append ty_append ?_
  repeat walk_at "go"
  refine pops_spec F (m := 2) hst rfl (by simp only [List.length_append, List.length_map, List.length_cons, List.length_nil]; lia) fun σ1 l ol os hl k1 e1 e2 => ?_
  repeat walk_at "go"
  have hn1 := k1 _ _ hne hn
  have hlM := hL.off hl
  have hln : l ≠ n := fun e => hlM (e ▸ hM)
  refine GL_append hn1 (fun on' => ?_) (by rw [hvl]; exact Nat.le_trans (by lia) mil)
  repeat walk_at "go"
  exact q _ (k1.st.trans KO2) (NotesAt.put hM (hv.out (k1.out hS)) (.done hlM ⟨ol, e1⟩)) ⟨os, by rw [Store.set_ne (Ne.symm hne)]; exact e2⟩
theorem d_replace (s : List Str) (a b : Str) : DoneOK c A .replace (s ++ [a, b]) [.done "REPLACE" [a, b]] s true := by
  intro d σ M n st ns Q hd hM hS hne hL N hst hsm hz q
  simp only [Ord.val]
  try simp only [PV.val]
  obtain ⟨d', rfl⟩ : ∃ d', d = d' + 1 + 1 := ⟨d - 2, by lia⟩
  obtain ⟨vs, on, hn, hv⟩ := N
  obtain ⟨o₀, hst⟩ := hst
  have hvl := hv.length
  rw [List.map_append, List.map_cons, List.map_cons, List.map_nil] at hst
  have ha := hsm.2 a (by simp)
  have hb := hsm.2 b (by simp)
  have hsl := hsm.1
  simp only [List.length_append, List.length_cons, List.length_nil] at hsl
  refine WC_def F.f25.toFunAt done_plain rfl ?_
  refine WS_cons ?_
  repeat walk_at "go"
  refine WE_methL rfl hn PySem.F.slot_list_append ty_append ?_
  repeat walk_at "go"
  refine pops_spec F (m := 2) hst rfl (by simp only [List.length_append, List.length_map, List.length_cons, List.length_nil]; lia) fun σ1 l ol os hl k1 e1 e2 => ?_
  repeat walk_at "go"
  have hn1 := k1 _ _ hne hn
  have hlM := hL.off hl
  have hln : l ≠ n := fun e => hlM (e ▸ hM)
  refine GL_append hn1 (fun on' => ?_) (by rw [hvl]; exact Nat.le_trans (by lia) mil)
  repeat walk_at "go"
  exact q _ (k1.st.trans KO2) (NotesAt.put hM (hv.out (k1.out hS)) (.done hlM ⟨ol, e1⟩)) ⟨os, by rw [Store.set_ne (Ne.symm hne)]; exact e2⟩
theorem d_call (f : Fn) (b : Bool) (s args : List Str) (ha : args.length ≤ 2) : DoneOK c A (.call f args.length b) (s ++ args) [.call "call" f.s args b] (s ++ [callStr b f.s args]) true := by
  intro d σ M n st ns Q hd hM hS hne hL N hst hsm hz q
  simp only [Ord.val]
  try simp only [PV.val]
  obtain ⟨d', rfl⟩ : ∃ d', d = d' + 1 + 1 := ⟨d - 2, by lia⟩
  obtain ⟨vs, on, hn, hv⟩ := N
  obtain ⟨o₀, hst⟩ := hst
  have hvl := hv.length
  rw [List.map_append] at hst
  have hsl := hsm.1
  have hnm := fn_len f
  simp only [List.length_append] at hsl
  have hsum : (args.map (·.length)).sum + args.length ≤ 800002 := by
    have hall : ∀ x ∈ args, x.length ≤ 400000 := fun x hx => hsm.2 x (List.mem_append_right _ hx)
    match args, ha, hall with
    | [], _, _ => simp
    | [x], _, h => have := h x (by simp); simp; lia
    | [x, y], _, h => have := h x (by simp); have := h y (by simp); simp; lia
    | _ :: _ :: _ :: _, ha, _ => simp only [List.length_cons] at ha; lia
  refine WC_def F.f25.toFunAt done_plain rfl ?_
  refine WS_cons ?_
  repeat walk_at "go"
  refine WX_swap2 ?_
  repeat walk_at "go"
  refine pops_spec F (m := args.length) hst (by simp) (by simp only [List.length_append, List.length_map]; lia) fun σ1 l ol os hl k1 e1 e2 => ?_
  repeat walk_at "go"
  refine ⟨_, _, rfl, ?_⟩
  have hn1 := k1 _ _ hne hn
  have hlM := hL.off hl
  have hln : l ≠ n := fun e => hlM (e ▸ hM)
  have hls : l ≠ st := fun e => hlM (e ▸ hS)
  have hjl := len_join args
  repeat walk_at "go"
  refine WE_methL rfl hn1 PySem.F.slot_list_append ty_append ?_
  repeat walk_at "go"
  refine WE_methS PySem.F.slot_str_lower ty_lower ?_
  repeat walk_at "go"
  refine ⟨_, rfl, ?_⟩
  repeat walk_at "go"
  refine GL_lower ?_ (by decide +kernel)
  rw [show Txt.lower (Str.ofString "CALL") = Str.ofString "call" from by decide +kernel]
  repeat walk_at "go"
  refine GL_append hn1 (fun on' => ?_) (by rw [hvl]; exact Nat.le_trans (by lia) mil)
  repeat walk_at "go"
  have e1' : (σ1.set n (.list (vs ++ [.tup [.str "call", .str f.s, .ref l, .bool b]]) on')) l = some (.list (args.map Val.str) ol) := by rw [Store.set_ne hln]; exact e1
  have e2' : (σ1.set n (.list (vs ++ [.tup [.str "call", .str f.s, .ref l, .bool b]]) on')) st = some (.list (s.map Val.str) os) := by rw [Store.set_ne (Ne.symm hne)]; exact e2
  refine WE_methL rfl e2' PySem.F.slot_list_append ty_append ?_
  cases b
  all_goals
    repeat walk_at "go"
    with_reducible refine WE_methS PySem.F.slot_str_join ty_join ?_ ?_ ?_
    rotate_left
    · intro f h; cases f; cases h; exact ⟨_, rfl⟩
    · exact .inr ⟨_, _, rfl, fun _ => rfl, fun _ => rfl⟩
    repeat walk_at "go"
    refine ⟨_, rfl, ?_⟩
    repeat walk_at "go"
    refine GL_join e1' rfl ?_ (by decide) (by lia)
    repeat walk_at "go"
    refine GL_append e2' (fun o' => ?_) (by simp only [List.length_map]; exact Nat.le_trans (by lia : s.length ≤ 1000000) mil)
    repeat walk_at "go"
    exact q _ ((k1.st.trans KO2).trans KO1) ((NotesAt.put hM (hv.out (k1.out hS)) (.call hlM ⟨ol, e1⟩)).out (KeepOut.set hS) (Store.set_ne hne)) (IsL.set push_eq)
theorem d_item (b : Bool) (s : List Str) (x y : Str) : DoneOK c A (.item b) (s ++ [x, y]) [.call "item" "" [x, y] b] (s ++ [callStr b "item" [x, y]]) true := by
  intro d σ M n st ns Q hd hM hS hne hL N hst hsm hz q
  simp only [Ord.val]
  try simp only [PV.val]
  obtain ⟨d', rfl⟩ : ∃ d', d = d' + 1 + 1 := ⟨d - 2, by lia⟩
  obtain ⟨vs, on, hn, hv⟩ := N
  obtain ⟨o₀, hst⟩ := hst
  have hvl := hv.length
  rw [List.map_append] at hst
  have hsl := hsm.1
  have hx := hsm.2 x (by simp)
  have hy := hsm.2 y (by simp)
  simp only [List.length_append, List.length_cons, List.length_nil] at hsl
  have hsum : (([x, y] : List Str).map (·.length)).sum + ([x, y] : List Str).length ≤ 800002 := by simp; lia
  refine WC_def F.f25.toFunAt done_plain rfl ?_
  refine WS_cons ?_
  repeat walk_at "go"
  refine WX_swap2 ?_
  repeat walk_at "go"
  refine pops_spec F (m := 2) hst rfl (by simp only [List.length_append, List.length_map, List.length_cons, List.length_nil]; lia) fun σ1 l ol os hl k1 e1 e2 => ?_
  repeat walk_at "go"
  refine ⟨_, _, rfl, ?_⟩
  have hn1 := k1 _ _ hne hn
  have hlM := hL.off hl
  have hln : l ≠ n := fun e => hlM (e ▸ hM)
  have hls : l ≠ st := fun e => hlM (e ▸ hS)
  have hjl := len_join [x, y]
  repeat walk_at "go"
  refine WE_methL rfl hn1 PySem.F.slot_list_append ty_append ?_
  repeat walk_at "go"
  refine WE_methS PySem.F.slot_str_lower ty_lower ?_
  repeat walk_at "go"
  refine ⟨_, rfl, ?_⟩
  repeat walk_at "go"
  refine GL_lower ?_ (by decide +kernel)
  rw [show Txt.lower (Str.ofString "ITEM") = Str.ofString "item" from by decide +kernel]
  repeat walk_at "go"
  refine GL_append hn1 (fun on' => ?_) (by rw [hvl]; exact Nat.le_trans (by lia) mil)
  repeat walk_at "go"
  have e1' : (σ1.set n (.list (vs ++ [.tup [.str "item", .str "", .ref l, .bool b]]) on')) l = some (.list ([x, y].map Val.str) ol) := by rw [Store.set_ne hln]; exact e1
  have e2' : (σ1.set n (.list (vs ++ [.tup [.str "item", .str "", .ref l, .bool b]]) on')) st = some (.list (s.map Val.str) os) := by rw [Store.set_ne (Ne.symm hne)]; exact e2
  refine WE_methL rfl e2' PySem.F.slot_list_append ty_append ?_
  cases b
  all_goals
    repeat walk_at "go"
    with_reducible refine WE_methS PySem.F.slot_str_join ty_join ?_ ?_ ?_
    rotate_left
    · intro f h; cases f; cases h; exact ⟨_, rfl⟩
    · exact .inr ⟨_, _, rfl, fun _ => rfl, fun _ => rfl⟩
    repeat walk_at "go"
    refine ⟨_, rfl, ?_⟩
    repeat walk_at "go"
    refine GL_join e1' rfl ?_ (by decide) (by lia)
    repeat walk_at "go"
    refine GL_append e2' (fun o' => ?_) (by simp only [List.length_map]; exact Nat.le_trans (by lia : s.length ≤ 1000000) mil)
    repeat walk_at "go"
    exact q _ ((k1.st.trans KO2).trans KO1) ((NotesAt.put hM (hv.out (k1.out hS)) (.call hlM ⟨ol, e1⟩)).out (KeepOut.set hS) (Store.set_ne hne)) (IsL.set push_eq)
theorem done_ok {o : Ord} {s s' : List Str} {new : List Note} {b : Bool} (h : DoM o s new s' b) : DoneOK c A o s new s' b := by
  cases h with
  | push v s => cases v with
    | txt t => exact d_txt F t s
    | num i => exact d_num F i s
  | varA => exact d_varA F _
  | varB => exact d_varB F _
  | varX => exact d_varX F _
  | varZ => exact d_varZ F _
  | ref => exact d_ref F _ _
  | kw => exact d_kw F _
  | delayed => exact d_del F _ (by assumption) _
  | indirect => exact d_ind F _ _
  | value => exact d_value F _ _
  | call => exact d_call F _ _ _ _ (by assumption)
  | item => exact d_item F _ _ _ _
  | cursor => exact d_cur F _ _
  | neg => exact d_neg F _ _
  | join => exact d_join F _ _ _
  | bin => exact d_bin F _ _ _ _
  | given => exact d_given F _ _ _ _
  | drop => exact d_drop F _ _
  | double => exact d_double F _ _
  | mtch => exact d_mtch F _ _ _
  | assign => exact d_assign F _ _ _
  | replace => exact d_replace F _ _ _
  | fail => exact d_fail F _
end

theorem run_plain : PlainScope ["orders", "notes"] (scopeAt 26) := ⟨by decide +kernel, by decide +kernel, by decide +kernel, by decide +kernel, by decide +kernel⟩
noncomputable def gval (p : Nat × Nat) : Val := .tup [.int (p.1 : Nat), .int (p.2 : Nat)]
noncomputable def gdat (p : Nat × Nat) : PyData := .tuple [.int (p.1 : Nat), .int (p.2 : Nat)]
theorem deep_gs {σ : Store} : ∀ g : List (Nat × Nat), Deeps σ (g.map gval) (g.map gdat)
  | [] => .nil
  | p :: g => .cons (.tup (.cons (.int _) (.cons (.int _) .nil))) (deep_gs g)
theorem gdat_ok : ∀ g : List (Nat × Nat), PyData.canLayAll0 (g.map gdat) = true ∧ PyData.depthAll (g.map gdat) ≤ 1
  | [] => ⟨rfl, Nat.zero_le _⟩
  | p :: g => by
    obtain ⟨h1, h2⟩ := gdat_ok g
    simp only [List.map_cons, PyData.canLayAll0, PyData.depthAll, gdat, PyData.canLay0, PyData.depth, h1]
    exact ⟨rfl, by lia⟩
theorem gshape (g : List (Nat × Nat)) : SeqAt.shaped (.list (g.map gdat)) = true := by
  obtain ⟨h1, h2⟩ := gdat_ok g
  unfold SeqAt.shaped
  simp only [PyData.canLay0, PyData.depth, h1, Bool.true_and]
  exact decide_eq_true (by lia)
theorem Live.after {M : List Addr} {st n gd : Addr} {σ1 σ2 : Store} {c1 : Cell} (live : Live (gd :: st :: M) σ1) (K : KeepOut [st, n] σ1 σ2) (e1 : σ2 st = some c1) (e2 : ∃ c, σ2 n = some c) : Live (gd :: st :: M) σ2 := fun z hz e => by
  by_cases q1 : z = st
  · rw [q1, e1] at e; cases e
  · by_cases q2 : z = n
    · obtain ⟨c, e2⟩ := e2
      rw [q2, e2] at e; cases e
    · cases q3 : σ1 z with
      | none => exact live z hz q3
      | some cc => rw [K z cc (by simp [q1, q2]) q3] at e; cases e
theorem dw {w : Str} {rest : List Val} (e : ((w == ("GUARD" : Str)) || (w == ("UNGUARD" : Str))) = false) : ∃ w' rest', Val.tup (.str w :: rest) = .tup (.str w' :: rest') ∧ (w' == ("GUARD" : Str)) = false ∧ (w' == ("UNGUARD" : Str)) = false := ⟨w, rest, rfl, (Bool.or_eq_false_iff.mp e).1, (Bool.or_eq_false_iff.mp e).2⟩
theorem DoM.word {o : Ord} {s s' : List Str} {new : List Note} {b : Bool} (h : DoM o s new s' b) : ∃ w rest, o.val = .tup (.str w :: rest) ∧ (w == ("GUARD" : Str)) = false ∧ (w == ("UNGUARD" : Str)) = false := by
  induction h <;> exact dw (by decide +kernel)
theorem seq_zero {α : Type} {x : α} {xs : List α} : seqIndex? (0 : Int) (x :: xs).length = some 0 := seq_nat (i := 0) (by simp)
theorem Runs.fitsNs {os : List Ord} {k : Nat} {st : MSt} {R : MR} (h : Runs os k st R) (hz : st.ns.length ≤ 900000) : R.2.length ≤ 900000 := by
  induction h with
  | stop _ => exact hz
  | guard _ _ _ ih => exact ih hz
  | unguard _ _ _ ih => exact ih hz
  | good _ _ _ h _ ih => exact ih h
  | dead _ _ h => exact h
  | jump _ _ h _ _ ih => exact ih h
theorem KeepBut.two {st n : Addr} {σ₁ σ₂ : Store} (k : KeepOut [st, n] σ₁ σ₂) {σ : Store} (h : KeepBut n σ σ₁) (e : σ st = none) : KeepBut n σ σ₂ := fun a c ha q => k a c (fun m => by
  rcases List.mem_cons.mp m with rfl | m
  · rw [e] at q; cases q
  · exact ha (List.mem_singleton.mp m)) (h a c ha q)
/-- the machine's state, as the frame holds it -/
structure RunSt (σ₀ : Store) (M : List Addr) (os : List Ord) (lo n st gd : Addr) (ol : Obj) (R : MR) (k : Nat) (m : MSt) (ρ : LEnv) (σ : Store) : Prop where
  run : Runs os k m R
  r1 : At ρ "orders" (.ref lo)
  r2 : At ρ "notes" (.ref n)
  r3 : At ρ "stack" (.ref st)
  r4 : At ρ "guards" (.ref gd)
  r5 : At ρ "at" (.int (m.at_ : Nat))
  r6 : At ρ "high" (.int (m.h : Nat))
  keep : KeepBut n σ₀ σ
  live : Live (gd :: st :: M) σ
  notes : NotesAt (gd :: st :: M) σ n m.ns
  stk : IsL σ st (m.s.map Val.str)
  grd : IsL σ gd (m.g.map gval)
  ords : σ lo = some (.list (os.map Ord.val) ol)
  sm : Sm m.s
  nz : m.ns.length ≤ 900000
  gz : m.g.length ≤ 100001
section
variable {c : Cx} {A : Nat → Addr} (F : Facts c A)
include F
theorem run_spec {os : List Ord} {k₀ : Nat} {R : MR} (hr : Runs os k₀ ⟨0, [], [], 0, []⟩ R) (hos : os.length ≤ 1000000) {d : Nat} {σ : Store} {M : List Addr} {n lo : Addr} {Q : Val → Store → Prop} (hd : 2 ≤ d) (hM : n ∈ M) (hL : Live M σ) (N : NotesAt M σ n []) (hlo : IsL σ lo (os.map Ord.val)) (hln : lo ≠ n)
    (qn : ∀ σ', KeepBut n σ σ' → NotesAt M σ' n R.2 → R.1 = none → Q .none σ')
    (qs : ∀ σ' l s h, KeepBut n σ σ' → NotesAt M σ' n R.2 → R.1 = some (s, h) → IsL σ' l (s.map Val.str) → σ l = none → Q (.tup [.ref l, .int (h : Nat)]) σ') : WC c (d + 1) (A 26) [.ref lo, .ref n] σ Q := by
  obtain ⟨ol, hlo⟩ := hlo
  have hosz : (os.map Ord.val).length ≤ sizeLine := by rw [List.length_map]; exact Nat.le_trans hos mil
  refine WC_def F.f26.toFunAt run_plain rfl ?_
  refine WS_cons ?_
  refine WX_unpack ?_
  repeat walk_at "go"
  rename_i st o1 h1 gd o2 h2
  refine ⟨[.ref st, .ref gd, .int 0, .int 0], .inl rfl, rfl, WAs_name (WAs_name (WAs_name (WAs_name (WAs_nil ?_))))⟩
  repeat walk_at "go"
  have h2' : σ gd = none := Keep.noneOf (Keep.new h1) h2
  have hgs : gd ≠ st := fun e => by rw [e, Store.set_same] at h2; cases h2
  have hsn : st ≠ n := N.ne h1
  have hgn : gd ≠ n := N.ne h2'
  have hls : lo ≠ st := fun e => by rw [e, h1] at hlo; cases hlo
  have hlg : lo ≠ gd := fun e => by rw [e, h2'] at hlo; cases hlo
  have hnM : n ∈ gd :: st :: M := List.mem_cons_of_mem _ (List.mem_cons_of_mem _ hM)
  have hsM : st ∈ gd :: st :: M := List.mem_cons_of_mem _ List.mem_cons_self
  have hgM : gd ∈ gd :: st :: M := List.mem_cons_self
  refine WX_while (fun k ρ σ' => ∃ m, RunSt σ M os lo n st gd ol R k m ρ σ') k₀ ⟨⟨0, [], [], 0, []⟩, hr, by rfl, by rfl, by rfl, by rfl, by rfl, by rfl, ((Keep.new h1).trans (Keep.new h2)).but, hL.new.new, ?_, ⟨o1, ?_⟩, ⟨o2, Store.set_same⟩, Store.old h2 (Store.old h1 hlo), ⟨Nat.zero_le _, fun x hx => by cases hx⟩, Nat.zero_le _, Nat.zero_le _⟩ ?_
  · exact ((((N.wide h1).keep (Keep.new h1)).wide h2).keep (Keep.new h2))
  · exact Store.old h2 Store.set_same
  rintro k ρ σ1 ⟨⟨a, s, g, h, ns⟩, S⟩
  obtain ⟨run, r1, r2, r3, r4, r5, r6, keep, live, notes, stk, grd, ords, sm, nz, gz⟩ := S
  dsimp only at r5 r6 notes stk grd sm nz gz
  obtain ⟨os', hstk⟩ := stk
  obtain ⟨og, hgrd⟩ := grd
  repeat walk_at "go"
  refine WE_name r5 ?_
  repeat walk_at "go"
  refine WE_name r1 ?_
  repeat walk_at "go"
  try refine GL_lenL ords ?_ hosz
  repeat walk_at "go"
  refine ⟨fun hlt => ?_, fun hge => ?_⟩
  · have hlt' : a < os.length := by
      have := of_decide_eq_true hlt
      rw [List.length_map] at this; lia
    have hix : seqIndex? (a : Int) (os.map Ord.val).length = some a := seq_nat (by rw [List.length_map]; exact hlt')
    have hmax : ∀ x y : Nat, (if (y : Int) > (x : Int) then (y : Int) else (x : Int)) = ((max x y : Nat) : Int) := fun x y => by
      by_cases q : (y : Int) > (x : Int)
      · rw [if_pos q]; lia
      · rw [if_neg q]; lia
    have hhd : ∀ o v, os[a]? = some o → o.val = v → (os.map Ord.val)[a]? = some v := fun o v e e' => by rw [List.getElem?_map, e]; exact congrArg some e'
    have a63 : (a : Int) < 2 ^ 63 := by lia
    refine run.elim (fun e _ => absurd e (Nat.not_le.mpr hlt')) (fun j x ek hx hg rn1 => ?_) (fun j g' x ek eg hx hg rn1 => ?_) (fun o s' new b hx hdo hnz alt => ?_)
    · subst ek
      repeat walk_at "go"
      refine WE_name r1 ?_
      refine WE_name r5 ?_
      refine G_itemL ords ?_ hix (hhd _ (.tup [.str "GUARD", .int (x : Nat)]) hx rfl) (by lia) a63
      repeat walk_at "go"
      refine WE_methL r4 hgrd PySem.F.slot_list_append ty_append ?_
      repeat walk_at "go"
      refine WE_name r5 ?_
      repeat walk_at "go"
      refine WE_name r3 ?_
      repeat walk_at "go"
      try refine GL_lenL hstk ?_ (by rw [List.length_map]; exact Nat.le_trans (by have := sm.1; lia) mil)
      repeat walk_at "go"
      refine GL_append hgrd (fun og' => ?_) (by rw [List.length_map]; exact Nat.le_trans (by lia) mil)
      repeat walk_at "go"
      refine WX_swap2 ?_
      repeat walk_at "go"
      refine WE_name r5 ?_
      repeat walk_at "go"
      refine WE_name r6 ?_
      repeat walk_at "go"
      refine WE_name r3 ?_
      repeat walk_at "go"
      have hstk2 : (σ1.set gd (.list (g.map gval ++ [.tup [.int ((a : Int) + (x : Nat)), .int ((s.map Val.str).length : Nat)]]) og')) st = some (.list (s.map Val.str) os') := by rw [Store.set_ne (Ne.symm hgs)]; exact hstk
      try refine GL_lenL hstk2 ?_ (by rw [List.length_map]; exact Nat.le_trans (by have := sm.1; lia) mil)
      repeat walk_at "go"
      refine GL_max ?_
      repeat walk_at "go"
      refine ⟨_, _, rfl, ?_⟩
      repeat walk_at "go"
      rw [hmax, List.length_map]
      rw [List.length_map] at hstk2
      refine ⟨j, Nat.lt_succ_self j, _, rn1, r1, r2, r3, r4, ?_, ?_, keep.upd h2', live.upd, notes.out (KeepOut.set hgM) (Store.set_ne (Ne.symm hgn)), ⟨os', hstk2⟩, IsL.set ?_, by rw [Store.set_ne hlg]; exact ords, sm, nz, ?_⟩
      · show some _ = some _; rfl
      · rfl
      · simp [gval]
      · simp only [List.length_append, List.length_cons, List.length_nil]; lia
    · subst ek eg
      repeat walk_at "go"
      refine WE_name r1 ?_
      refine WE_name r5 ?_
      refine G_itemL ords ?_ hix (hhd _ (.tup [.str "UNGUARD"]) hx rfl) (by lia) a63
      repeat walk_at "go"
      rw [List.map_append, List.map_cons, List.map_nil] at hgrd
      refine WE_methL r4 hgrd PySem.F.slot_list_pop ty_pop ?_
      repeat walk_at "go"
      refine GL_pop hgrd (fun og' => ?_) (by rw [List.length_map]; exact Nat.le_trans (by lia : g'.length + 1 ≤ 1000000) mil)
      repeat walk_at "go"
      refine WX_swap2 ?_
      repeat walk_at "go"
      refine WE_name r5 ?_
      repeat walk_at "go"
      refine WE_name r6 ?_
      repeat walk_at "go"
      refine WE_name r3 ?_
      repeat walk_at "go"
      have hstk2 : (σ1.set gd (.list (g'.map gval) og')) st = some (.list (s.map Val.str) os') := by rw [Store.set_ne (Ne.symm hgs)]; exact hstk
      try refine GL_lenL hstk2 ?_ (by rw [List.length_map]; exact Nat.le_trans (by have := sm.1; lia) mil)
      repeat walk_at "go"
      refine GL_max ?_
      repeat walk_at "go"
      refine ⟨_, _, rfl, ?_⟩
      repeat walk_at "go"
      rw [hmax, List.length_map]
      refine ⟨j, Nat.lt_succ_self j, _, rn1, r1, r2, r3, r4, ?_, ?_, keep.upd h2', live.upd, notes.out (KeepOut.set hgM) (Store.set_ne (Ne.symm hgn)), ⟨os', hstk2⟩, IsL.set rfl, by rw [Store.set_ne hlg]; exact ords, sm, nz, ?_⟩
      · rfl
      · rfl
      · exact Nat.le_succ_of_le hg
    · obtain ⟨w, rest, hov, hw1, hw2⟩ := hdo.word
      repeat walk_at "go"
      refine WE_name r1 ?_
      refine WE_name r5 ?_
      refine G_itemL ords ?_ hix (hhd _ _ hx hov) (by lia) a63
      repeat walk_at "go"
      refine G_itemT ?_ seq_zero rfl
      repeat walk_at "go"
      refine Ways.no hw1 ?_
      repeat walk_at "go"
      refine G_itemT ?_ seq_zero rfl
      repeat walk_at "go"
      refine Ways.no hw2 ?_
      repeat walk_at "go"
      refine WE_name r3 ?_
      repeat walk_at "go"
      refine WE_name r2 ?_
      repeat walk_at "go"
      have hdn := fun Q q => done_ok F hdo d σ1 _ n st ns Q hd hnM hsM (Ne.symm hsn) live notes ⟨os', hstk⟩ sm nz q
      rw [hov] at hdn
      refine hdn _ fun σ2 K2 N2 ⟨os2, S2⟩ => ?_
      have hg2 := K2 gd _ (by simp [hgs, hgn]) hgrd
      have ho2 := K2 lo _ (by simp [hls, hln]) ords
      have k2 := KeepBut.two K2 keep h1
      have l2 : Live (gd :: st :: M) σ2 := live.after K2 S2 (let ⟨_, o2', e2, _⟩ := N2; ⟨_, e2⟩)
      rcases alt with ⟨rfl, j, ek, hsm', rn1⟩ | ⟨rfl, eg, eR⟩ | ⟨rfl, j0, b, ht, g', ek, eg, hg, rn1⟩
      · subst ek
        repeat walk_at "go"
        refine WX_swap2 ?_
        repeat walk_at "go"
        refine WE_name r5 ?_
        repeat walk_at "go"
        refine WE_name r6 ?_
        repeat walk_at "go"
        refine WE_name r3 ?_
        repeat walk_at "go"
        try refine GL_lenL S2 ?_ (by rw [List.length_map]; exact Nat.le_trans (by have := hsm'.1; lia) mil)
        repeat walk_at "go"
        refine GL_max ?_
        repeat walk_at "go"
        refine ⟨_, _, rfl, ?_⟩
        repeat walk_at "go"
        rw [hmax, List.length_map]
        exact ⟨j, Nat.lt_succ_self j, _, rn1, r1, r2, r3, r4, by rfl, by rfl, k2, l2, N2, ⟨os2, S2⟩, ⟨og, hg2⟩, ho2, hsm', hnz, gz⟩
      · subst eg eR
        repeat walk_at "go"
        refine WE_name r4 ?_
        repeat walk_at "go"
        rename_i l3 o3 h3
        refine G_eqD (.list (Store.old h3 hg2) (deep_gs [])) (.list Store.set_same .nil) (by decide +kernel) (by decide +kernel) ?_
        repeat walk_at "go"
        refine qn _ (k2.trans (Keep.new h3).but) ((N2.keep (Keep.new h3)).slim.slim) rfl
      · subst ek eg
        repeat walk_at "go"
        refine WE_name r4 ?_
        repeat walk_at "go"
        rename_i l3 o3 h3
        have hg3 := Store.old (c := .list [] o3) h3 hg2
        have hs3 := Store.old (c := .list [] o3) h3 S2
        refine G_eqD (.list hg3 (deep_gs (g' ++ [(b, ht)]))) (.list Store.set_same .nil) (gshape _) (by decide +kernel) ?_
        repeat walk_at "go"
        refine Ways.no (by cases g' <;> rfl) ?_
        repeat walk_at "go"
        rw [List.map_append, List.map_cons, List.map_nil] at hg3
        refine WX_unpack ?_
        refine WE_methL r4 hg3 PySem.F.slot_list_pop ty_pop ?_
        repeat walk_at "go"
        refine GL_pop hg3 (fun og' => ?_) (by rw [List.length_map]; exact Nat.le_trans (by lia : g'.length + 1 ≤ 1000000) mil)
        refine ⟨[.int (b : Nat), .int (ht : Nat)], .inl rfl, rfl, WAs_name (WAs_name (WAs_nil ?_))⟩
        repeat walk_at "go"
        generalize hσ4 : ((σ2.set l3 (.list [] o3)).set gd (.list (g'.map gval) og')) = σ4
        have hs4 : σ4 st = some (.list (s'.map Val.str) os2) := by rw [← hσ4, Store.set_ne (Ne.symm hgs)]; exact hs3
        have hg4 : σ4 gd = some (.list (g'.map gval) og') := by rw [← hσ4]; exact Store.set_same
        have ho4 : σ4 lo = some (.list (os.map Ord.val) ol) := by rw [← hσ4, Store.set_ne hlg]; exact Store.old h3 ho2
        have k4 : KeepBut n σ σ4 := by rw [← hσ4]; exact (k2.trans (Keep.new h3).but).upd h2'
        have l4 : Live (gd :: st :: M) σ4 := by rw [← hσ4]; exact (l2.keep (Keep.new h3)).upd
        have N4 : NotesAt (gd :: st :: M) σ4 n (ns ++ new) := by rw [← hσ4]; exact (N2.keep (Keep.new h3)).out (KeepOut.set hgM) (Store.set_ne (Ne.symm hgn))
        have hs'l : s'.length ≤ 100000 ∧ ∀ x ∈ s', x.length ≤ 400000 := (hdo.same rfl).symm ▸ sm
        refine WX_while (fun j ρ' σ5 => ∃ s2 o5, σ5 st = some (.list (s2.map Val.str) o5) ∧ s2.take ht = s'.take ht ∧ j = s2.length - ht ∧ s2.length ≤ 100000 ∧ KeepBut st σ4 σ5 ∧ At ρ' "orders" (.ref lo) ∧ At ρ' "notes" (.ref n) ∧ At ρ' "stack" (.ref st) ∧ At ρ' "guards" (.ref gd) ∧ At ρ' "at" (.int (b : Nat)) ∧ At ρ' "high" (.int (h : Nat)) ∧ At ρ' "height" (.int (ht : Nat))) (s'.length - ht) ⟨s', os2, hs4, rfl, rfl, hs'l.1, KeepBut.refl _ _, r1, r2, r3, r4, by rfl, r6, by rfl⟩ ?_
        rintro j ρ' σ5 ⟨s2, o5, e5, t5, j5, z5, k5, q1, q2, q3, q4, q5, q6, q7⟩
        repeat walk_at "go"
        refine WE_name q3 ?_
        repeat walk_at "go"
        try refine GL_lenL e5 ?_ (by rw [List.length_map]; exact Nat.le_trans (by lia) mil)
        repeat walk_at "go"
        refine WE_name q7 ?_
        repeat walk_at "go"
        refine ⟨fun hgt => ?_, fun hle => ?_⟩
        · have hgt' : s2.length > ht := by
            have := of_decide_eq_true hgt
            rw [List.length_map] at this; lia
          obtain ⟨s3, x3, rfl⟩ : ∃ s3 x3, s2 = s3 ++ [x3] := ⟨s2.dropLast, s2.getLast (by intro e; rw [e] at hgt'; simp at hgt'), (List.dropLast_concat_getLast _).symm⟩
          simp only [List.length_append, List.length_cons, List.length_nil] at hgt' z5 j5
          rw [List.map_append, List.map_cons, List.map_nil] at e5
          repeat walk_at "go"
          refine WE_methL q3 e5 PySem.F.slot_list_pop ty_pop ?_
          repeat walk_at "go"
          refine GL_pop e5 (fun o6 => ?_) (by rw [List.length_map]; exact Nat.le_trans (by lia : s3.length + 1 ≤ 1000000) mil)
          repeat walk_at "go"
          refine ⟨s3.length - ht, by lia, s3, o6, Store.set_same, ?_, rfl, by lia, k5.trans KeepBut.set, q1, q2, q3, q4, q5, q6, q7⟩
          rw [← t5, List.take_append_of_le_length (by lia)]
        · have hle' : s2.length ≤ ht := by
            have := of_decide_eq_false hle
            rw [List.length_map] at this; lia
          rw [List.take_of_length_le hle'] at t5
          subst t5
          repeat walk_at "go"
          have sgd : st ≠ gd := Ne.symm hgs
          refine ⟨j0, Nat.lt_succ_self j0, _, rn1, q1, q2, q3, q4, q5, q6, fun z cc hz hc => ?_, fun z hz e => ?_, N4.out (k5.out hsM) ?_, ⟨o5, e5⟩, ⟨og', k5 _ _ hgs hg4⟩, k5 _ _ hls ho4, ⟨z5, fun x hx => hs'l.2 x (List.mem_of_mem_take hx)⟩, hnz, Nat.le_succ_of_le hg⟩
          · exact k5 _ _ (fun e => by rw [e, h1] at hc; cases hc) (k4 z cc hz hc)
          · by_cases w1 : z = st
            · rw [w1, e5] at e; cases e
            · cases w3 : σ4 z with
              | none => exact l4 z hz w3
              | some cc => rw [k5 z cc w1 w3] at e; cases e
          · obtain ⟨vs4, on4, e4, _⟩ := N4
            rw [e4]; exact k5 _ _ (Ne.symm hsn) e4
  · have hge' : os.length ≤ a := by
      have := of_decide_eq_false hge
      rw [List.length_map] at this; lia
    have nope : ∀ o, os[a]? ≠ some o := fun o e => by
      rw [List.getElem?_eq_none hge'] at e; cases e
    refine run.elim (fun _ eR => ?_) (fun _ _ _ hx _ _ => absurd hx (nope _)) (fun _ _ _ _ _ hx _ _ => absurd hx (nope _)) (fun _ _ _ _ hx _ _ _ => absurd hx (nope _))
    · subst eR
      repeat walk_at "go"
      refine WE_name r3 ?_
      repeat walk_at "go"
      refine WE_name r6 ?_
      repeat walk_at "go"
      exact qs σ1 st s h keep (notes.slim.slim) rfl ⟨os', hstk⟩ h1
end

theorem chg_plain : PlainScope ["order"] (scopeAt 13) := ⟨by decide +kernel, by decide +kernel, by decide +kernel, by decide +kernel, by decide +kernel⟩
theorem dep_plain : PlainScope ["orders"] (scopeAt 12) := ⟨by decide +kernel, by decide +kernel, by decide +kernel, by decide +kernel, by decide +kernel⟩
section
variable {c : Cx} {A : Nat → Addr} (F : Facts c A)
include F
theorem chg_spec (o : Ord) {d : Nat} {σ : Store} {Q : Val → Store → Prop} (q : Q (.int (chg o)) σ) : WC c (d + 1) (A 13) [o.val] σ Q := by
  cases o
  all_goals
    simp only [Ord.val, chg] at q ⊢
    refine WC_def F.f13.toFunAt chg_plain rfl ?_
    refine WS_cons ?_
    repeat walk_at "go"
    exact q
theorem depth_spec (os : List Ord) {d : Nat} {σ : Store} {l : Addr} {ol : Obj} {Q : Val → Store → Prop} (hl : σ l = some (.list (os.map Ord.val) ol)) (q : Q (.int (Mx os)) σ) : WC c (d + 1 + 1) (A 12) [.ref l] σ Q := by
  refine WC_def F.f12.toFunAt dep_plain rfl ?_
  refine WS_cons ?_
  refine WX_unpack ?_
  repeat walk_at "go"
  refine ⟨[.int 0, .int 0], .inl rfl, rfl, WAs_name (WAs_name (WAs_nil ?_))⟩
  repeat walk_at "go"
  refine WX_for (WE_name (by rfl) ⟨os.map Ord.val, .inr ⟨l, ol, rfl, hl⟩, fun i ρ σ' => At ρ "high" (.int (Hs (os.take i))) ∧ At ρ "most" (.int (Mx (os.take i))) ∧ σ' = σ, ⟨by rfl, by rfl, rfl⟩, ?_, ?_, ?_⟩)
  · rintro l' e o₂ i ρ' σ' e' ⟨_, _, rfl⟩
    cases e; exact e'
  · rintro i u ρ σ₁ hu ⟨r1, r2, rfl⟩
    obtain ⟨o, ho, rfl⟩ : ∃ o, os[i]? = some o ∧ o.val = u := by simpa using hu
    have hm : Mx (os.take (i + 1)) = (if Hs (os.take i) + chg o > Mx (os.take i) then Hs (os.take i) + chg o else Mx (os.take i)) := by
      rw [List.take_add_one, ho]
      simp only [Option.toList, Mx_app, Mx, Int.add_zero]
      have := Hs_le (os.take i)
      by_cases q : Hs (os.take i) + chg o > Mx (os.take i)
      · rw [if_pos q]; lia
      · rw [if_neg q]; lia
    have hh : Hs (os.take (i + 1)) = Hs (os.take i) + chg o := by
      rw [List.take_add_one, ho]
      simp only [Option.toList, Hs_app, Hs, Int.add_zero]
    refine WS_cons (WX_aug r1 ?_)
    repeat walk_at "go"
    refine chg_spec F o ?_
    refine G_iaddI ?_
    repeat walk_at "go"
    refine WE_name r2 ?_
    repeat walk_at "go"
    refine GL_max ?_
    repeat walk_at "go"
    rw [← hm, ← hh]
    exact ⟨by rfl, by rfl, rfl⟩
  · rintro ρ σ₁ ⟨r1, r2, rfl⟩
    rw [List.length_map, List.take_length] at r2
    repeat walk_at "go"
    refine WE_name r2 ?_
    repeat walk_at "go"
    exact q
end

theorem tot_plain : PlainScope ["script"] (scopeAt 18) := ⟨by decide +kernel, by decide +kernel, by decide +kernel, by decide +kernel, by decide +kernel⟩
theorem ints_vrels {N : Led} : ∀ {rs : List Value} {ns : List Int}, IntsAre rs ns → VRels N rs (ns.map Val.int)
  | _, _, .nil => .nil
  | _, _, .cons _ _ r => .cons (.int _ _) (ints_vrels r)
theorem vrels_rev {N : Led} : ∀ {rs : List Value} {vs : List Val}, VRels N rs vs → VRels N rs.reverse vs.reverse
  | _, _, .nil => .nil
  | _, _, .cons h r => by rw [List.reverse_cons, List.reverse_cons]; exact (vrels_rev r).append (.cons h .nil)
section
variable {c : Cx} {d : Nat} {cs : Scope} {ρ : LEnv} {σ : Store} {Q : Val → Store → Prop}
theorem WE_scriptUpto {v hi : Expr} {p sp : Pos} (hz : c.svs.length ≤ sizeLine) (h : WE c d cs v ρ σ (fun a σ₁ => a = .ref c.sa ∧ WE c d cs hi ρ σ₁ (fun n σ₂ => ∃ k : Nat, n = .int (k : Nat) ∧ ∀ l o, σ₂ l = none → Q (.ref l) (σ₂.set l (.list ((c.sns.map Val.int).take k) o)))))
    (hs : ∀ t u, subscripted (.Slice none (some hi) none sp) false (.ref t) (.ref u) = operate [.ref u, .ref t] (getItem (.ref t) (.ref u)) := by intro _ _; rfl)
    (hg : ∀ t r, letTemporaryGo v (.ref t) r = pure () := by intro _ _; rfl) : WE c d cs (.Subscript v (.Slice none (some hi) none sp) p) ρ σ Q := by
  intro f m N s QC ok I R k
  refine Subscript_ (h f m N s _ ok I R ?_)
  rintro r₁ v₁ σ₁ h₁ N₁ t₁ ⟨rfl, q₁⟩ V₁ X₁ I₁
  refine wpAny_Slice (evalPart_none_step (evalPart_some_step (q₁ f m N₁ _ _ ok I₁ (R.ext X₁) ?_)))
  rintro r₂ v₂ σ₂ h₂ N₂ t₂ ⟨j, rfl, q⟩ V₂ X₂ I₂
  refine evalPart_none_step ?_
  cases V₁ with | ref => cases V₂ with | int =>
  have hl : h₂.IsList c.sa c.svs.toArray := by
    obtain ⟨o, e, r⟩ := ok.scr
    exact ⟨o, I₂.fr.keep _ _ e, r⟩
  refine slice_list (s := { s with heap := h₂, toks := t₂ }) I₂.fr I₂.nw hl .none (.int _ _) (fun h' F' N' => ?_) (hs _ _) (hg _) (by simpa using hz)
  rw [slicePick_upto'] at N'
  exact slice_new (s := { s with heap := h₂, toks := t₂ }) I₂ ((ints_vrels ok.sin).take j) (k.at (X₁.trans X₂)) q _ h' F' N' rfl
theorem WE_sliceRev {v st : Expr} {p sp : Pos} (h : WE c d cs v ρ σ (fun a σ₁ => WE c d cs st ρ σ₁ (fun n σ₂ => ∃ l vs o, a = .ref l ∧ σ₂ l = some (.list vs o) ∧ n = .int (-1) ∧ vs.length ≤ sizeLine ∧ ∀ l' o', σ₂ l' = none → Q (.ref l') (σ₂.set l' (.list vs.reverse o')))))
    (hs : ∀ t u, subscripted (.Slice none none (some st) sp) false (.ref t) (.ref u) = operate [.ref t, .ref u] (getItem (.ref t) (.ref u)) := by intro _ _; rfl) : WE c d cs (.Subscript v (.Slice none none (some st) sp) p) ρ σ Q := by
  intro f m N s QC ok I R k
  refine Subscript_ (h f m N s _ ok I R ?_)
  intro r₁ v₁ σ₁ h₁ N₁ t₁ q₁ V₁ X₁ I₁
  refine wpAny_Slice (evalPart_none_step (evalPart_none_step (evalPart_some_step (q₁ f m N₁ _ _ ok I₁ (R.ext X₁) ?_))))
  rintro r₂ v₂ σ₂ h₂ N₂ t₂ ⟨l, vs, o, rfl, hc, rfl, hz, q⟩ V₂ X₂ I₂
  cases V₁ with | ref => cases V₂ with | int =>
  obtain ⟨arr, n, ho, hl, hg', V⟩ := I₂.isList hc
  refine kba_turn (value' := .Name "_" ⟨0, 0, 0, 0⟩) (fun _ => rfl) ?_
  refine slice_list3 (s := { s with heap := h₂, toks := t₂ }) I₂.fr I₂.nw hl .none .none (.int _ _) (by decide) (fun h' F' N' => ?_) (hs _ _) (fun _ => rfl) (by simpa [V.length] using hz)
  rw [krv_pick] at N'
  exact slice_new (s := { s with heap := h₂, toks := t₂ }) I₂ (vrels_rev V) (k.at (X₁.trans X₂)) q _ h' F' N' rfl
end
section
variable {c : Cx} {A : Nat → Addr} (F : Facts c A)
include F
theorem tot_spec {d : Nat} {σ : Store} {Q : Val → Store → Prop} (hz : c.svs.length ≤ sizeLine) (q : ∀ σ' (g : Int), 0 ≤ g → Keep σ σ' → Q (.int g) σ') : WC c (d + 1) (A 18) [.ref c.sa] σ Q := by
  refine WC_def F.f18.toFunAt tot_plain rfl ?_
  refine WS_cons ?_
  repeat walk_at "go"
  refine WX_for (WE_sliceRev (WE_scriptUpto hz (WE_name (by rfl) ⟨rfl, WE_int ⟨24, rfl, fun l1 o1 h1 => ?_⟩⟩)))
  refine WE_un (WE_int (G_negI ?_))
  have hlen : ((c.sns.map Val.int).take 24).length ≤ 24 := List.length_take_le ..
  refine ⟨l1, _, o1, rfl, Store.set_same, rfl, Nat.le_trans hlen (by decide), fun l2 o2 h2 => ?_⟩
  refine ⟨_, .inr ⟨l2, o2, rfl, Store.set_same⟩, fun i ρ σ' => (∃ g : Int, 0 ≤ g ∧ At ρ "grand" (.int g)) ∧ σ' = (σ.set l1 (.list ((c.sns.map Val.int).take 24) o1)).set l2 (.list ((c.sns.map Val.int).take 24).reverse o2), ⟨⟨0, Int.le_refl _, by rfl⟩, rfl⟩, ?_, ?_, ?_⟩
  · rintro l' e o₂ i ρ' σ' e' ⟨_, rfl⟩
    cases e; exact e'
  · rintro i u ρ σ₁ hu ⟨⟨g, hg, r1⟩, rfl⟩
    obtain ⟨n, rfl⟩ : ∃ n : Int, u = .int n := by
      have := List.mem_of_getElem? hu
      rw [List.mem_reverse] at this
      have := List.mem_of_mem_take this
      obtain ⟨n, _, rfl⟩ := List.mem_map.mp this
      exact ⟨n, rfl⟩
    repeat walk_at "go"
    refine WE_name r1 ?_
    repeat walk_at "go"
    refine G_mulI ?_ (mulOk_right (by decide +kernel))
    repeat walk_at "go"
    refine GL_abs ?_
    repeat walk_at "go"
    refine G_modI ?_ (by decide)
    repeat walk_at "go"
    refine ⟨⟨_, ?_, by rfl⟩, rfl⟩
    have := Int.fmod_nonneg_of_pos (if n < 0 then -n else n) (b := 65536) (by decide)
    lia
  · rintro ρ σ₁ ⟨⟨g, hg, r1⟩, rfl⟩
    repeat walk_at "go"
    refine WE_name r1 ?_
    repeat walk_at "go"
    exact q _ g hg ((Keep.new h1).trans (Keep.new h2))
end

local macro_rules | `(tactic| walk_at "go") => `(tactic| first
  | ((with_reducible show G1 _ _ _ (fun r => getAttr r _ true) (Val.ref _) _ _); refine G_attr (by walk_at "cell") (Facts.a15 (by assumption) _ (by decide)) (by first | assumption | rfl) ?_)
  | ((with_reducible show G2U _ _ _ (fun r x => setAttr r _ x) (Val.ref _) _ _ _); refine G_setAttr (by walk_at "cell") (Facts.a15 (by assumption) _ (by decide)) (Nat.le_of_ble_eq_true rfl) ?_))
theorem init_plain : PlainScope ["self", "line", "text"] (scopeI 15) := ⟨by decide +kernel, by decide +kernel, by decide +kernel, by decide +kernel, by decide +kernel⟩
theorem stm_plain : PlainScope ["box", "form"] (scopeAt 27) := ⟨by decide +kernel, by decide +kernel, by decide +kernel, by decide +kernel, by decide +kernel⟩
theorem Store.set_set {σ : Store} {a : Addr} {c c' : Cell} : (σ.set a c).set a c' = σ.set a c' := by
  funext b; unfold Store.set; by_cases h : b = a <;> simp [h]
inductive Stm where
  | ev (t : Tr)
  | asg (g : Go) (r : Tr)
  | mat (g : Go) (p : Tr)
  | rep (g : Go) (p r : Tr)
noncomputable def Stm.sub : Stm → Val
  | .ev t => t.val
  | .asg g _ | .mat g _ | .rep g _ _ => g.val
noncomputable def Stm.pat : Stm → Val
  | .mat _ p | .rep _ p _ => p.val
  | _ => .none
noncomputable def Stm.isr : Stm → Bool
  | .asg _ _ | .rep _ _ _ => true
  | _ => false
noncomputable def Stm.repl : Stm → Val
  | .asg _ r | .rep _ _ r => r.val
  | _ => .none
noncomputable def Stm.Low : Stm → Prop
  | .ev t => t.h ≤ 8
  | .asg g r => g.h ≤ 8 ∧ r.h ≤ 8
  | .mat g p => g.h ≤ 8 ∧ p.h ≤ 8
  | .rep g p r => g.h ≤ 8 ∧ p.h ≤ 8 ∧ r.h ≤ 8
structure StmB (S : Stm) (fs : List (Str × Val)) : Prop where
  sub : fs.lookup ("subject" : Str) = some S.sub
  pat : fs.lookup ("pattern" : Str) = some S.pat
  isr : fs.lookup ("is_replaced" : Str) = some (.bool S.isr)
  repl : fs.lookup ("replacement" : Str) = some S.repl
structure StmL (fs : List (Str × Val)) : Prop where
  lab : fs.lookup ("label" : Str) = some (.str "L")
  ga : fs.lookup ("go_always" : Str) = some .none
  line : fs.lookup ("line" : Str) = some (.int 3)
  short : fs.length ≤ 20
noncomputable def newF (ln : Int) (tx : Str) : List (Str × Val) := [("label", .none), ("subject", .none), ("pattern", .none), ("is_replaced", .bool false), ("replacement", .none), ("go_success", .none), ("go_failure", .none), ("go_always", .none), ("line", .int ln), ("text", .str tx)]
theorem Box.upd {σ : Store} {b x : Addr} {c : Cell} (B : Box σ b) (h : x ≠ b) : Box (σ.set x c) b := by
  obtain ⟨g, k, o, hb, r⟩ := B
  exact ⟨g, k, o, by rw [Store.set_ne (Ne.symm h)]; exact hb, r⟩
section
variable {c : Cx} {A : Nat → Addr} (F : Facts c A)
include F
theorem stm_new {ln : Int} {tx : Str} {d : Nat} {σ : Store} {Q : Val → Store → Prop} (q : ∀ x dx, σ x = none → Q (.ref x) (σ.set x (.inst (A 15) dx (newF ln tx)))) : WC c (d + 2) (A 15) [.int ln, .str tx] σ Q := by
  refine WC_cls F.k15 F.i15 init_plain rfl fun x dx hx => ?_
  refine WS_cons ?_
  repeat walk_at "go"
  refine ⟨rfl, ?_⟩
  simp only [Store.set_set]
  exact q x dx hx
theorem stm_draw {d : Nat} {σ : Store} {b : Addr} {i : Nat} {Q : Val → Store → Prop} (hd : 5 ≤ d) (hi : i < 4) (B : Box σ b)
    (q : ∀ σ' x dx fs S, σ x = none → σ' x = some (.inst (A 15) dx fs) → StmB S fs → StmL fs → S.Low → Box σ' b → KeepBut b σ σ' → Q (.ref x) σ') : WC c (d + 1) (A 27) [.ref b, .int (i : Nat)] σ Q := by
  obtain ⟨hT1, hG1⟩ := draw F 1
  obtain ⟨hT2, hG2⟩ := draw F 2
  obtain ⟨d', rfl⟩ : ∃ d', d = d' + 2 := ⟨d - 2, by lia⟩
  generalize hdd : d' + 2 = d at hd ⊢
  refine WC_def F.f27.toFunAt stm_plain rfl ?_
  refine WS_cons ?_
  repeat walk_at "go"
  subst hdd
  refine stm_new F fun x dx hx => ?_
  generalize hdd : d' + 2 = d at hd ⊢
  have hxb := B.ne hx
  have B1 : Box (σ.set x (.inst (A 15) dx (newF 3 ""))) b := B.new hx
  have K1 : KeepBut b σ (σ.set x (.inst (A 15) dx (newF 3 ""))) := (Keep.new hx).but
  repeat walk_at "go"
  refine WX_unpack ?_
  repeat walk_at "go"
  refine hG1 d _ b _ (by lia) B1 fun σ2 g hg B2 K2 => ?_
  have hx2 := K2 x _ hxb Store.set_same
  repeat walk_at "go"
  refine ⟨[g.val, .str "L"], .inl rfl, rfl, ?_⟩
  refine WAs_attr ?_
  repeat walk_at "go"
  refine WAs_attr ?_
  repeat walk_at "go"
  refine WAs_nil ?_
  have B3 := (B2.upd (c := .inst (A 15) dx (putF "subject" g.val (newF 3 ""))) hxb).upd (c := .inst (A 15) dx (putF "label" (.str "L") (putF "subject" g.val (newF 3 "")))) hxb
  have K3 := ((K1.trans K2).upd (c := .inst (A 15) dx (putF "subject" g.val (newF 3 ""))) hx).upd (c := .inst (A 15) dx (putF "label" (.str "L") (putF "subject" g.val (newF 3 "")))) hx
  have hc : i = 0 ∨ i = 1 ∨ i = 2 ∨ i = 3 := by lia
  rcases hc with rfl | rfl | rfl | rfl
  · repeat walk_at "go"
    refine hT2 d _ b _ (by lia) B3 fun σ4 t ht B4 K4 => ?_
    have hx4 := K4 x _ hxb Store.set_same
    repeat walk_at "go"
    exact q _ x dx _ (.ev t) hx Store.set_same ⟨by rfl, by rfl, by rfl, by rfl⟩ ⟨by rfl, by rfl, by rfl, Nat.le_of_ble_eq_true rfl⟩ (by simp only [Stm.Low]; lia) (B4.upd hxb) ((K3.trans K4).upd hx)
  · repeat walk_at "go"
    refine WX_unpack ?_
    repeat walk_at "go"
    refine hT2 d _ b _ (by lia) B3 fun σ4 t ht B4 K4 => ?_
    have hx4 := K4 x _ hxb Store.set_same
    repeat walk_at "go"
    refine ⟨[.bool true, t.val], .inl rfl, rfl, ?_⟩
    refine WAs_attr ?_
    repeat walk_at "go"
    refine WAs_attr ?_
    repeat walk_at "go"
    refine WAs_nil ?_
    repeat walk_at "go"
    exact q _ x dx _ (.asg g t) hx Store.set_same ⟨by rfl, by rfl, by rfl, by rfl⟩ ⟨by rfl, by rfl, by rfl, Nat.le_of_ble_eq_true rfl⟩ (by simp only [Stm.Low]; lia) ((B4.upd hxb).upd hxb) (((K3.trans K4).upd hx).upd hx)
  · repeat walk_at "go"
    refine hT2 d _ b _ (by lia) B3 fun σ4 t ht B4 K4 => ?_
    have hx4 := K4 x _ hxb Store.set_same
    repeat walk_at "go"
    exact q _ x dx _ (.mat g t) hx Store.set_same ⟨by rfl, by rfl, by rfl, by rfl⟩ ⟨by rfl, by rfl, by rfl, Nat.le_of_ble_eq_true rfl⟩ (by simp only [Stm.Low]; lia) (B4.upd hxb) ((K3.trans K4).upd hx)
  · repeat walk_at "go"
    refine WX_unpack ?_
    repeat walk_at "go"
    refine hT2 d _ b _ (by lia) B3 fun σ4 r hr B4 K4 => ?_
    have hx4 := K4 x _ hxb Store.set_same
    repeat walk_at "go"
    refine ⟨[.bool true, r.val], .inl rfl, rfl, ?_⟩
    refine WAs_attr ?_
    repeat walk_at "go"
    refine WAs_attr ?_
    repeat walk_at "go"
    refine WAs_nil ?_
    repeat walk_at "go"
    refine hT2 d _ b _ (by lia) ((B4.upd hxb).upd hxb) fun σ5 p hp B5 K5 => ?_
    have hx5 := K5 x _ hxb Store.set_same
    repeat walk_at "go"
    exact q _ x dx _ (.rep g p r) hx Store.set_same ⟨by rfl, by rfl, by rfl, by rfl⟩ ⟨by rfl, by rfl, by rfl, Nat.le_of_ble_eq_true rfl⟩ (by simp only [Stm.Low]; lia) (B5.upd hxb) (((((K3.trans K4).upd hx).upd hx).trans K5).upd hx)
end

local macro_rules | `(tactic| walk_at "go") => `(tactic| first
  | ((with_reducible show G1 _ _ _ (fun r => getAttr r _ true) (Val.ref _) _ _); refine G_attr (by walk_at "cell") (Facts.a15 (by assumption) _ (by decide)) (by first | assumption | rfl) ?_)
  | ((with_reducible show G2U _ _ _ (fun r x => setAttr r _ x) (Val.ref _) _ _ _); refine G_setAttr (by walk_at "cell") (Facts.a15 (by assumption) _ (by decide)) (Nat.le_of_ble_eq_true rfl) ?_))
theorem body_plain : PlainScope ["statement"] (scopeAt 9) := ⟨by decide +kernel, by decide +kernel, by decide +kernel, by decide +kernel, by decide +kernel⟩
noncomputable def so : Stm → List Ord
  | .ev t => vo t ++ [.drop]
  | .asg g r => (ng g ++ vo r) ++ [.assign]
  | .mat g p => (vg g ++ vo p) ++ [.mtch]
  | .rep g p r => ((((ng g ++ [.double, .value]) ++ vo p) ++ [.mtch]) ++ vo r) ++ [.replace]
section
variable {c : Cx} {A : Nat → Addr} (F : Facts c A)
include F
theorem body_spec (S : Stm) (hS : S.Low) {d : Nat} {σ : Store} {x dx : Addr} {fs : List (Str × Val)} {Q : Val → Store → Prop} (hd : 28 ≤ d) (hx : σ x = some (.inst (A 15) dx fs)) (hB : StmB S fs) (hz : (so S).length ≤ 1000000)
    (q : ∀ σ' l, Keep σ σ' → σ l = none → IsL σ' l ((so S).map Ord.val) → Q (.ref l) σ') : WC c (d + 1) (A 9) [.ref x] σ Q := by
  have hz := Nat.le_trans hz mil
  obtain ⟨f1, f2, f3, f4⟩ := hB
  cases S with
  | ev t =>
    simp only [Stm.Low] at hS
    simp only [so] at hz q
    have G1 := gives_t F t
    obtain ⟨vs, hv⟩ := tr_tup t
    simp only [Stm.sub, Stm.pat, Stm.isr, Stm.repl] at f1 f2 f3 f4
    rw [hv] at G1 f1
    refine WC_def F.f9.toFunAt body_plain rfl ?_
    refine WS_cons ?_
    repeat walk_at "go"
    refine G1 d _ _ (by lia) (by walk_at "size") fun σ1 l1 k1 n1 ⟨o1, e1⟩ => ?_
    repeat walk_at "go"
    refine q _ _ (by walk_at "keep") (by walk_at "knone") (IsL.set ?_)
    walk_at "ords"
  | asg g r =>
    simp only [Stm.Low] at hS
    simp only [so] at hz q
    have G1 := (gives_g F g).2
    have G2 := gives_t F r
    obtain ⟨vs, hv⟩ := go_tup g
    obtain ⟨us, hu⟩ := tr_tup r
    simp only [Stm.sub, Stm.pat, Stm.isr, Stm.repl] at f1 f2 f3 f4
    rw [hv] at G1 f1
    rw [hu] at G2 f4
    refine WC_def F.f9.toFunAt body_plain rfl ?_
    refine WS_cons ?_
    repeat walk_at "go"
    refine G1 d _ _ (by lia) (by walk_at "size") fun σ1 l1 k1 n1 ⟨o1, e1⟩ => ?_
    repeat walk_at "go"
    refine G2 d _ _ (by lia) (by walk_at "size") fun σ2 l2 k2 n2 ⟨o2, e2⟩ => ?_
    repeat walk_at "go"
    refine q _ _ (by walk_at "keep") (by walk_at "knone") (IsL.set ?_)
    walk_at "ords"
  | mat g p =>
    simp only [Stm.Low] at hS
    simp only [so] at hz q
    have G1 := (gives_g F g).1
    have G2 := gives_t F p
    obtain ⟨vs, hv⟩ := go_tup g
    obtain ⟨us, hu⟩ := tr_tup p
    simp only [Stm.sub, Stm.pat, Stm.isr, Stm.repl] at f1 f2 f3 f4
    rw [hv] at G1 f1
    rw [hu] at G2 f2
    refine WC_def F.f9.toFunAt body_plain rfl ?_
    refine WS_cons ?_
    repeat walk_at "go"
    refine G1 d _ _ (by lia) (by walk_at "size") fun σ1 l1 k1 n1 ⟨o1, e1⟩ => ?_
    repeat walk_at "go"
    refine G2 d _ _ (by lia) (by walk_at "size") fun σ2 l2 k2 n2 ⟨o2, e2⟩ => ?_
    repeat walk_at "go"
    refine q _ _ (by walk_at "keep") (by walk_at "knone") (IsL.set ?_)
    walk_at "ords"
  | rep g p r =>
    simp only [Stm.Low] at hS
    simp only [so] at hz q
    have G1 := (gives_g F g).2
    have G2 := gives_t F p
    have G3 := gives_t F r
    obtain ⟨vs, hv⟩ := go_tup g
    obtain ⟨us, hu⟩ := tr_tup p
    obtain ⟨ws, hw⟩ := tr_tup r
    simp only [Stm.sub, Stm.pat, Stm.isr, Stm.repl] at f1 f2 f3 f4
    rw [hv] at G1 f1
    rw [hu] at G2 f2
    rw [hw] at G3 f4
    refine WC_def F.f9.toFunAt body_plain rfl ?_
    refine WS_cons ?_
    repeat walk_at "go"
    refine G1 d _ _ (by lia) (by walk_at "size") fun σ1 l1 k1 n1 ⟨o1, e1⟩ => ?_
    repeat walk_at "go"
    refine G2 d _ _ (by lia) (by walk_at "size") fun σ2 l2 k2 n2 ⟨o2, e2⟩ => ?_
    repeat walk_at "go"
    refine G3 d _ _ (by lia) (by walk_at "size") fun σ3 l3 k3 n3 ⟨o3, e3⟩ => ?_
    repeat walk_at "go"
    refine q _ _ (by walk_at "keep") (by walk_at "knone") (IsL.set ?_)
    walk_at "ords"
end

local macro_rules | `(tactic| walk_at "go") => `(tactic| first
  | ((with_reducible show G1 _ _ _ (fun r => getAttr r _ true) (Val.ref _) _ _); refine G_attr (by walk_at "cell") (Facts.a15 (by assumption) _ (by decide)) (by first | assumption | rfl) ?_)
  | ((with_reducible show G2U _ _ _ (fun r x => setAttr r _ x) (Val.ref _) _ _ _); refine G_setAttr (by walk_at "cell") (Facts.a15 (by assumption) _ (by decide)) (Nat.le_of_ble_eq_true rfl) ?_))
theorem evs_plain : PlainScope ["statement", "notes"] (scopeAt 28) := ⟨by decide +kernel, by decide +kernel, by decide +kernel, by decide +kernel, by decide +kernel⟩
noncomputable def dbl : List Str → List Str
  | [a] => [a, a]
  | _ => []
noncomputable def vtop : List Str → List Note
  | [_, a] => [.value a]
  | _ => []
noncomputable def m3 : List Str → List Str
  | [a, _, _] => [a]
  | _ => []
noncomputable def mn : List Str → List Note
  | [_, b, c] => [.done "MATCH" [b, c]]
  | _ => []
noncomputable def sR : Stm → Rs
  | .ev t => (ev t).rs.op (fun _ => []) (fun _ => [])
  | .asg g r => ((en true g).rs.app (ev r).rs).op (fun _ => []) (fun l => [.done "ASSIGN" l])
  | .mat g p => ((egOf (en false g) g).rs.app (ev p).rs).op (fun _ => []) (fun l => [.done "MATCH" l])
  | .rep g p r => (((((en true g).rs.op dbl (fun _ => [])).op (fun l => l) vtop).app (ev p).rs).op m3 mn |>.app (ev r).rs).op (fun _ => []) (fun l => [.done "REPLACE" l])
theorem op_n {a : Rv} {f : List Str → List Str} {w : List Str → List Note} (e : a.2 = none) : a.rs.op f w = (a.1, none) := by simp only [Rv.rs, Rs.op, e, Option.map]
theorem op_s {a : Rv} {f : List Str → List Str} {w : List Str → List Note} {x : Str} (e : a.2 = some x) : a.rs.op f w = (a.1 ++ w [x], some (f [x])) := by simp only [Rv.rs, Rs.op, e, Option.map]
theorem app_n {a : Rv} {b : Rs} (e : a.2 = none) : a.rs.app b = (a.1, none) := by simp only [Rv.rs, Rs.app, e, Option.map]
theorem app_sn {a b : Rv} {x : Str} (e : a.2 = some x) (e' : b.2 = none) : a.rs.app b.rs = (a.1 ++ b.1, none) := by simp only [Rv.rs, Rs.app, e, e', Option.map]
theorem app_ss {a b : Rv} {x y : Str} (e : a.2 = some x) (e' : b.2 = some y) : a.rs.app b.rs = (a.1 ++ b.1, some [x, y]) := by simp only [Rv.rs, Rs.app, e, e', Option.map]; rfl
theorem rs_s {a : Rv} {x : Str} (e : a.2 = some x) : a.rs = (a.1, some [x]) := by simp only [Rv.rs, e, Option.map]
theorem rs_n {a : Rv} (e : a.2 = none) : a.rs = (a.1, none) := by simp only [Rv.rs, e, Option.map]
theorem sR_ev0 {t : Tr} (e : (ev t).2 = none) : sR (.ev t) = ((ev t).1, none) := op_n e
theorem sR_ev1 {t : Tr} {x : Str} (e : (ev t).2 = some x) : sR (.ev t) = ((ev t).1, some []) := (op_s e).trans (by rw [List.append_nil])
theorem sR_asg0 {g : Go} {r : Tr} (e : (en true g).2 = none) : sR (.asg g r) = ((en true g).1, none) := by rw [sR, app_n e]; rfl
theorem sR_asg1 {g : Go} {r : Tr} {x : Str} (e : (en true g).2 = some x) (e' : (ev r).2 = none) : sR (.asg g r) = ((en true g).1 ++ (ev r).1, none) := by rw [sR, app_sn e e']; rfl
theorem sR_asg2 {g : Go} {r : Tr} {x y : Str} (e : (en true g).2 = some x) (e' : (ev r).2 = some y) : sR (.asg g r) = ((en true g).1 ++ (ev r).1 ++ [.done "ASSIGN" [x, y]], some []) := by rw [sR, app_ss e e']; rfl
theorem sR_mat0 {g : Go} {r : Tr} (e : (egOf (en false g) g).2 = none) : sR (.mat g r) = ((egOf (en false g) g).1, none) := by rw [sR, app_n e]; rfl
theorem sR_mat1 {g : Go} {r : Tr} {x : Str} (e : (egOf (en false g) g).2 = some x) (e' : (ev r).2 = none) : sR (.mat g r) = ((egOf (en false g) g).1 ++ (ev r).1, none) := by rw [sR, app_sn e e']; rfl
theorem sR_mat2 {g : Go} {r : Tr} {x y : Str} (e : (egOf (en false g) g).2 = some x) (e' : (ev r).2 = some y) : sR (.mat g r) = ((egOf (en false g) g).1 ++ (ev r).1 ++ [.done "MATCH" [x, y]], some []) := by rw [sR, app_ss e e']; rfl
theorem sR_rep0 {g : Go} {p r : Tr} (e : (en true g).2 = none) : sR (.rep g p r) = ((en true g).1, none) := by rw [sR, op_n e]; rfl
theorem sR_rep1 {g : Go} {p r : Tr} {x : Str} (e : (en true g).2 = some x) (e' : (ev p).2 = none) : sR (.rep g p r) = ((en true g).1 ++ [] ++ [.value x] ++ (ev p).1, none) := by rw [sR, op_s e, rs_n e']; rfl
theorem sR_rep2 {g : Go} {p r : Tr} {x y : Str} (e : (en true g).2 = some x) (e' : (ev p).2 = some y) (e2 : (ev r).2 = none) : sR (.rep g p r) = ((en true g).1 ++ [] ++ [.value x] ++ (ev p).1 ++ [.done "MATCH" [x, y]] ++ (ev r).1, none) := by rw [sR, op_s e, rs_s e', rs_n e2]; rfl
theorem sR_rep3 {g : Go} {p r : Tr} {x y z : Str} (e : (en true g).2 = some x) (e' : (ev p).2 = some y) (e2 : (ev r).2 = some z) : sR (.rep g p r) = ((en true g).1 ++ [] ++ [.value x] ++ (ev p).1 ++ [.done "MATCH" [x, y]] ++ (ev r).1 ++ [.done "REPLACE" [x, z]], some []) := by rw [sR, op_s e, rs_s e', rs_s e2]; rfl
section
variable {c : Cx} {A : Nat → Addr} (F : Facts c A)
include F
theorem ev_spec (S : Stm) (hS : S.Low) {d : Nat} {σ : Store} {x dx n : Addr} {fs : List (Str × Val)} {M : List Addr} {ns : List Note} {Q : Val → Store → Prop} (hd : 28 ≤ d) (hx : σ x = some (.inst (A 15) dx fs)) (hB : StmB S fs) (hM : n ∈ M) (hL : Live M σ) (N : NotesAt M σ n ns) (hz : ns.length ≤ 100000)
    (q : ∀ σ', KeepBut n σ σ' → NotesAt M σ' n (ns ++ (sR S).1) → Q (.bool (sR S).2.isSome) σ') : WC c (d + 1) (A 28) [.ref x, .ref n] σ Q := by
  obtain ⟨f1, f2, f3, f4⟩ := hB
  have hxn : x ≠ n := fun e => by
    obtain ⟨vs, o, e', _⟩ := N
    rw [← e, hx] at e'; cases e'
  cases S with
  | ev t =>
    simp only [Stm.Low] at hS
    have G1 := rds_t F t (by lia)
    have w1 := wt_small hS
    obtain ⟨vs, hv⟩ := tr_tup t
    simp only [Stm.sub, Stm.pat, Stm.isr, Stm.repl] at f1 f2 f3 f4
    rw [hv] at G1 f1
    refine WC_def F.f28.toFunAt evs_plain rfl ?_
    refine WS_cons ?_
    refine WX_swap2 ?_
    repeat walk_at "go"
    refine ⟨_, _, rfl, ?_⟩
    repeat walk_at "go"
    refine G1.use (by lia) hM hL N (by lia) (fun σ1 K1 N1 e1 => ?_) (fun σ1 s1 K1 N1 e1 => ?_)
    · repeat walk_at "go"
      rw [sR_ev0 e1] at q
      exact q _ K1 N1
    · repeat walk_at "go"
      rw [sR_ev1 e1] at q
      exact q _ K1 N1
  | asg g r =>
    simp only [Stm.Low] at hS
    have G1 := rds_n F g true (by lia)
    have G2 := rds_t F r (by lia)
    have w1 := wg_small hS.1
    have w2 := wt_small hS.2
    have fg := en_fit true g
    have fr := ev_fit r
    obtain ⟨vs, hv⟩ := go_tup g
    obtain ⟨us, hu⟩ := tr_tup r
    simp only [Stm.sub, Stm.pat, Stm.isr, Stm.repl] at f1 f2 f3 f4
    rw [hv] at G1 f1
    rw [hu] at G2 f4
    refine WC_def F.f28.toFunAt evs_plain rfl ?_
    refine WS_cons ?_
    refine WX_swap2 ?_
    repeat walk_at "go"
    refine ⟨_, _, rfl, ?_⟩
    repeat walk_at "go"
    refine G1.use (by lia) hM hL N (by lia) (fun σ1 K1 N1 e1 => ?_) (fun σ1 s1 K1 N1 e1 => ?_)
    · repeat walk_at "go"
      rw [sR_asg0 e1] at q
      exact q _ K1 N1
    · have hx1 := K1 _ _ hxn hx
      repeat walk_at "go"
      refine G2.use (by lia) hM (hL.step K1 N1) N1 (by have := fg.len; rw [List.length_append]; lia) (fun σ2 K2 N2 e2 => ?_) (fun σ2 s2 K2 N2 e2 => ?_)
      · repeat walk_at "go"
        rw [sR_asg1 e1 e2] at q
        rw [List.append_assoc] at N2
        exact q _ (K1.trans K2) N2
      · have hL2 := (hL.step K1 N1).step K2 N2
        obtain ⟨ws, on, hn, hw⟩ := N2
        have hwl := hw.length
        repeat walk_at "go"
        refine WE_methL rfl hn PySem.F.slot_list_append ty_append ?_
        repeat walk_at "go"
        rename_i l ol hl
        have hlM := hL2.off hl
        refine GL_append (Store.old hl hn) (fun o' => ?_) (by have := fg.len; have := fr.len; simp only [List.length_append] at hwl; exact Nat.le_trans (by lia : ws.length ≤ 1000000) mil)
        repeat walk_at "go"
        rw [sR_asg2 e1 e2] at q
        refine q _ (((K1.trans K2).trans (Keep.new hl).but).trans KeepBut.set) ?_
        rw [← List.append_assoc, ← List.append_assoc]
        exact NotesAt.put hM (hw.out (Keep.new hl).out) (.done hlM ⟨ol, Store.set_same⟩)
  | mat g p =>
    simp only [Stm.Low] at hS
    have G1 := rds_g F g (by lia)
    have G2 := rds_t F p (by lia)
    have w1 := wg_small hS.1
    have w2 := wt_small hS.2
    have fg := eg_fit (en_fit false g)
    have fr := ev_fit p
    obtain ⟨vs, hv⟩ := go_tup g
    obtain ⟨us, hu⟩ := tr_tup p
    simp only [Stm.sub, Stm.pat, Stm.isr, Stm.repl] at f1 f2 f3 f4
    rw [hv] at G1 f1
    rw [hu] at G2 f2
    refine WC_def F.f28.toFunAt evs_plain rfl ?_
    refine WS_cons ?_
    refine WX_swap2 ?_
    repeat walk_at "go"
    refine ⟨_, _, rfl, ?_⟩
    repeat walk_at "go"
    refine G1.use (by lia) hM hL N (by lia) (fun σ1 K1 N1 e1 => ?_) (fun σ1 s1 K1 N1 e1 => ?_)
    · repeat walk_at "go"
      rw [sR_mat0 e1] at q
      exact q _ K1 N1
    · have hx1 := K1 _ _ hxn hx
      repeat walk_at "go"
      refine G2.use (by lia) hM (hL.step K1 N1) N1 (by have := fg.len; rw [List.length_append]; lia) (fun σ2 K2 N2 e2 => ?_) (fun σ2 s2 K2 N2 e2 => ?_)
      · repeat walk_at "go"
        rw [sR_mat1 e1 e2] at q
        rw [List.append_assoc] at N2
        exact q _ (K1.trans K2) N2
      · have hL2 := (hL.step K1 N1).step K2 N2
        obtain ⟨ws, on, hn, hw⟩ := N2
        have hwl := hw.length
        repeat walk_at "go"
        refine WE_methL rfl hn PySem.F.slot_list_append ty_append ?_
        repeat walk_at "go"
        rename_i l ol hl
        have hlM := hL2.off hl
        refine GL_append (Store.old hl hn) (fun o' => ?_) (by have := fg.len; have := fr.len; simp only [List.length_append] at hwl; exact Nat.le_trans (by lia : ws.length ≤ 1000000) mil)
        repeat walk_at "go"
        rw [sR_mat2 e1 e2] at q
        refine q _ (((K1.trans K2).trans (Keep.new hl).but).trans KeepBut.set) ?_
        rw [← List.append_assoc, ← List.append_assoc]
        exact NotesAt.put hM (hw.out (Keep.new hl).out) (.done hlM ⟨ol, Store.set_same⟩)
  | rep g p r =>
    simp only [Stm.Low] at hS
    have G1 := rds_n F g true (by lia)
    have G2 := rds_t F p (by lia)
    have G3 := rds_t F r (by lia)
    have w1 := wg_small hS.1
    have w2 := wt_small hS.2.1
    have w3 := wt_small hS.2.2
    have fg := en_fit true g
    have fp := ev_fit p
    have fr := ev_fit r
    have fgl := fg.len
    have fpl := fp.len
    have frl := fr.len
    obtain ⟨vs, hv⟩ := go_tup g
    obtain ⟨us, hu⟩ := tr_tup p
    obtain ⟨zs, hw0⟩ := tr_tup r
    simp only [Stm.sub, Stm.pat, Stm.isr, Stm.repl] at f1 f2 f3 f4
    rw [hv] at G1 f1
    rw [hu] at G2 f2
    rw [hw0] at G3 f4
    refine WC_def F.f28.toFunAt evs_plain rfl ?_
    refine WS_cons ?_
    refine WX_swap2 ?_
    repeat walk_at "go"
    refine ⟨_, _, rfl, ?_⟩
    repeat walk_at "go"
    refine G1.use (by lia) hM hL N (by lia) (fun σ1 K1 N1 e1 => ?_) (fun σ1 s1 K1 N1 e1 => ?_)
    · repeat walk_at "go"
      rw [sR_rep0 e1] at q
      exact q _ K1 N1
    · have hL1 := hL.step K1 N1
      obtain ⟨ws, on, hn, hw⟩ := N1
      have hwl := hw.length
      simp only [List.length_append] at hwl
      repeat walk_at "go"
      refine WE_methL rfl hn PySem.F.slot_list_append ty_append ?_
      repeat walk_at "go"
      refine GL_append hn (fun o' => ?_) (Nat.le_trans (by lia : ws.length ≤ 1000000) mil)
      have N1' := NotesAt.put (o' := o') hM hw (.value s1)
      have K1' : KeepBut n σ (σ1.set n (.list (ws ++ [.tup [.str "value", .str s1]]) o')) := K1.trans KeepBut.set
      have L1' := hL.step K1' N1'
      have hx1 := K1' _ _ hxn hx
      repeat walk_at "go"
      refine G2.use (by lia) hM L1' N1' (by simp only [List.length_append, List.length_cons, List.length_nil]; lia) (fun σ2 K2 N2 e2 => ?_) (fun σ2 s2 K2 N2 e2 => ?_)
      · repeat walk_at "go"
        rw [sR_rep1 e1 e2, List.append_nil, ← List.append_assoc, ← List.append_assoc] at q
        exact q _ (K1'.trans K2) N2
      · have hL2 := L1'.step K2 N2
        have hx2 := (K1'.trans K2) _ _ hxn hx
        obtain ⟨ws2, on2, hn2, hw2⟩ := N2
        have hwl2 := hw2.length
        simp only [List.length_append, List.length_cons, List.length_nil] at hwl2
        repeat walk_at "go"
        refine WE_methL rfl hn2 PySem.F.slot_list_append ty_append ?_
        repeat walk_at "go"
        rename_i l ol hl
        have hlM := hL2.off hl
        refine GL_append (Store.old hl hn2) (fun o2 => ?_) (Nat.le_trans (by lia : ws2.length ≤ 1000000) mil)
        have N2' : NotesAt M ((σ2.set l (.list [.str s1, .str s2] ol)).set n (.list (ws2 ++ [.tup [.str "MATCH", .ref l]]) o2)) n (ns ++ (en true g).1 ++ [.value s1] ++ (ev p).1 ++ [.done "MATCH" [s1, s2]]) := NotesAt.put (o' := o2) hM (hw2.out (Keep.new hl).out) (.done (w := "MATCH") (args := [s1, s2]) hlM ⟨ol, Store.set_same⟩)
        generalize hσ3 : ((σ2.set l (.list [.str s1, .str s2] ol)).set n (.list (ws2 ++ [.tup [.str "MATCH", .ref l]]) o2)) = σ3 at N2'
        have K2' : KeepBut n σ σ3 := by rw [← hσ3]; exact ((K1'.trans K2).trans (Keep.new hl).but).trans KeepBut.set
        have L2' := hL.step K2' N2'
        have hx3 := K2' _ _ hxn hx
        repeat walk_at "go"
        refine G3.use (by lia) hM L2' N2' (by simp only [List.length_append, List.length_cons, List.length_nil]; lia) (fun σ4 K4 N4 e4 => ?_) (fun σ4 s4 K4 N4 e4 => ?_)
        · repeat walk_at "go"
          rw [sR_rep2 e1 e2 e4, List.append_nil, ← List.append_assoc, ← List.append_assoc, ← List.append_assoc, ← List.append_assoc] at q
          exact q _ (K2'.trans K4) N4
        · have hL4 := L2'.step K4 N4
          obtain ⟨ws4, on4, hn4, hw4⟩ := N4
          have hwl4 := hw4.length
          simp only [List.length_append, List.length_cons, List.length_nil] at hwl4
          repeat walk_at "go"
          refine WE_methL rfl hn4 PySem.F.slot_list_append ty_append ?_
          repeat walk_at "go"
          rename_i l5 ol5 hl5
          have hlM5 := hL4.off hl5
          refine GL_append (Store.old hl5 hn4) (fun o5 => ?_) (Nat.le_trans (by lia : ws4.length ≤ 1000000) mil)
          repeat walk_at "go"
          have N5 := NotesAt.put (o' := o5) hM (hw4.out (Keep.new hl5).out) (.done (w := "REPLACE") (args := [s1, s4]) hlM5 ⟨ol5, Store.set_same⟩)
          rw [sR_rep3 e1 e2 e4, List.append_nil, ← List.append_assoc, ← List.append_assoc, ← List.append_assoc, ← List.append_assoc, ← List.append_assoc] at q
          exact q _ (((K2'.trans K4).trans (Keep.new hl5).but).trans KeepBut.set) N5
end

noncomputable def ws : Stm → Nat
  | .ev t => wt t + 1
  | .asg g r => wg g + wt r + 1
  | .mat g p => wg g + wt p + 2
  | .rep g p r => wg g + wt p + wt r + 4
theorem ws_small {S : Stm} (h : S.Low) : ws S ≤ 62000 := by
  cases S with
  | ev t => have := wt_small h; simp only [ws]; lia
  | asg g r => have := wg_small h.1; have := wt_small h.2; simp only [ws]; lia
  | mat g p => have := wg_small h.1; have := wt_small h.2; simp only [ws]; lia
  | rep g p r => have := wg_small h.1; have := wt_small h.2.1; have := wt_small h.2.2; simp only [ws]; lia
theorem seg_s (S : Stm) (h : S.Low) : SegN (so S) (ws S) 0 (sR S) := by
  cases S with
  | ev t =>
    exact (seg_t t h).op (o := .drop) (m := 0) rfl (by lia) (fun _ => Nat.zero_le _) fun s l _ hl => by
      obtain ⟨x, rfl⟩ := len1 hl
      rw [List.append_nil]
      exact ⟨.drop s x, rfl, fun y hy => by cases hy⟩
  | asg g r =>
    exact ((seg_g g h.1).2.app (seg_t r h.2)).op (o := .assign) (m := 0) rfl (by lia) (fun _ => Nat.le_refl _) fun s l _ hl => by
      obtain ⟨x, y, rfl⟩ := len2 hl
      rw [List.append_nil]
      exact ⟨.assign s x y, rfl, fun y hy => by cases hy⟩
  | mat g p =>
    refine SegN.up (W := wg g + 1 + wt p + 1) ?_ (by simp only [ws]; lia)
    exact ((seg_g g h.1).1.app (seg_t p h.2)).op (o := .mtch) (m := 0) rfl (by lia) (fun _ => Nat.le_refl _) fun s l _ hl => by
      obtain ⟨x, y, rfl⟩ := len2 hl
      rw [List.append_nil]
      exact ⟨.mtch s x y, rfl, fun y hy => by cases hy⟩
  | rep g p r =>
    have A := (seg_g g h.1).2
    have hA := en_fit true g
    have w1 := wg_small h.1
    have A1 := A.op (o := .double) (f := dbl) (new := fun _ => []) (m := 2) rfl (by lia) (fun _ => Nat.zero_le _) fun s l e hl => by
      have ho := (A.out l e).2
      obtain ⟨x, rfl⟩ := len1 hl
      refine ⟨by simpa [dbl] using DoM.double s x, rfl, fun y hy => ?_⟩
      simp only [dbl, List.mem_cons, List.not_mem_nil, or_false, or_self] at hy
      rw [hy]; exact ho x (by simp)
    have A2 := A1.op (o := .value) (f := fun l => l) (new := vtop) (m := 2) rfl (by lia) (fun l => by
      match l with
      | [] => exact Nat.zero_le _
      | [_] => exact Nat.zero_le _
      | [_, _] => exact Nat.le_refl _
      | _ :: _ :: _ :: _ => exact Nat.zero_le _) fun s l e hl => by
      have ho := (A1.out l e).2
      obtain ⟨x, y, rfl⟩ := len2 hl
      refine ⟨?_, rfl, ho⟩
      have := DoM.value (s ++ [x]) y
      simpa [vtop] using this
    have A3 := (A2.app (seg_t p h.2.1)).op (o := .mtch) (f := m3) (new := mn) (m := 1) rfl (by lia) (fun l => by
      match l with
      | [] => exact Nat.zero_le _
      | [_] => exact Nat.zero_le _
      | [_, _] => exact Nat.zero_le _
      | [_, _, _] => exact Nat.le_refl _
      | _ :: _ :: _ :: _ :: _ => exact Nat.zero_le _) fun s l e hl => by
      have ho := ((A2.app (seg_t p h.2.1)).out l e).2
      obtain ⟨x, y, z, rfl⟩ := len3 hl
      refine ⟨?_, rfl, fun w hw => ?_⟩
      · have := DoM.mtch (s ++ [x]) y z
        simpa [m3, mn] using this
      · simp only [m3, List.mem_singleton] at hw
        rw [hw]; exact ho x (by simp)
    have A4 := (A3.app (seg_t r h.2.2)).op (o := .replace) (f := fun _ => []) (new := fun l => [.done "REPLACE" l]) (m := 0) rfl (by lia) (fun _ => Nat.le_refl _) fun s l _ hl => by
      obtain ⟨x, y, rfl⟩ := len2 hl
      rw [List.append_nil]
      exact ⟨.replace s x y, rfl, fun y hy => by cases hy⟩
    have e : so (.rep g p r) = ((((ng g ++ [.double]) ++ [.value]) ++ vo p) ++ [.mtch] ++ vo r) ++ [.replace] := by simp [so]
    rw [e]
    exact A4.up (by simp only [ws]; lia)

local macro_rules | `(tactic| walk_at "go") => `(tactic| first
  | ((with_reducible show G1 _ _ _ (fun r => getAttr r _ true) (Val.ref _) _ _); refine G_attr (by walk_at "cell") (Facts.a15 (by assumption) _ (by decide)) (by first | assumption | rfl) ?_)
  | ((with_reducible show G1 _ _ _ (fun r => getAttr r _ true) (Val.ref _) _ _); refine G_attr (by walk_at "cell") (Facts.a3 (by assumption) _ (by decide)) (by first | assumption | rfl) ?_)
  | ((with_reducible show G2U _ _ _ (fun r x => setAttr r _ x) (Val.ref _) _ _ _); refine G_setAttr (by walk_at "cell") (Facts.a3 (by assumption) _ (by decide)) (Nat.le_of_ble_eq_true rfl) ?_))
theorem goto_plain : PlainScope ["go"] (scopeAt 10) := ⟨by decide +kernel, by decide +kernel, by decide +kernel, by decide +kernel, by decide +kernel⟩
theorem comp_plain : PlainScope ["statement"] (scopeAt 11) := ⟨by decide +kernel, by decide +kernel, by decide +kernel, by decide +kernel, by decide +kernel⟩
theorem cini_plain : PlainScope ["self", "label", "body", "success", "failure", "line"] (scopeI 3) := ⟨by decide +kernel, by decide +kernel, by decide +kernel, by decide +kernel, by decide +kernel⟩
noncomputable def gotoV (x : Str) : Val := .tup [.str "goto", .tup [.str "name", .str x]]
noncomputable def labV (x : Str) : Val := .tup [.str "LABEL", .str x]
section
variable {c : Cx} {A : Nat → Addr} (F : Facts c A)
include F
theorem v_any (x : Str) {d : Nat} {σ : Store} {Q : Val → Store → Prop} (q : ∀ σ' l, Keep σ σ' → σ l = none → ∀ o, σ' l = some (.list [.tup [.str "VAR", .str x]] o) → Q (.ref l) σ') : WC c (d + 1) (A 4) [.tup [.str "name", .str x]] σ Q := by
  refine WC_def F.f4.toFunAt vo_plain rfl ?_
  refine WS_cons ?_
  repeat walk_at "go"
  refine q _ _ (by walk_at "keep") (by walk_at "knone") _ Store.set_same
theorem goto_none {d : Nat} {σ : Store} {Q : Val → Store → Prop} (q : ∀ σ' l, Keep σ σ' → σ l = none → ∀ o, σ' l = some (.list [] o) → Q (.ref l) σ') : WC c (d + 1) (A 10) [.none] σ Q := by
  refine WC_def F.f10.toFunAt goto_plain rfl ?_
  refine WS_cons ?_
  repeat walk_at "go"
  refine q _ _ (by walk_at "keep") (by walk_at "knone") _ Store.set_same
theorem goto_lab (x : Str) {d : Nat} {σ : Store} {Q : Val → Store → Prop} (q : ∀ σ' l, Keep σ σ' → σ l = none → ∀ o, σ' l = some (.list [labV x] o) → Q (.ref l) σ') : WC c (d + 1) (A 10) [gotoV x] σ Q := by
  unfold gotoV
  refine WC_def F.f10.toFunAt goto_plain rfl ?_
  refine WS_cons ?_
  repeat walk_at "go"
  refine WX_unpack ?_
  repeat walk_at "go"
  refine ⟨_, .inl rfl, rfl, WAs_name (WAs_name (WAs_nil ?_))⟩
  repeat walk_at "go"
  refine q _ _ (by walk_at "keep") (by walk_at "knone") _ Store.set_same
theorem goto_ind (x : Str) {d : Nat} {σ : Store} {Q : Val → Store → Prop} (q : ∀ σ' l, Keep σ σ' → σ l = none → ∀ o, σ' l = some (.list [.tup [.str "VAR", .str x], .tup [.str "TO"]] o) → Q (.ref l) σ') : WC c (d + 1 + 1) (A 10) [.tup [.str "goto", .tup [.str "unary", .str "$", .tup [.str "name", .str x]]]] σ Q := by
  refine WC_def F.f10.toFunAt goto_plain rfl ?_
  refine WS_cons ?_
  repeat walk_at "go"
  refine WX_unpack ?_
  repeat walk_at "go"
  refine ⟨_, .inl rfl, rfl, WAs_name (WAs_name (WAs_nil ?_))⟩
  repeat walk_at "go"
  refine v_any F x fun σ1 l1 k1 n1 o1 e1 => ?_
  repeat walk_at "go"
  refine q _ _ (by walk_at "keep") (by walk_at "knone") _ Store.set_same
theorem goto_dir (x : Str) {d : Nat} {σ : Store} {Q : Val → Store → Prop} (q : ∀ σ' l, Keep σ σ' → σ l = none → ∀ o, σ' l = some (.list [.tup [.str "VAR", .str x], .tup [.str "TO CODE"]] o) → Q (.ref l) σ') : WC c (d + 1 + 1) (A 10) [.tup [.str "direct", .tup [.str "name", .str x]]] σ Q := by
  refine WC_def F.f10.toFunAt goto_plain rfl ?_
  refine WS_cons ?_
  repeat walk_at "go"
  refine WX_unpack ?_
  repeat walk_at "go"
  refine ⟨_, .inl rfl, rfl, WAs_name (WAs_name (WAs_nil ?_))⟩
  repeat walk_at "go"
  refine v_any F x fun σ1 l1 k1 n1 o1 e1 => ?_
  repeat walk_at "go"
  refine q _ _ (by walk_at "keep") (by walk_at "knone") _ Store.set_same
theorem cmp_new {lab body su fa ln : Val} {d : Nat} {σ : Store} {Q : Val → Store → Prop} (q : ∀ x dx, σ x = none → Q (.ref x) (σ.set x (.inst (A 3) dx [("label", lab), ("body", body), ("success", su), ("failure", fa), ("line", ln)]))) : WC c (d + 2) (A 3) [lab, body, su, fa, ln] σ Q := by
  refine WC_cls F.k3 F.i3 cini_plain rfl fun x dx hx => ?_
  refine WS_cons ?_
  repeat walk_at "go"
  refine ⟨rfl, ?_⟩
  simp only [Store.set_set]
  exact q x dx hx
theorem body_c (S : Stm) (hS : S.Low) {d : Nat} {σ : Store} {x dx : Addr} {fs : List (Str × Val)} {Q : Val → Store → Prop} (hd : 28 ≤ d) (hx : σ x = some (.inst (A 15) dx fs)) (hB : StmB S fs) (hz : (so S).length ≤ 1000000)
    (q : ∀ σ' l, Keep σ σ' → σ l = none → ∀ o, σ' l = some (.list ((so S).map Ord.val) o) → Q (.ref l) σ') : WC c (d + 1) (A 9) [.ref x] σ Q :=
  body_spec F S hS hd hx hB hz fun σ' l k n h => h.elim fun o e => q σ' l k n o e
theorem cmpA (S : Stm) (hS : S.Low) (x0 : Str) {d : Nat} {σ : Store} {x dx : Addr} {fs : List (Str × Val)} {Q : Val → Store → Prop} (hd : 30 ≤ d) (hx : σ x = some (.inst (A 15) dx fs)) (hB : StmB S fs) (f1 : fs.lookup ("label" : Str) = some (.str "L")) (f2 : fs.lookup ("go_always" : Str) = some .none) (f3 : fs.lookup ("go_success" : Str) = some (gotoV x0)) (f4 : fs.lookup ("go_failure" : Str) = some .none) (f5 : fs.lookup ("line" : Str) = some (.int 3)) (hz : (so S).length ≤ 1000000)
    (q : ∀ σ' m, Keep σ σ' → ∀ dm fm l1 l2 l3 o1 o2 o3, σ' m = some (.inst (A 3) dm fm) → fm.lookup ("success" : Str) = some (.ref l1) → fm.lookup ("failure" : Str) = some (.ref l2) → fm.lookup ("label" : Str) = some (.str "L") → fm.lookup ("body" : Str) = some (.ref l3) → σ' l1 = some (.list [labV x0] o1) → σ' l2 = some (.list [] o2) → σ' l3 = some (.list ((so S).map Ord.val) o3) → Q (.ref m) σ') : WC c (d + 1) (A 11) [.ref x] σ Q := by
  obtain ⟨d', rfl⟩ : ∃ d', d = d' + 1 + 1 := ⟨d - 2, by lia⟩
  refine WC_def F.f11.toFunAt comp_plain rfl ?_
  refine WS_cons ?_
  repeat walk_at "go"
  refine goto_none F fun σ1 l1 k1 n1 o1 e1 => ?_
  repeat walk_at "go"
  refine goto_lab F x0 fun σ2 l2 k2 n2 o2 e2 => ?_
  repeat walk_at "go"
  refine goto_none F fun σ3 l3 k3 n3 o3 e3 => ?_
  repeat walk_at "go"
  refine body_c F S hS (by lia) (((k1.trans k2).trans k3) _ _ hx) hB hz fun σ4 l4 k4 n4 o4 e4 => ?_
  repeat walk_at "go"
  refine cmp_new F fun m dm hm => ?_
  repeat walk_at "go"
  exact q _ m ((((k1.trans k2).trans k3).trans k4).trans (Keep.new hm)) dm _ l2 l3 l4 o2 o3 o4 Store.set_same (by rfl) (by rfl) (by rfl) (by rfl) (Store.old hm (k4 _ _ (k3 _ _ e2))) (Store.old hm (k4 _ _ e3)) (Store.old hm e4)
theorem cmpB (S : Stm) (hS : S.Low) (x0 : Str) {d : Nat} {σ : Store} {x dx : Addr} {fs : List (Str × Val)} {Q : Val → Store → Prop} (hd : 30 ≤ d) (hx : σ x = some (.inst (A 15) dx fs)) (hB : StmB S fs) (f1 : fs.lookup ("label" : Str) = some (.str "L")) (f2 : fs.lookup ("go_always" : Str) = some (.tup [.str "goto", .tup [.str "name", .str x0]])) (f5 : fs.lookup ("line" : Str) = some (.int 3)) (hz : (so S).length ≤ 1000000)
    (q : ∀ σ' m, Keep σ σ' → ∀ dm fm l1 l2 l3 o1 o2 o3, σ' m = some (.inst (A 3) dm fm) → fm.lookup ("success" : Str) = some (.ref l1) → fm.lookup ("failure" : Str) = some (.ref l2) → fm.lookup ("label" : Str) = some (.str "L") → fm.lookup ("body" : Str) = some (.ref l3) → σ' l1 = some (.list [labV x0] o1) → σ' l2 = some (.list [labV x0] o2) → σ' l3 = some (.list ((so S).map Ord.val) o3) → Q (.ref m) σ') : WC c (d + 1) (A 11) [.ref x] σ Q := by
  obtain ⟨d', rfl⟩ : ∃ d', d = d' + 1 + 1 := ⟨d - 2, by lia⟩
  refine WC_def F.f11.toFunAt comp_plain rfl ?_
  refine WS_cons ?_
  repeat walk_at "go"
  refine goto_lab F x0 fun σ1 l1 k1 n1 o1 e1 => ?_
  repeat walk_at "go"
  refine body_c F S hS (by lia) (k1 _ _ hx) hB hz fun σ4 l4 k4 n4 o4 e4 => ?_
  repeat walk_at "go"
  refine cmp_new F fun m dm hm => ?_
  repeat walk_at "go"
  exact q _ m ((k1.trans k4).trans (Keep.new hm)) dm _ l1 l1 l4 o1 o1 o4 Store.set_same (by rfl) (by rfl) (by rfl) (by rfl) (Store.old hm (k4 _ _ e1)) (Store.old hm (k4 _ _ e1)) (Store.old hm e4)
end

local macro_rules | `(tactic| walk_at "go") => `(tactic| first
  | ((with_reducible show G1 _ _ _ (fun r => getAttr r _ true) (Val.ref _) _ _); refine G_attr (by walk_at "cell") (Facts.a3 (by assumption) _ (by decide)) (by first | assumption | rfl) ?_))
theorem right_plain : PlainScope ["statement"] (scopeAt 29) := ⟨by decide +kernel, by decide +kernel, by decide +kernel, by decide +kernel, by decide +kernel⟩
noncomputable def PV.data : PV → PyData
  | .txt s => .str s
  | .num n => .int (n.val : Nat)
noncomputable def Ord.data : Ord → PyData
  | .push v => .tuple [.str "PUSH", v.data]
  | .var x => .tuple [.str "VAR", .str x.s]
  | .ref x => .tuple [.str "REF", .str x.s]
  | .kw => .tuple [.str "KEYWORD", .str "K"]
  | .call f n b => .tuple [.str "CALL", .str f.s, .int n, .bool b]
  | .item b => .tuple [.str "ITEM", .int 1, .bool b]
  | .indirect => .tuple [.str "INDIRECT"]
  | .value => .tuple [.str "VALUE"]
  | .delayed g => .tuple [.str "DELAYED", g.data]
  | .cursor => .tuple [.str "CURSOR"]
  | .neg => .tuple [.str "UNARY", .str "-"]
  | .join => .tuple [.str "JOIN"]
  | .bin op => .tuple [.str "BINARY", .str op.s]
  | .given op => .tuple [.str "GIVEN", .str op.s]
  | .drop => .tuple [.str "DROP"]
  | .guard n => .tuple [.str "GUARD", .int n]
  | .unguard => .tuple [.str "UNGUARD"]
  | .fail => .tuple [.str "FAIL"]
  | .double => .tuple [.str "DOUBLE"]
  | .mtch => .tuple [.str "MATCH"]
  | .assign => .tuple [.str "ASSIGN"]
  | .replace => .tuple [.str "REPLACE"]
theorem deep_o (σ : Store) (o : Ord) : Deep σ o.val o.data := by
  cases o with
  | push v => cases v <;> exact .tup (.cons (.str _) (.cons (by constructor) .nil))
  | call f n b => exact .tup (.cons (.str _) (.cons (.str _) (.cons (.int _) (.cons (.bool _) .nil))))
  | item b => exact .tup (.cons (.str _) (.cons (.int _) (.cons (.bool _) .nil)))
  | delayed g => exact .tup (.cons (.str _) (.cons (deep_g σ g) .nil))
  | guard n => exact .tup (.cons (.str _) (.cons (.int _) .nil))
  | _ => first | exact .tup (.cons (.str _) .nil) | exact .tup (.cons (.str _) (.cons (.str _) .nil))
theorem deep_os (σ : Store) : ∀ os : List Ord, Deeps σ (os.map Ord.val) (os.map Ord.data)
  | [] => .nil
  | o :: os => .cons (deep_o σ o) (deep_os σ os)
noncomputable def Ord.Fine : Ord → Prop
  | .delayed g => g.h ≤ 8
  | .push (.txt s) => okS s
  | _ => True
theorem fine_app {a b : List Ord} (h : ∀ o ∈ a, o.Fine) (k : ∀ o ∈ b, o.Fine) : ∀ o ∈ a ++ b, o.Fine := fun o ho => (List.mem_append.mp ho).elim (h o) (k o)
theorem fine_cons {o : Ord} {b : List Ord} (h : o.Fine) (k : ∀ o ∈ b, o.Fine) : ∀ p ∈ o :: b, p.Fine := fun p hp => by
  rcases List.mem_cons.mp hp with rfl | hp
  · exact h
  · exact k p hp
theorem fine_nil : ∀ o ∈ ([] : List Ord), o.Fine := fun o ho => by cases ho
mutual
theorem fine_t : ∀ t : Tr, t.h ≤ 8 → ∀ o ∈ vo t, o.Fine
  | .name x, _ => by simp only [vo]; exact fine_cons trivial fine_nil
  | .whole n, _ => by simp only [vo]; exact fine_cons trivial fine_nil
  | .text, _ => by simp only [vo]; exact fine_cons (okL _) fine_nil
  | .null, _ => by simp only [vo]; exact fine_cons (okL _) fine_nil
  | .join l r, h => by simp only [Tr.h] at h; simp only [vo]; exact fine_app (fine_app (fine_t l (by lia)) (fine_t r (by lia))) (fine_cons trivial fine_nil)
  | .bin op l r, h => by simp only [Tr.h] at h; simp only [vo]; exact fine_app (fine_app (fine_t l (by lia)) (fine_t r (by lia))) (fine_cons trivial fine_nil)
  | .give op l g, h => by simp only [Tr.h] at h; simp only [vo]; exact fine_app (fine_app (fine_t l (by lia)) (fine_g g (by lia)).2) (fine_cons trivial fine_nil)
  | .call0, h => by simp only [vo]; exact fine_app fine_nil (fine_cons trivial fine_nil)
  | .call1 a, h => by simp only [Tr.h] at h; simp only [vo]; exact fine_app (fine_app fine_nil (fine_t a (by lia))) (fine_cons trivial fine_nil)
  | .call2 a b, h => by simp only [Tr.h] at h; simp only [vo]; exact fine_app (fine_app (fine_app fine_nil (fine_t a (by lia))) (fine_t b (by lia))) (fine_cons trivial fine_nil)
  | .una .not g, h => by simp only [Tr.h] at h; simp only [vo]; exact fine_app (fine_app (fine_cons trivial fine_nil) (fine_g g (by lia)).1) (fine_cons trivial (fine_cons trivial (fine_cons (okL _) fine_nil)))
  | .una .ask g, h => by simp only [Tr.h] at h; simp only [vo]; exact fine_app (fine_g g (by lia)).1 (fine_cons trivial (fine_cons (okL _) fine_nil))
  | .una .neg g, h => by simp only [Tr.h] at h; simp only [vo]; exact fine_app (fine_g g (by lia)).1 (fine_cons trivial fine_nil)
  | .una .del g, h => by simp only [Tr.h] at h; simp only [vo]; exact fine_cons (show g.h ≤ 8 by lia) fine_nil
  | .una .cur g, h => by simp only [Tr.h] at h; simp only [vo]; exact fine_app (fine_g g (by lia)).2 (fine_cons trivial fine_nil)
  | .goal g, h => by simp only [Tr.h] at h; simp only [vo]; exact (fine_g g (by lia)).1
theorem fine_g : ∀ g : Go, g.h ≤ 8 → (∀ o ∈ vg g, o.Fine) ∧ ∀ o ∈ ng g, o.Fine
  | .item a b, h => by
    simp only [Go.h] at h; simp only [vg, ng]
    exact ⟨fine_app (fine_app (fine_t a (by lia)) (fine_app fine_nil (fine_t b (by lia)))) (fine_cons trivial fine_nil), fine_app (fine_app (fine_t a (by lia)) (fine_app fine_nil (fine_t b (by lia)))) (fine_cons trivial fine_nil)⟩
  | .ind a, h => by
    simp only [Go.h] at h; simp only [vg, ng]
    exact ⟨fine_app (fine_t a (by lia)) (fine_cons trivial (fine_cons trivial fine_nil)), fine_app (fine_t a (by lia)) (fine_cons trivial fine_nil)⟩
  | .key, h => by simp only [vg, ng]; exact ⟨fine_app (fine_cons trivial fine_nil) (fine_cons trivial fine_nil), fine_cons trivial fine_nil⟩
  | .callG a, h => by
    simp only [Go.h] at h; simp only [vg, ng]
    exact ⟨fine_app (fine_app fine_nil (fine_t a (by lia))) (fine_cons trivial fine_nil), fine_app (fine_app fine_nil (fine_t a (by lia))) (fine_cons trivial fine_nil)⟩
  | .name x, h => by simp only [vg, ng]; exact ⟨fine_cons trivial fine_nil, fine_cons trivial fine_nil⟩
end
theorem fine_s {S : Stm} (h : S.Low) : ∀ o ∈ so S, o.Fine := by
  cases S with
  | ev t => exact fine_app (fine_t t h) (fine_cons trivial fine_nil)
  | asg g r => exact fine_app (fine_app (fine_g g h.1).2 (fine_t r h.2)) (fine_cons trivial fine_nil)
  | mat g p => exact fine_app (fine_app (fine_g g h.1).1 (fine_t p h.2)) (fine_cons trivial fine_nil)
  | rep g p r => exact fine_app (fine_app (fine_app (fine_app (fine_app (fine_g g h.1).2 (fine_cons trivial (fine_cons trivial fine_nil))) (fine_t p h.2.1)) (fine_cons trivial fine_nil)) (fine_t r h.2.2)) (fine_cons trivial fine_nil)
theorem odata_ok {o : Ord} (h : o.Fine) : o.data.canLay0 = true ∧ o.data.depth ≤ 20 := by
  cases o with
  | push v => cases v with
    | txt s =>
      have h : okS s := h
      unfold okS at h
      simp only [Ord.data, PV.data, PyData.canLay0, PyData.canLayAll0, PyData.depth, PyData.depthAll, h]
      exact ⟨by decide +kernel, by decide⟩
    | num n => simp only [Ord.data, PV.data, PyData.canLay0, PyData.canLayAll0, PyData.depth, PyData.depthAll]; exact ⟨by decide +kernel, by decide⟩
  | call f n b => cases f <;> (simp only [Ord.data, PyData.canLay0, PyData.canLayAll0, PyData.depth, PyData.depthAll]; exact ⟨by decide +kernel, by decide⟩)
  | var x => cases x <;> (simp only [Ord.data, PyData.canLay0, PyData.canLayAll0, PyData.depth, PyData.depthAll]; exact ⟨by decide +kernel, by decide⟩)
  | ref x => cases x <;> (simp only [Ord.data, PyData.canLay0, PyData.canLayAll0, PyData.depth, PyData.depthAll]; exact ⟨by decide +kernel, by decide⟩)
  | bin x => cases x <;> (simp only [Ord.data, PyData.canLay0, PyData.canLayAll0, PyData.depth, PyData.depthAll]; exact ⟨by decide +kernel, by decide⟩)
  | given x => cases x <;> (simp only [Ord.data, PyData.canLay0, PyData.canLayAll0, PyData.depth, PyData.depthAll]; exact ⟨by decide +kernel, by decide⟩)
  | delayed g =>
    obtain ⟨a1, _, _, _, a5⟩ := datag_ok g
    have h : g.h ≤ 8 := h
    simp only [Ord.data, PyData.canLay0, PyData.canLayAll0, PyData.depth, PyData.depthAll, a1]
    exact ⟨by decide +kernel, by lia⟩
  | _ => simp only [Ord.data, PyData.canLay0, PyData.canLayAll0, PyData.depth, PyData.depthAll]; exact ⟨by decide +kernel, by decide⟩
theorem odatas_ok : ∀ {os : List Ord}, (∀ o ∈ os, o.Fine) → PyData.canLayAll0 (os.map Ord.data) = true ∧ PyData.depthAll (os.map Ord.data) ≤ 20
  | [], _ => ⟨rfl, Nat.zero_le _⟩
  | o :: os, h => by
    obtain ⟨a1, a2⟩ := odata_ok (h o List.mem_cons_self)
    obtain ⟨b1, b2⟩ := odatas_ok (os := os) fun p hp => h p (List.mem_cons_of_mem _ hp)
    simp only [List.map_cons, PyData.canLayAll0, PyData.depthAll, a1, b1]
    exact ⟨rfl, by lia⟩
theorem putF_at (name : Str) (v : Val) : ∀ fs : List (Str × Val), (putF name v fs).lookup name = some v
  | [] => by simp [putF]
  | (x, u) :: r => by
    unfold putF
    by_cases e : (x == name) = true
    · rw [if_pos e]
      have : name = x := (beq_iff_eq.mp e).symm
      subst this
      simp
    · rw [if_neg e, List.lookup_cons]
      have : (name == x) = false := by
        cases q : name == x with
        | false => rfl
        | true => exact absurd (beq_iff_eq.mpr (beq_iff_eq.mp q).symm) e
      rw [this]; exact putF_at name v r
theorem putF_off {name y : Str} (v : Val) (h : (y == name) = false) : ∀ fs : List (Str × Val), (putF name v fs).lookup y = fs.lookup y
  | [] => by simp [putF, List.lookup_cons, h]
  | (x, u) :: r => by
    unfold putF
    by_cases e : (x == name) = true
    · rw [if_pos e, List.lookup_cons, List.lookup_cons]
      have e' := beq_iff_eq.mp e
      rw [e', h]
    · rw [if_neg e, List.lookup_cons, List.lookup_cons]
      cases y == x
      · exact putF_off v h r
      · rfl
theorem StmB.put {S : Stm} {fs : List (Str × Val)} {name : Str} {v : Val} (h : StmB S fs) (h1 : (("subject" : Str) == name) = false) (h2 : (("pattern" : Str) == name) = false) (h3 : (("is_replaced" : Str) == name) = false) (h4 : (("replacement" : Str) == name) = false) : StmB S (putF name v fs) :=
  ⟨by rw [putF_off v h1]; exact h.sub, by rw [putF_off v h2]; exact h.pat, by rw [putF_off v h3]; exact h.isr, by rw [putF_off v h4]; exact h.repl⟩
noncomputable def d4 (os : List Ord) : PyData := .tuple [.list [.tuple [.str "LABEL", .str "S1"]], .list [], .str "L", .list (os.map Ord.data)]
theorem shape4 {os : List Ord} (c1 : PyData.canLayAll0 (os.map Ord.data) = true) (c2 : PyData.depthAll (os.map Ord.data) ≤ 20) : SeqAt.shaped (d4 os) = true ∧ (d4 os).canLay0 = true := by
  have h : (d4 os).canLay0 = true := by
    simp only [d4, PyData.canLay0, PyData.canLayAll0, c1]
    decide +kernel
  refine ⟨?_, h⟩
  unfold SeqAt.shaped
  rw [h, Bool.true_and]
  refine decide_eq_true ?_
  simp only [d4, PyData.depth, PyData.depthAll]
  lia
section
variable {c : Cx} {A : Nat → Addr} (F : Facts c A)
include F
theorem right_spec (S : Stm) (hS : S.Low) {d : Nat} {σ : Store} {x dx : Addr} {fs : List (Str × Val)} {Q : Val → Store → Prop} (hd : 31 ≤ d) (hx : σ x = some (.inst (A 15) dx fs)) (hB : StmB S fs) (hL : StmL fs) (hz : (so S).length ≤ 1000000) (q : ∀ σ', Q (.bool true) σ') : WC c (d + 1) (A 29) [.ref x] σ Q := by
  obtain ⟨d', rfl⟩ : ∃ d', d = d' + 1 + 1 := ⟨d - 2, by lia⟩
  obtain ⟨c1, c2⟩ := odatas_ok (fine_s hS)
  refine WC_def F.f29.toFunAt right_plain rfl ?_
  refine WS_cons ?_
  repeat walk_at "go"
  refine goto_none F fun σ1 l1 k1 n1 o1 e1 => ?_
  repeat walk_at "go"
  refine G_neD (e := .list []) (e' := .list []) (.list (by walk_at "cell") .nil) (.list (by walk_at "cell") .nil) (by decide +kernel) (by decide +kernel) ?_
  repeat walk_at "go"
  refine goto_lab F "M" fun σ2 l2 k2 n2 o2 e2 => ?_
  repeat walk_at "go"
  refine G_neD (e := .list [.tuple [.str "LABEL", .str "M"]]) (e' := .list [.tuple [.str "LABEL", .str "M"]]) (.list (by walk_at "cell") (.cons (.tup (.cons (.str _) (.cons (.str _) .nil))) .nil)) (.list (by walk_at "cell") (.cons (.tup (.cons (.str _) (.cons (.str _) .nil))) .nil)) (by decide +kernel) (by decide +kernel) ?_
  repeat walk_at "go"
  refine goto_ind F "A" fun σ3 l3 k3 n3 o3 e3 => ?_
  repeat walk_at "go"
  refine G_neD (e := .list [.tuple [.str "VAR", .str "A"], .tuple [.str "TO"]]) (e' := .list [.tuple [.str "VAR", .str "A"], .tuple [.str "TO"]]) (.list (by walk_at "cell") (.cons (.tup (.cons (.str _) (.cons (.str _) .nil))) (.cons (.tup (.cons (.str _) .nil)) .nil))) (.list (by walk_at "cell") (.cons (.tup (.cons (.str _) (.cons (.str _) .nil))) (.cons (.tup (.cons (.str _) .nil)) .nil))) (by decide +kernel) (by decide +kernel) ?_
  repeat walk_at "go"
  refine goto_dir F "C" fun σ4 l4 k4 n4 o4 e4 => ?_
  repeat walk_at "go"
  refine G_neD (e := .list [.tuple [.str "VAR", .str "C"], .tuple [.str "TO CODE"]]) (e' := .list [.tuple [.str "VAR", .str "C"], .tuple [.str "TO CODE"]]) (.list (by walk_at "cell") (.cons (.tup (.cons (.str _) (.cons (.str _) .nil))) (.cons (.tup (.cons (.str _) .nil)) .nil))) (.list (by walk_at "cell") (.cons (.tup (.cons (.str _) (.cons (.str _) .nil))) (.cons (.tup (.cons (.str _) .nil)) .nil))) (by decide +kernel) (by decide +kernel) ?_
  repeat walk_at "go"
  refine WX_unpack ?_
  repeat walk_at "go"
  refine ⟨[gotoV "S1", .none], .inl rfl, rfl, ?_⟩
  have hsh := hL.short
  refine WAs_attr ?_
  repeat walk_at "go"
  refine G_setAttr (by walk_at "cell") (Facts.a15 F _ (by decide)) (by lia) ?_
  refine WAs_attr ?_
  repeat walk_at "go"
  refine G_setAttr Store.set_same (Facts.a15 F _ (by decide)) (by have := putF_length "go_success" (gotoV "S1") fs; lia) ?_
  refine WAs_nil ?_
  have hB2 : StmB S (putF "go_failure" .none (putF "go_success" (gotoV "S1") fs)) := (hB.put (by decide +kernel) (by decide +kernel) (by decide +kernel) (by decide +kernel)).put (by decide +kernel) (by decide +kernel) (by decide +kernel) (by decide +kernel)
  have g1 : (putF "go_failure" .none (putF "go_success" (gotoV "S1") fs)).lookup ("label" : Str) = some (.str "L") := by rw [putF_off _ (by decide +kernel), putF_off _ (by decide +kernel)]; exact hL.lab
  have g2 : (putF "go_failure" .none (putF "go_success" (gotoV "S1") fs)).lookup ("go_always" : Str) = some .none := by rw [putF_off _ (by decide +kernel), putF_off _ (by decide +kernel)]; exact hL.ga
  have g3 : (putF "go_failure" .none (putF "go_success" (gotoV "S1") fs)).lookup ("go_success" : Str) = some (gotoV "S1") := by rw [putF_off _ (by decide +kernel)]; exact putF_at _ _ _
  have g4 : (putF "go_failure" .none (putF "go_success" (gotoV "S1") fs)).lookup ("go_failure" : Str) = some .none := putF_at _ _ _
  have g5 : (putF "go_failure" .none (putF "go_success" (gotoV "S1") fs)).lookup ("line" : Str) = some (.int 3) := by rw [putF_off _ (by decide +kernel), putF_off _ (by decide +kernel)]; exact hL.line
  have g6 : (putF "go_failure" .none (putF "go_success" (gotoV "S1") fs)).length ≤ 22 := by
    have := putF_length "go_success" (gotoV "S1") fs
    have := putF_length "go_failure" .none (putF "go_success" (gotoV "S1") fs)
    lia
  generalize (putF "go_failure" .none (putF "go_success" (gotoV "S1") fs)) = fs2 at hB2 g1 g2 g3 g4 g5 g6 ⊢
  repeat walk_at "go"
  refine cmpA F S hS "S1" (by lia) Store.set_same hB2 g1 g2 g3 g4 g5 hz fun σ5 m k5 dm fm a1 a2 a3 b1 b2 b3 hm m1 m2 m3 m4 i1 i2 i3 => ?_
  have hx5 := k5 x _ Store.set_same
  repeat walk_at "go"
  refine body_c F S hS (dx := dx) (fs := fs2) (by lia) (by walk_at "cell") hB2 hz fun σ6 l6 k6 n6 o6 e6 => ?_
  repeat walk_at "go"
  obtain ⟨sh, cl⟩ := shape4 c1 c2
  refine G_neD (e := d4 (so S)) (e' := d4 (so S)) (.tup (.cons (.list (by walk_at "cell") (.cons (.tup (.cons (.str _) (.cons (.str _) .nil))) .nil)) (.cons (.list (by walk_at "cell") .nil) (.cons (.str _) (.cons (.list (by walk_at "cell") (deep_os _ _)) .nil))))) (.tup (.cons (.list (by walk_at "cell") (.cons (.tup (.cons (.str _) (.cons (.str _) .nil))) .nil)) (.cons (.list (by walk_at "cell") .nil) (.cons (.str _) (.cons (.list (by walk_at "cell") (deep_os _ _)) .nil))))) sh sh ?_
  rw [SeqAt.eqv_refl _ cl]
  repeat walk_at "go"
  refine WX_unpack ?_
  repeat walk_at "go"
  refine ⟨[.none, gotoV "Q"], .inl rfl, rfl, ?_⟩
  refine WAs_attr ?_
  repeat walk_at "go"
  refine G_setAttr (by walk_at "cell") (Facts.a15 F _ (by decide)) (by lia) ?_
  refine WAs_attr ?_
  repeat walk_at "go"
  refine G_setAttr Store.set_same (Facts.a15 F _ (by decide)) (by have := putF_length "go_success" .none fs2; lia) ?_
  refine WAs_nil ?_
  have hB3 : StmB S (putF "go_always" (gotoV "Q") (putF "go_success" .none fs2)) := (hB2.put (by decide +kernel) (by decide +kernel) (by decide +kernel) (by decide +kernel)).put (by decide +kernel) (by decide +kernel) (by decide +kernel) (by decide +kernel)
  have h1 : (putF "go_always" (gotoV "Q") (putF "go_success" .none fs2)).lookup ("label" : Str) = some (.str "L") := by rw [putF_off _ (by decide +kernel), putF_off _ (by decide +kernel)]; exact g1
  have h2 : (putF "go_always" (gotoV "Q") (putF "go_success" .none fs2)).lookup ("go_always" : Str) = some (gotoV "Q") := putF_at _ _ _
  have h5 : (putF "go_always" (gotoV "Q") (putF "go_success" .none fs2)).lookup ("line" : Str) = some (.int 3) := by rw [putF_off _ (by decide +kernel), putF_off _ (by decide +kernel)]; exact g5
  generalize (putF "go_always" (gotoV "Q") (putF "go_success" .none fs2)) = fs3 at hB3 h1 h2 h5 ⊢
  repeat walk_at "go"
  refine cmpB F S hS "Q" (by lia) Store.set_same hB3 h1 h2 h5 hz fun σ7 m7 k7 dm7 fm7 a7 a8 a9 b7 b8 b9 hm7 m17 m27 m37 m47 i7 i8 i9 => ?_
  repeat walk_at "go"
  refine G_eqD (e := .list [.tuple [.str "LABEL", .str "Q"]]) (e' := .list [.tuple [.str "LABEL", .str "Q"]]) (.list (by walk_at "cell") (.cons (.tup (.cons (.str _) (.cons (.str _) .nil))) .nil)) (.list (by walk_at "cell") (.cons (.tup (.cons (.str _) (.cons (.str _) .nil))) .nil)) (by decide +kernel) (by decide +kernel) ?_
  repeat walk_at "go"
  refine G_eqD (e := .list [.tuple [.str "LABEL", .str "Q"]]) (e' := .list [.tuple [.str "LABEL", .str "Q"]]) (.list (by walk_at "cell") (.cons (.tup (.cons (.str _) (.cons (.str _) .nil))) .nil)) (.list (by walk_at "cell") (.cons (.tup (.cons (.str _) (.cons (.str _) .nil))) .nil)) (by decide +kernel) (by decide +kernel) ?_
  repeat walk_at "go"
  exact q _
end

noncomputable def Note.data : Note → PyData
  | .read x => .tuple [.str "read", .str x.s]
  | .value s => .tuple [.str "value", .str s]
  | .call k nm args b => .tuple [.str k, .str nm, .list (args.map PyData.str), .bool b]
  | .done w args => .tuple [.str w, .list (args.map PyData.str)]
theorem deep_strs (σ : Store) : ∀ ss : List Str, Deeps σ (ss.map Val.str) (ss.map PyData.str)
  | [] => .nil
  | s :: ss => .cons (.str s) (deep_strs σ ss)
theorem NoteV.deep {M : List Addr} {σ : Store} {v : Val} {x : Note} (h : NoteV M σ v x) : Deep σ v x.data := by
  cases h with
  | read x => exact .tup (.cons (.str _) (.cons (.str _) .nil))
  | value s => exact .tup (.cons (.str _) (.cons (.str _) .nil))
  | call a b => obtain ⟨o, e⟩ := b; exact .tup (.cons (.str _) (.cons (.str _) (.cons (.list e (deep_strs _ _)) (.cons (.bool _) .nil))))
  | done a b => obtain ⟨o, e⟩ := b; exact .tup (.cons (.str _) (.cons (.list e (deep_strs _ _)) .nil))
theorem NotesV.deep {M : List Addr} {σ : Store} : ∀ {vs : List Val} {ns : List Note}, NotesV M σ vs ns → Deeps σ vs (ns.map Note.data)
  | _, _, .nil => .nil
  | _, _, .cons a b => .cons a.deep (NotesV.deep b)
theorem NotesAt.deep {M : List Addr} {σ : Store} {n : Addr} {ns : List Note} (N : NotesAt M σ n ns) : Deep σ (.ref n) (.list (ns.map Note.data)) := by
  obtain ⟨vs, o, e, h⟩ := N
  exact .list e h.deep
theorem strs_lay : ∀ {ss : List Str}, (∀ s ∈ ss, okS s) → PyData.canLayAll0 (ss.map PyData.str) = true ∧ PyData.depthAll (ss.map PyData.str) = 0
  | [], _ => ⟨rfl, rfl⟩
  | s :: ss, h => by
    obtain ⟨a, b⟩ := strs_lay (ss := ss) fun x hx => h x (List.mem_cons_of_mem _ hx)
    have hs : okS s := h s List.mem_cons_self
    unfold okS at hs
    simp only [List.map_cons, PyData.canLayAll0, PyData.canLay0, PyData.depthAll, PyData.depth, a, b, hs]
    exact ⟨rfl, rfl⟩
theorem Note.lay {x : Note} (h : x.ok) : x.data.canLay0 = true ∧ x.data.depth ≤ 2 := by
  cases x with
  | read x => cases x <;> (simp only [Note.data, PyData.canLay0, PyData.canLayAll0, PyData.depth, PyData.depthAll]; exact ⟨by decide +kernel, by decide⟩)
  | value s =>
    have h : okS s := h
    unfold okS at h
    simp only [Note.data, PyData.canLay0, PyData.canLayAll0, PyData.depth, PyData.depthAll, h]
    exact ⟨by decide +kernel, by decide⟩
  | call k nm args b =>
    obtain ⟨h1, h2, h3⟩ := h
    obtain ⟨a1, a2⟩ := strs_lay h3
    unfold okS at h1 h2
    simp only [Note.data, PyData.canLay0, PyData.canLayAll0, PyData.depth, PyData.depthAll, h1, h2, a1, a2]
    exact ⟨rfl, by decide⟩
  | done w args =>
    obtain ⟨h1, h3⟩ := h
    obtain ⟨a1, a2⟩ := strs_lay h3
    unfold okS at h1
    simp only [Note.data, PyData.canLay0, PyData.canLayAll0, PyData.depth, PyData.depthAll, h1, a1, a2]
    exact ⟨rfl, by decide⟩
theorem notes_lay : ∀ {ns : List Note}, (∀ x ∈ ns, x.ok) → PyData.canLayAll0 (ns.map Note.data) = true ∧ PyData.depthAll (ns.map Note.data) ≤ 2
  | [], _ => ⟨rfl, Nat.zero_le _⟩
  | x :: ns, h => by
    obtain ⟨a1, a2⟩ := Note.lay (h x List.mem_cons_self)
    obtain ⟨b1, b2⟩ := notes_lay (ns := ns) fun y hy => h y (List.mem_cons_of_mem _ hy)
    simp only [List.map_cons, PyData.canLayAll0, PyData.depthAll, a1, b1]
    exact ⟨rfl, by lia⟩
theorem notes_shape {ns : List Note} (h : ∀ x ∈ ns, x.ok) : SeqAt.shaped (.list (ns.map Note.data)) = true ∧ (PyData.list (ns.map Note.data)).canLay0 = true := by
  obtain ⟨a1, a2⟩ := notes_lay h
  have c : (PyData.list (ns.map Note.data)).canLay0 = true := by simp only [PyData.canLay0]; exact a1
  refine ⟨?_, c⟩
  unfold SeqAt.shaped
  rw [c, Bool.true_and]
  refine decide_eq_true ?_
  simp only [PyData.depth]
  lia
theorem str_shape {s : Str} (h : okS s) : SeqAt.shaped (.list [.str s]) = true ∧ (PyData.list [.str s]).canLay0 = true := by
  have h' := h
  unfold okS at h'
  have c : (PyData.list [.str s]).canLay0 = true := by simp only [PyData.canLay0, PyData.canLayAll0, h']; rfl
  refine ⟨?_, c⟩
  unfold SeqAt.shaped
  rw [c, Bool.true_and]
  exact decide_eq_true (by simp only [PyData.depth, PyData.depthAll]; decide)
/-- what a statement's reading bears -/
theorem op_ok {r : Rs} {f : List Str → List Str} {new : List Str → List Note} (h : ∀ x ∈ r.1, x.ok) (k : ∀ l, r.2 = some l → ∀ x ∈ new l, x.ok) : ∀ x ∈ (r.op f new).1, x.ok := by
  unfold Rs.op
  cases e : r.2 with
  | none => exact h
  | some l => exact fun x hx => (List.mem_append.mp hx).elim (h x) (k l e x)
theorem app_ok {r q : Rs} (h : ∀ x ∈ r.1, x.ok) (k : ∀ x ∈ q.1, x.ok) : ∀ x ∈ (r.app q).1, x.ok := by
  unfold Rs.app
  cases e : r.2 with
  | none => exact h
  | some l =>
    dsimp only
    cases e' : q.2 <;> exact fun x hx => (List.mem_append.mp hx).elim (h x) (k x)
theorem app_val {r q : Rs} {P : Str → Prop} (h : ∀ l, r.2 = some l → ∀ x ∈ l, P x) (k : ∀ l, q.2 = some l → ∀ x ∈ l, P x) : ∀ l, (r.app q).2 = some l → ∀ x ∈ l, P x := by
  unfold Rs.app
  intro l hl
  cases e : r.2 with
  | none => rw [e] at hl; cases hl
  | some l₁ =>
    rw [e] at hl; dsimp only at hl
    cases e' : q.2 with
    | none => rw [e'] at hl; cases hl
    | some l₂ => rw [e'] at hl; cases hl; exact fun x hx => (List.mem_append.mp hx).elim (h l₁ e x) (k l₂ e' x)
theorem rs_val {r : Rv} {W : Nat} (f : r.Fit W) : ∀ l, r.rs.2 = some l → ∀ x ∈ l, okS x := by
  unfold Rv.rs
  intro l hl x hx
  cases e : r.2 with
  | none => rw [e] at hl; cases hl
  | some v => rw [e] at hl; cases hl; rw [List.mem_singleton.mp hx]; exact (f.val v e).2
theorem sR_ok (S : Stm) : ∀ x ∈ (sR S).1, x.ok := by
  cases S with
  | ev t => exact op_ok (ev_fit t).ok fun l _ x hx => by cases hx
  | asg g r =>
    exact op_ok (app_ok (en_fit true g).ok (ev_fit r).ok) fun l hl x hx => by
      rw [List.mem_singleton.mp hx]
      exact ⟨okL _, app_val (rs_val (en_fit true g)) (rs_val (ev_fit r)) l hl⟩
  | mat g r =>
    exact op_ok (app_ok (eg_fit (en_fit false g)).ok (ev_fit r).ok) fun l hl x hx => by
      rw [List.mem_singleton.mp hx]
      exact ⟨okL _, app_val (rs_val (eg_fit (en_fit false g))) (rs_val (ev_fit r)) l hl⟩
  | rep g p r =>
    have v1 : ∀ l, ((en true g).rs.op dbl (fun _ => [])).2 = some l → ∀ x ∈ l, okS x := fun l hl x hx => by
      unfold Rs.op at hl
      cases e : (en true g).rs.2 with
      | none => rw [e] at hl; cases hl
      | some l₁ =>
        rw [e] at hl; cases hl
        have := rs_val (en_fit true g) l₁ e
        match l₁, hx with
        | [], hx => cases hx
        | [a], hx => exact this x (by simpa [dbl] using hx)
        | _ :: _ :: _, hx => cases hx
    have o1 : ∀ x ∈ (((en true g).rs.op dbl (fun _ => [])).op (fun l => l) vtop).1, x.ok := op_ok (op_ok (en_fit true g).ok fun l _ x hx => by cases hx) fun l hl x hx => by
      match l, hx with
      | [], hx => cases hx
      | [a], hx => cases hx
      | [a, b], hx => rw [show x = .value b from by simpa [vtop] using hx]; exact v1 _ hl b (by simp)
      | _ :: _ :: _ :: _, hx => cases hx
    have v2 : ∀ l, (((en true g).rs.op dbl (fun _ => [])).op (fun l => l) vtop).2 = some l → ∀ x ∈ l, okS x := fun l hl => by
      unfold Rs.op at hl
      cases e : ((en true g).rs.op dbl (fun _ => [])).2 with
      | none => unfold Rs.op at e; rw [e] at hl; cases hl
      | some l₁ => have e2 := e; unfold Rs.op at e; rw [e] at hl; cases hl; exact v1 _ e2
    have v3 := app_val v2 (rs_val (ev_fit p))
    have o3 : ∀ x ∈ ((((en true g).rs.op dbl (fun _ => [])).op (fun l => l) vtop).app (ev p).rs |>.op m3 mn).1, x.ok := op_ok (app_ok o1 (ev_fit p).ok) fun l hl x hx => by
      match l, hx with
      | [], hx => cases hx
      | [_], hx => cases hx
      | [_, _], hx => cases hx
      | [a, b, e], hx =>
        rw [show x = .done "MATCH" [b, e] from by simpa [mn] using hx]
        exact ⟨okL _, fun y hy => v3 _ hl y (by
          rcases List.mem_cons.mp hy with rfl | hy
          · simp
          · rw [List.mem_singleton.mp hy]; simp)⟩
      | _ :: _ :: _ :: _ :: _, hx => cases hx
    have v4 : ∀ l, ((((en true g).rs.op dbl (fun _ => [])).op (fun l => l) vtop).app (ev p).rs |>.op m3 mn).2 = some l → ∀ x ∈ l, okS x := fun l hl x hx => by
      unfold Rs.op at hl
      cases e : ((((en true g).rs.op dbl (fun _ => [])).op (fun l => l) vtop).app (ev p).rs).2 with
      | none => unfold Rs.op at e; rw [e] at hl; cases hl
      | some l₁ =>
        have e2 := e
        unfold Rs.op at e; rw [e] at hl; cases hl
        match l₁, e2, hx with
        | [], _, hx => cases hx
        | [_], _, hx => cases hx
        | [_, _], _, hx => cases hx
        | [a, b, f], e2, hx => rw [show x = a from by simpa [m3] using hx]; exact v3 _ e2 a (by simp)
        | _ :: _ :: _ :: _ :: _, _, hx => cases hx
    exact op_ok (app_ok o3 (ev_fit r).ok) fun l hl x hx => by
      rw [List.mem_singleton.mp hx]
      exact ⟨okL _, app_val v4 (rs_val (ev_fit r)) l hl⟩
mutual
theorem vo_len : ∀ t : Tr, (vo t).length ≤ wt t
  | .name x => by simp only [vo, wt, List.length_cons, List.length_nil]; lia
  | .whole n => by simp only [vo, wt, List.length_cons, List.length_nil]; lia
  | .text => by simp only [vo, wt, List.length_cons, List.length_nil]; lia
  | .null => by simp only [vo, wt, List.length_cons, List.length_nil]; lia
  | .call0 => by simp only [vo, wt, List.length_append, List.length_cons, List.length_nil]; lia
  | .join l r => by have := vo_len l; have := vo_len r; simp only [vo, wt, List.length_append, List.length_cons, List.length_nil]; lia
  | .bin _ l r => by have := vo_len l; have := vo_len r; simp only [vo, wt, List.length_append, List.length_cons, List.length_nil]; lia
  | .call2 l r => by have := vo_len l; have := vo_len r; simp only [vo, wt, List.length_append, List.length_cons, List.length_nil]; lia
  | .call1 l => by have := vo_len l; simp only [vo, wt, List.length_append, List.length_cons, List.length_nil]; lia
  | .give _ l g => by have := vo_len l; have := (vg_len g).2; simp only [vo, wt, List.length_append, List.length_cons, List.length_nil]; lia
  | .una .not g => by have := (vg_len g).1; simp only [vo, wt, List.length_append, List.length_cons, List.length_nil]; lia
  | .una .ask g => by have := (vg_len g).1; simp only [vo, wt, List.length_append, List.length_cons, List.length_nil]; lia
  | .una .neg g => by have := (vg_len g).1; simp only [vo, wt, List.length_append, List.length_cons, List.length_nil]; lia
  | .una .del g => by simp only [vo, wt, List.length_cons, List.length_nil]; lia
  | .una .cur g => by have := (vg_len g).2; simp only [vo, wt, List.length_append, List.length_cons, List.length_nil]; lia
  | .goal g => by have := (vg_len g).1; simp only [vo, wt]; lia
theorem vg_len : ∀ g : Go, (vg g).length ≤ wg g ∧ (ng g).length ≤ wg g
  | .item a b => by have := vo_len a; have := vo_len b; simp only [vg, ng, wg, List.length_append, List.length_cons, List.length_nil]; lia
  | .ind a => by have := vo_len a; simp only [vg, ng, wg, List.length_append, List.length_cons, List.length_nil]; lia
  | .key => by simp only [vg, ng, wg, List.length_append, List.length_cons, List.length_nil]; lia
  | .callG a => by have := vo_len a; simp only [vg, ng, wg, List.length_append, List.length_cons, List.length_nil]; lia
  | .name x => by simp only [vg, ng, wg, List.length_cons, List.length_nil]; lia
end
theorem so_len {S : Stm} (h : S.Low) : (so S).length ≤ 1000000 := by
  cases S with
  | ev t => have := vo_len t; have := wt_small h; simp only [so, List.length_append, List.length_cons, List.length_nil]; lia
  | asg g r => have := vo_len r; have := (vg_len g).2; have := wg_small h.1; have := wt_small h.2; simp only [so, List.length_append, List.length_cons, List.length_nil]; lia
  | mat g r => have := vo_len r; have := (vg_len g).1; have := wg_small h.1; have := wt_small h.2; simp only [so, List.length_append, List.length_cons, List.length_nil]; lia
  | rep g p r => have := vo_len p; have := vo_len r; have := (vg_len g).2; have := wg_small h.1; have := wt_small h.2.1; have := wt_small h.2.2; simp only [so, List.length_append, List.length_cons, List.length_nil]; lia
theorem NotesAt.but {M : List Addr} {σ σ' : Store} {n m : Addr} {ns : List Note} (N : NotesAt M σ n ns) (k : KeepBut m σ σ') (hm : m ∈ M) (h : n ≠ m) : NotesAt M σ' n ns := by
  refine N.out (k.out hm) ?_
  obtain ⟨vs, o, e, _⟩ := N
  rw [e]; exact k _ _ h e
theorem Box.but {σ σ' : Store} {b n : Addr} (B : Box σ b) (k : KeepBut n σ σ') (h : b ≠ n) : Box σ' b := by
  obtain ⟨g, i, o, e, r⟩ := B
  exact ⟨g, i, o, k _ _ h e, r⟩
theorem Box.keep {σ σ' : Store} {b : Addr} (B : Box σ b) (k : Keep σ σ') : Box σ' b := by
  obtain ⟨g, i, o, e, r⟩ := B
  exact ⟨g, i, o, k _ _ e, r⟩
theorem NotesAt.ne' {M : List Addr} {σ σ' : Store} {n l : Addr} {ns ns' : List Note} (_N : NotesAt M σ' n ns) (h : σ l = none) (_k : Keep σ σ') (N : NotesAt M σ n ns') : l ≠ n := N.ne h

local macro_rules | `(tactic| walk_at "go") => `(tactic| first
  | ((with_reducible show G1 _ _ _ (fun r => getAttr r _ true) (Val.ref _) _ _); refine G_attr (by walk_at "cell") (Facts.a15 (by assumption) _ (by decide)) (by first | assumption | rfl) ?_)
  | ((with_reducible show G2U _ _ _ (fun r x => setAttr r _ x) (Val.ref _) _ _ _); refine G_setAttr (by walk_at "cell") (Facts.a15 (by assumption) _ (by decide)) (Nat.le_of_ble_eq_true rfl) ?_))
section
variable {c : Cx} {A : Nat → Addr} (F : Facts c A)
include F
theorem law_tree_turn {d : Nat} {ρ : LEnv} {σ : Store} {b : Addr} {Q : Fl → LEnv → Store → Prop} {body : List Stmt} (hbody : ∃ x xp it p rest, (bodyAt 30).drop 1 = .For (.Name x xp) it body [] p :: rest) (hd : 40 ≤ d) (B : Box σ b) (r1 : At ρ "box" (.ref b)) (q : ∀ ρ' σ', At ρ' "box" (.ref b) → Box σ' b → Q .next ρ' σ') : WS c d (scopeAt 30) body ρ σ Q := by
  obtain ⟨x, xp, it, p, rest, hbd⟩ := hbody
  cases hbd
  obtain ⟨hT, _⟩ := draw F 3
  obtain ⟨d', rfl⟩ : ∃ d', d = d' + 1 + 1 := ⟨d - 2, by lia⟩
  generalize hdd : d' + 1 + 1 = d at hd ⊢
  refine WS_cons ?_
  refine WX_swap3 ?_
  repeat walk_at "go"
  refine WE_name r1 ?_
  repeat walk_at "go"
  refine hT d _ _ _ (by lia) B fun σ1 t ht B1 K1 => ?_
  repeat walk_at "go"
  rename_i hr ho h1 tr to h2
  refine ⟨_, _, _, rfl, ?_⟩
  have G1 := rds_t F t (by lia)
  have G2 := gives_t F t
  have w1 := wt_small (t := t) (by lia)
  obtain ⟨k, R, run, hR2, hRn, hRs⟩ := (seg_t t (by lia)).run (by lia)
  have fit := ev_fit t
  have hlen : (vo t).length ≤ 1000000 := by have := vo_len t; lia
  have hbr := B1.ne h1
  have B2 := B1.new (c := .list [] ho) h1
  have hbt := B2.ne h2
  have hrt : tr ≠ hr := fun e => by rw [e, Store.set_same] at h2; cases h2
  have L3 : Live [hr, tr] ((σ1.set hr (.list [] ho)).set tr (.list [] to)) := fun a ha e => by
    rcases List.mem_cons.mp ha with rfl | ha
    · rw [Store.set_ne (Ne.symm hrt), Store.set_same] at e; cases e
    · rw [List.mem_singleton.mp ha, Store.set_same] at e; cases e
  have N3 : NotesAt [hr, tr] ((σ1.set hr (.list [] ho)).set tr (.list [] to)) hr [] := ⟨[], ho, by rw [Store.set_ne (Ne.symm hrt)]; exact Store.set_same, .nil⟩
  have T3 : NotesAt [hr, tr] ((σ1.set hr (.list [] ho)).set tr (.list [] to)) tr [] := ⟨[], to, Store.set_same, .nil⟩
  have B3 := B2.new (c := .list [] to) h2
  generalize ((σ1.set hr (.list [] ho)).set tr (.list [] to)) = σ3 at L3 N3 T3 B3 ⊢
  have mh : hr ∈ [hr, tr] := by simp
  have mt : tr ∈ [hr, tr] := by simp
  obtain ⟨sh, cl⟩ := notes_shape fit.ok
  have hRe : R.2 = (ev t).1 := hR2
  repeat walk_at "go"
  refine WX_swap2 ?_
  repeat walk_at "go"
  refine G1.use (by lia) mh L3 N3 (by simp only [List.length_nil]; lia) (fun σ4 K4 N4 e1 => ?_) (fun σ4 s1 K4 N4 e1 => ?_)
  · repeat walk_at "go"
    refine G2 d _ _ (by lia) (Nat.le_trans hlen mil) fun σ5 lo k5 n5 io => ?_
    have T5 := (T3.but K4 mh hrt).keep k5
    have N5 := N4.keep k5
    have B5 := (B3.but K4 (Ne.symm hbr)).keep k5
    repeat walk_at "go"
    subst hdd
    refine run_spec F run hlen (by lia) mt ((L3.step K4 N4).keep k5) T5 io (T5.ne' n5 k5 (T3.but K4 mh hrt)) (fun σ6 K6 T6 e6 => ?_) (fun σ6 l6 s6 h6 K6 T6 e6 i6 n6 => ?_)
    · have N6 := N5.but K6 mt (Ne.symm hrt)
      have B6 := B5.but K6 (Ne.symm hbt)
      rw [hRe] at T6
      repeat walk_at "go"
      refine ⟨_, _, rfl, ?_⟩
      repeat walk_at "go"
      refine G_neD N6.deep T6.deep sh sh ?_
      rw [List.nil_append, SeqAt.eqv_refl _ cl]
      repeat walk_at "go"
      exact q _ _ r1 B6
    · exfalso
      have := hRn (by show (ev t).2.map _ = none; rw [e1]; rfl)
      rw [this] at e6; cases e6
  · repeat walk_at "go"
    refine G2 d _ _ (by lia) (Nat.le_trans hlen mil) fun σ5 lo k5 n5 io => ?_
    have T5 := (T3.but K4 mh hrt).keep k5
    have N5 := N4.keep k5
    have B5 := (B3.but K4 (Ne.symm hbr)).keep k5
    obtain ⟨h0, eR, hle⟩ := hRs [s1] (by show (ev t).2.map _ = _; rw [e1]; rfl)
    repeat walk_at "go"
    subst hdd
    refine run_spec F run hlen (by lia) mt ((L3.step K4 N4).keep k5) T5 io (T5.ne' n5 k5 (T3.but K4 mh hrt)) (fun σ6 K6 T6 e6 => ?_) (fun σ6 l6 s6 h6 K6 T6 e6 i6 n6 => ?_)
    · exfalso
      rw [eR] at e6; cases e6
    · rw [eR] at e6
      cases e6
      obtain ⟨o6, i6⟩ := i6
      have N6 := N5.but K6 mt (Ne.symm hrt)
      have B6 := B5.but K6 (Ne.symm hbt)
      rw [hRe] at T6
      obtain ⟨sh1, cl1⟩ := str_shape (fit.val s1 e1).2
      repeat walk_at "go"
      refine ⟨_, _, rfl, ?_⟩
      repeat walk_at "go"
      refine G_neD N6.deep T6.deep sh sh ?_
      rw [List.nil_append, SeqAt.eqv_refl _ cl]
      repeat walk_at "go"
      rename_i l7 o7 h7
      have B7 := B6.new (c := .list [.str s1] o7) h7
      refine G_neD (e := .list [.str s1]) (e' := .list [.str s1]) (.list (Store.old h7 i6) (.cons (.str _) .nil)) (.list Store.set_same (.cons (.str _) .nil)) sh1 sh1 ?_
      rw [SeqAt.eqv_refl _ cl1]
      repeat walk_at "go"
      refine G2 _ _ _ (by lia) (Nat.le_trans hlen mil) fun σ8 l8 k8 n8 ⟨o8, e8⟩ => ?_
      have B8 := B7.keep k8
      repeat walk_at "go"
      refine depth_spec F (vo t) e8 ?_
      repeat walk_at "go"
      refine Ways.no (decide_eq_false (by lia)) ?_
      repeat walk_at "go"
      exact q _ _ r1 B8
end

local macro_rules | `(tactic| walk_at "go") => `(tactic| first
  | ((with_reducible show G1 _ _ _ (fun r => getAttr r _ true) (Val.ref _) _ _); refine G_attr (by walk_at "cell") (Facts.a15 (by assumption) _ (by decide)) (by first | assumption | rfl) ?_)
  | ((with_reducible show G2U _ _ _ (fun r x => setAttr r _ x) (Val.ref _) _ _ _); refine G_setAttr (by walk_at "cell") (Facts.a15 (by assumption) _ (by decide)) (Nat.le_of_ble_eq_true rfl) ?_))
theorem Keep.fresh {σ σ₁ σ₂ : Store} {n : Addr} (k : KeepBut n σ₁ σ₂) (h : Keep σ σ₁) (e : σ n = none) : Keep σ σ₂ := fun a c q => k a c (fun w => by rw [w, e] at q; cases q) (h a c q)
section
variable {c : Cx} {A : Nat → Addr} (F : Facts c A)
include F
theorem law_stm_turn {d : Nat} {ρ : LEnv} {σ : Store} {x dx : Addr} {fs : List (Str × Val)} {S : Stm} {Q : Fl → LEnv → Store → Prop} {body : List Stmt} (hbody : ∃ y yp it p rest, (bodyAt 30).drop 5 = .For (.Name y yp) it body [] p :: rest) (hd : 40 ≤ d) (hx : σ x = some (.inst (A 15) dx fs)) (hB : StmB S fs) (hS : S.Low) (r2 : At ρ "statement" (.ref x))
    (q : ∀ ρ' σ', (∀ y v, At ρ y v → (y == ("here" : Str)) = false → (y == ("there" : Str)) = false → (y == ("due" : Str)) = false → (y == ("ran" : Str)) = false → At ρ' y v) → Keep σ σ' → Q .next ρ' σ') : WS c d (scopeAt 30) body ρ σ Q := by
  obtain ⟨y, yp, it, p, rest, hbd⟩ := hbody
  cases hbd
  obtain ⟨d', rfl⟩ : ∃ d', d = d' + 1 := ⟨d - 1, by lia⟩
  obtain ⟨k, R, run, hR2, hRn, hRs⟩ := (seg_s S hS).run (by have := ws_small hS; lia)
  have hlen := so_len hS
  obtain ⟨sh, cl⟩ := notes_shape (sR_ok S)
  refine WS_cons ?_
  refine WX_swap2 ?_
  repeat walk_at "go"
  rename_i hr ho h1 tr to h2
  refine ⟨_, _, rfl, ?_⟩
  have hrt : tr ≠ hr := fun e => by rw [e, Store.set_same] at h2; cases h2
  have h2' : σ tr = none := Keep.noneOf (Keep.new h1) h2
  have K3 : Keep σ ((σ.set hr (.list [] ho)).set tr (.list [] to)) := (Keep.new h1).trans (Keep.new h2)
  have L3 : Live [hr, tr] ((σ.set hr (.list [] ho)).set tr (.list [] to)) := fun a ha e => by
    rcases List.mem_cons.mp ha with rfl | ha
    · rw [Store.set_ne (Ne.symm hrt), Store.set_same] at e; cases e
    · rw [List.mem_singleton.mp ha, Store.set_same] at e; cases e
  have N3 : NotesAt [hr, tr] ((σ.set hr (.list [] ho)).set tr (.list [] to)) hr [] := ⟨[], ho, by rw [Store.set_ne (Ne.symm hrt)]; exact Store.set_same, .nil⟩
  have T3 : NotesAt [hr, tr] ((σ.set hr (.list [] ho)).set tr (.list [] to)) tr [] := ⟨[], to, Store.set_same, .nil⟩
  generalize ((σ.set hr (.list [] ho)).set tr (.list [] to)) = σ3 at L3 N3 T3 K3 ⊢
  have mh : hr ∈ [hr, tr] := by simp
  have mt : tr ∈ [hr, tr] := by simp
  have hx3 := K3 _ _ hx
  repeat walk_at "go"
  refine WX_swap2 ?_
  repeat walk_at "go"
  refine WE_name r2 ?_
  repeat walk_at "go"
  refine ev_spec F S hS (by lia) hx3 hB mh L3 N3 (by simp only [List.length_nil]; lia) fun σ4 K4 N4 => ?_
  have k4 := Keep.fresh K4 K3 h1
  repeat walk_at "go"
  refine WE_name r2 ?_
  repeat walk_at "go"
  refine body_spec F S hS (by lia) (k4 _ _ hx) hB hlen fun σ5 lo k5 n5 io => ?_
  have T5 := (T3.but K4 mh hrt).keep k5
  have N5 := N4.keep k5
  have kk5 := k4.trans k5
  repeat walk_at "go"
  refine run_spec F run hlen (by lia) mt ((L3.step K4 N4).keep k5) T5 io (T5.ne' n5 k5 (T3.but K4 mh hrt)) (fun σ6 K6 T6 e6 => ?_) (fun σ6 l6 s6 h6 K6 T6 e6 i6 n6 => ?_)
  · have N6 := N5.but K6 mt (Ne.symm hrt)
    have kk6 := Keep.fresh K6 kk5 h2'
    rw [hR2] at T6
    have eS : (sR S).2 = none := by
      cases e : (sR S).2 with
      | none => rfl
      | some l => obtain ⟨h, eh, _⟩ := hRs l e; rw [eh] at e6; cases e6
    rw [eS]
    repeat walk_at "go"
    refine ⟨_, _, rfl, ?_⟩
    repeat walk_at "go"
    refine G_neD N6.deep T6.deep sh sh ?_
    rw [List.nil_append, SeqAt.eqv_refl _ cl]
    repeat walk_at "go"
    refine q _ _ (fun y v hy w1 w2 w3 w4 => ?_) kk6
    unfold At at hy ⊢
    simp only [List.lookup_cons, w1, w2, w3, w4]; exact hy
  · have N6 := N5.but K6 mt (Ne.symm hrt)
    have kk6 := Keep.fresh K6 kk5 h2'
    rw [hR2] at T6
    obtain ⟨l, eS⟩ : ∃ l, (sR S).2 = some l := by
      cases e : (sR S).2 with
      | none => rw [hRn e] at e6; cases e6
      | some l => exact ⟨l, rfl⟩
    obtain ⟨h0, eh, _⟩ := hRs l eS
    have hl0 : l = [] := List.eq_nil_of_length_eq_zero ((seg_s S hS).out l eS).1
    subst hl0
    rw [eh] at e6
    cases e6
    obtain ⟨o6, i6⟩ := i6
    rw [eS]
    repeat walk_at "go"
    refine ⟨_, _, rfl, ?_⟩
    repeat walk_at "go"
    refine G_neD N6.deep T6.deep sh sh ?_
    rw [List.nil_append, SeqAt.eqv_refl _ cl]
    repeat walk_at "go"
    rename_i l7 o7 h7
    refine G_neD (e := .list []) (e' := .list []) (.list (Store.old h7 i6) .nil) (.list Store.set_same .nil) (by decide +kernel) (by decide +kernel) ?_
    repeat walk_at "go"
    refine q _ _ (fun y v hy w1 w2 w3 w4 => ?_) (kk6.trans (Keep.new h7))
    unfold At at hy ⊢
    simp only [List.lookup_cons, w1, w2, w3, w4]; exact hy
end

local macro_rules | `(tactic| walk_at "go") => `(tactic| first
  | ((with_reducible show G1 _ _ _ (fun r => getAttr r _ true) (Val.ref _) _ _); refine G_attr (by walk_at "cell") (Facts.a15 (by assumption) _ (by decide)) (by first | assumption | rfl) ?_)
  | ((with_reducible show G2U _ _ _ (fun r x => setAttr r _ x) (Val.ref _) _ _ _); refine G_setAttr (by walk_at "cell") (Facts.a15 (by assumption) _ (by decide)) (Nat.le_of_ble_eq_true rfl) ?_))
section
variable {c : Cx} {A : Nat → Addr} (F : Facts c A)
include F
theorem law_rest {d : Nat} {σ : Store} {b : Addr} {sv : Val} {Q : Fl → LEnv → Store → Prop} (hd : 40 ≤ d) (B : Box σ b) (q : ∀ ρ' σ', Q (.ret (.bool true)) ρ' σ') : WS c d (scopeAt 30) ((bodyAt 30).drop 1) [("box", .ref b), ("script", sv)] σ Q := by
  obtain ⟨d', rfl⟩ : ∃ d', d = d' + 2 := ⟨d - 2, by lia⟩
  generalize hdd : d' + 2 = d at hd ⊢
  refine WS_cons ?_
  refine WX_forRange F.brange (WE_int ⟨3, rfl, by decide, fun i ρ' σ' => At ρ' "box" (.ref b) ∧ Box σ' b, ⟨by rfl, B⟩, fun i ρ' σ' hi ⟨r1, B'⟩ => law_tree_turn F ⟨_, _, _, _, _, rfl⟩ hd B' r1 fun ρ2 σ2 r2 B2 => ⟨r2, B2⟩, fun ρ1 σ1 ⟨r1, B1⟩ => ?_⟩)
  repeat walk_at "go"
  subst hdd
  refine stm_new F fun x dx hx => ?_
  generalize hdd : d' + 2 = d at hd ⊢
  have hxb := B1.ne hx
  have B2 : Box (σ1.set x (.inst (A 15) dx (newF 1 ""))) b := B1.new hx
  repeat walk_at "go"
  refine WX_unpack ?_
  repeat walk_at "go"
  refine ⟨[.tup [.str "name", .str "X"], .tup [.str "name", .str "A"], .bool true], .inl rfl, rfl, ?_⟩
  refine WAs_attr ?_
  repeat walk_at "go"
  refine WAs_attr ?_
  repeat walk_at "go"
  refine WAs_attr ?_
  repeat walk_at "go"
  refine WAs_nil ?_
  repeat walk_at "go"
  simp only [Store.set_set]
  generalize hfs : putF "replacement" (.tup [.str "name", .str "B"]) (putF "is_replaced" (.bool true) (putF "pattern" (.tup [.str "name", .str "A"]) (putF "subject" (.tup [.str "name", .str "X"]) (newF 1 "")))) = fs
  have hB : StmB (.rep (.name .X) (.name .A) (.name .B)) fs := by subst hfs; exact ⟨by rfl, by rfl, by rfl, by rfl⟩
  have B3 : Box (σ1.set x (.inst (A 15) dx fs)) b := B1.new hx
  have hx3 : (σ1.set x (.inst (A 15) dx fs)) x = some (.inst (A 15) dx fs) := Store.set_same
  generalize (σ1.set x (.inst (A 15) dx fs)) = σ2 at B3 hx3 ⊢
  refine WX_for ?_
  repeat walk_at "go"
  rename_i lf of hf
  have hlb := B3.ne hf
  have B4 : Box (σ2.set lf (.list [.ref x] of)) b := B3.new hf
  have hx4 : (σ2.set lf (.list [.ref x] of)) x = some (.inst (A 15) dx fs) := Store.old hf hx3
  have hl4 : (σ2.set lf (.list [.ref x] of)) lf = some (.list [.ref x] of) := Store.set_same
  generalize (σ2.set lf (.list [.ref x] of)) = σ4 at B4 hx4 hl4 ⊢
  refine WE_comp (fn := ["box"]) F.brange (WE_int ⟨4, rfl, by decide, fun i vs σ' => Box σ' b ∧ KeepBut b σ4 σ' ∧ ∃ xs : List Addr, vs = xs.map Val.ref ∧ xs.length = i ∧ ∀ y ∈ xs, ∃ dy gs S, σ' y = some (.inst (A 15) dy gs) ∧ StmB S gs ∧ S.Low, ⟨B4, KeepBut.refl _ _, [], rfl, rfl, fun y hy => by cases hy⟩, ?_, ?_⟩) ?_ ?_ (by decide +kernel) (by decide +kernel) (by decide +kernel) (by decide +kernel)
  · rintro i vs σ₂ C D oC oD hi hCD ⟨Bc, Kc, xs, rfl, hlen, hall⟩ hC hD
    refine CElt_call F.f27.ns F.f27.keep (CA_free r1 (by decide) (by rfl)) CA_var ?_
    obtain ⟨g, k', o, hb, hg, hk'⟩ := Bc
    obtain ⟨nC, nD, hb⟩ := Store.cut_some hb
    subst hdd
    refine stm_draw F (by lia) hi ⟨g, k', o, hb, hg, hk'⟩ fun σ3 y dy gs S hy hy3 hB' hL' hS' B' K' => ⟨K' _ _ (Ne.symm nC) hC, K' _ _ (Ne.symm nD) hD, ?_, ?_, xs ++ [y], by simp, by simp [hlen], fun z hz => ?_⟩
    · obtain ⟨g, k', o, hb, r⟩ := B'
      exact ⟨g, k', o, by rw [Store.cut_ne nC nD]; exact hb, r⟩
    · intro a cc ha e1
      obtain ⟨m1, m2, e2⟩ := Store.cut_some (Kc a cc ha e1)
      rw [Store.cut_ne m1 m2]
      exact K' _ _ ha e2
    · rcases List.mem_append.mp hz with hz | hz
      · obtain ⟨dz, gz, Sz, e1, e2, e3⟩ := hall z hz
        obtain ⟨m1, m2, e1⟩ := Store.cut_some e1
        have hzb : z ≠ b := fun e => by rw [e, hb] at e1; cases e1
        exact ⟨dz, gz, Sz, by rw [Store.cut_ne m1 m2]; exact K' _ _ hzb e1, e2, e3⟩
      · rw [List.mem_singleton.mp hz]
        have yC : y ≠ C := fun e => by rw [e, hC] at hy; cases hy
        have yD : y ≠ D := fun e => by rw [e, hD] at hy; cases hy
        exact ⟨dy, gs, S, by rw [Store.cut_ne yC yD]; exact hy3, hB', hS'⟩
  · rintro vs σ5 l5 o5 ⟨B5, K5, xs, rfl, hlen, hall⟩ hl5
    have hlf5 := K5 _ _ hlb hl4
    have hx5 := K5 _ _ hxb hx4
    refine G_addL (Store.old hl5 hlf5) Store.set_same (fun l6 o6 hl6 => ?_) (by simp only [List.length_map, List.length_cons, List.length_nil, hlen]; decide)
    have K6 : Keep σ5 ((σ5.set l5 (.list (xs.map Val.ref) o5)).set l6 (.list ([.ref x] ++ xs.map Val.ref) o6)) := (Keep.new hl5).trans (Keep.new hl6)
    have hl6' : ((σ5.set l5 (.list (xs.map Val.ref) o5)).set l6 (.list ([.ref x] ++ xs.map Val.ref) o6)) l6 = some (.list ((x :: xs).map Val.ref) o6) := Store.set_same
    have B6 := B5.keep K6
    have hall6 : ∀ y ∈ x :: xs, ∃ dy gs S, ((σ5.set l5 (.list (xs.map Val.ref) o5)).set l6 (.list ([.ref x] ++ xs.map Val.ref) o6)) y = some (.inst (A 15) dy gs) ∧ StmB S gs ∧ S.Low := fun y hy => by
      rcases List.mem_cons.mp hy with rfl | hy
      · exact ⟨dx, fs, _, K6 _ _ hx5, hB, by simp only [Stm.Low, Go.h, Tr.h]; lia⟩
      · obtain ⟨dy, gs, S, e1, e2, e3⟩ := hall y hy
        exact ⟨dy, gs, S, K6 _ _ e1, e2, e3⟩
    generalize ((σ5.set l5 (.list (xs.map Val.ref) o5)).set l6 (.list ([.ref x] ++ xs.map Val.ref) o6)) = σ6 at hl6' B6 hall6 ⊢
    refine ⟨(x :: xs).map Val.ref, .inr ⟨l6, o6, rfl, hl6'⟩, fun i ρ' σ' => At ρ' "box" (.ref b) ∧ Keep σ6 σ', ⟨r1, Keep.refl _⟩, ?_, ?_, ?_⟩
    · rintro l e oo i ρ' σ' e' ⟨_, kk⟩
      cases e
      exact kk _ _ e'
    · rintro i u ρ' σ' hu ⟨rb, kk⟩
      obtain ⟨y, hy, rfl⟩ : ∃ y, (x :: xs)[i]? = some y ∧ Val.ref y = u := by
        rw [List.getElem?_map, Option.map_eq_some_iff] at hu; exact hu
      obtain ⟨dy, gs, S, e1, e2, e3⟩ := hall6 y (List.mem_of_getElem? hy)
      exact law_stm_turn F ⟨_, _, _, _, _, rfl⟩ hd (kk _ _ e1) e2 e3 (by rfl) fun ρ2 σ7 hρ k7 => ⟨hρ _ _ (show At ((_, Val.ref y) :: ρ') "box" (.ref b) from rb) (by decide +kernel) (by decide +kernel) (by decide +kernel) (by decide +kernel), kk.trans k7⟩
    · rintro ρ' σ' ⟨rb, kk⟩
      have B7 := B6.keep kk
      repeat walk_at "go"
      refine WE_name rb ?_
      repeat walk_at "go"
      refine WE_name rb ?_
      repeat walk_at "go"
      subst hdd
      refine take_spec F (m := 4) B7 (by decide) (by decide) fun σ8 i hi B8 K8 => ?_
      repeat walk_at "go"
      refine stm_draw F (by lia) hi B8 fun σ9 y dy gs S hy hy3 hB' hL' hS' B' K' => ?_
      repeat walk_at "go"
      refine right_spec F S hS' (by lia) hy3 hB' hL' (so_len hS') fun σ10 => ?_
      repeat walk_at "go"
      exact q _ _
  · intro f hf hl
    obtain ⟨a1, h1⟩ := hl "box" (by decide)
    refine ⟨[("box", a1)], ?_, ?_⟩
    · unfold closureFor
      simp [cellOf, h1]
    · intro y hy
      rw [List.mem_singleton.mp hy, h1]; rfl
  · intro y hy
    rw [List.mem_singleton.mp hy]
    exact ⟨by rfl, _, r1⟩
end

/- the one shared name of the law's own frame: its first store -/
noncomputable def TSub (N N' : Led) : Prop := ∀ p ∈ N, (∀ v, p.2.data ≠ .cell v) → p ∈ N'
mutual
theorem VRel.ts {N N' : Led} (x : TSub N N') : ∀ {r : Value} {v : Val}, VRel N r v → VRel N' r v
  | _, _, .none => .none
  | _, _, .bool b => .bool b
  | _, _, .int i t => .int i t
  | _, _, .str s t => .str s t
  | _, _, .tup h r => .tup (x _ h (fun v q => by simp [tupObj] at q)) (VRels.ts x r)
  | _, _, .ref a => .ref a
theorem VRels.ts {N N' : Led} (x : TSub N N') : ∀ {rs : List Value} {vs : List Val}, VRels N rs vs → VRels N' rs vs
  | _, _, .nil => .nil
  | _, _, .cons h r => .cons (VRel.ts x h) (VRels.ts x r)
end
theorem FRel.ts {N N' : Led} (x : TSub N N') : ∀ {es : List DictEntry} {fs : List (Str × Val)}, FRel N es fs → FRel N' es fs
  | _, _, .nil => .nil
  | _, _, .cons h r => .cons (h.ts x) (FRel.ts x r)
section
variable {c : Cx} {d : Nat} {cs : Scope} {ρ : LEnv} {σ : Store} {Q : Fl → LEnv → Store → Prop}
theorem first_cell {x : Str} {xp p : Pos} {e : Expr} {rest : List Stmt} {f : Fm} {m : Str → Option Value} {N : Led} {s : Shared} {QC : Flow → Shared → Prop} {ca : Addr} {o : Obj} {v₀ : Option Value}
    (ok : Fm.Ok f c d cs) (I : Inv f m N s.heap σ) (R : LRel f m N ρ) (hρ : ∀ y u, ρ.lookup y = some u → cs.names.lookup y = some .local) (hk : cs.names.lookup x = some .cell) (hca : f.cl.lookup x = some ca) (hm : (ca, o) ∈ N) (ho : o.data = .cell v₀)
    (h : WE c d cs e ρ σ (fun v σ₁ => ∀ σ₂ : Store, (∀ a c, σ₁ a = some c → (∀ oo, c ≠ .raw oo) → σ₂ a = some c) → WS c d cs rest ((x, v) :: ρ) σ₂ Q))
    (k : ∀ g fl ρ' σ' m' h' N' tk', Q fl ρ' σ' → FlRel N' g fl → Inv f m' N' h' σ' → QC g { s with heap := h', toks := tk' })
    (hs : ∀ f : Fm, f.cs = cs → swapsWith e (some (.Name x xp)) p.line f.env = pure false := by intro f h; cases f; cases h; rfl) :
    wpAny (model c.prog c.w) f.around (execs (.Assign [.Name x xp] e p :: rest) f.env) QC noE s := by
  refine wpAny_execs_cons (wpAny_Assign_Name (h f m N s _ ok I R ?_) (hs f ok.hcs))
  intro r v σ₁ h₁ N₁ t₁ q V X I₁
  have hm₁ := X _ hm (stab_cell ho)
  refine wpAny_storeName_cell (by rw [show f.env.scope = f.cs from rfl, ok.hcs]; exact ok.kind) (by show f.cs.names.lookup x = _; rw [ok.hcs]; exact hk) (c := ca) hca ⟨o, (I₁.nw _ hm₁).1, ho⟩ fun h' hv' hs' => ?_
  obtain ⟨o', ho', hd'⟩ := hv'
  obtain ⟨F', N'⟩ := led_upd I₁.fr I₁.nw hm₁ hs' ho'
  have ts : TSub N₁ ((ca, o') :: N₁.filter (fun p => decide (p.1 ≠ ca))) := fun p hp hc => by
    refine List.mem_cons_of_mem _ (List.mem_filter.mpr ⟨hp, ?_⟩)
    have : p.1 ≠ ca := fun e => hc v₀ (by
      have h1 := (I₁.nw _ hp).1
      rw [e, (I₁.nw _ hm₁).1] at h1
      rw [← Option.some.inj h1]; exact ho)
    simpa using this
  have off : ∀ a oo, (a, oo) ∈ N₁ → (∀ v, oo.data ≠ .cell v) → a ≠ ca := fun a oo hp hc e => hc v₀ (by
    have h1 := (I₁.nw _ hp).1
    dsimp only at h1
    rw [e, (I₁.nw _ hm₁).1] at h1
    rw [← Option.some.inj h1]; exact ho)
  have keep : ∀ p ∈ N₁, p.1 ≠ ca → p ∈ (ca, o') :: N₁.filter (fun p => decide (p.1 ≠ ca)) := fun p hp hne => List.mem_cons_of_mem _ (List.mem_filter.mpr ⟨hp, by simpa using hne⟩)
  have g : ∀ z cc, (fun a => if a = ca then none else σ₁ a : Store) z = some cc → z ≠ ca ∧ σ₁ z = some cc := fun z cc e => by
    by_cases hz : z = ca
    · simp [hz] at e
    · simp [hz] at e; exact ⟨hz, e⟩
  refine q (fun a => if a = ca then none else σ₁ a) (fun a cc e hr => ?_) f m _ _ _ ok ⟨F', N', ⟨fun b cc e => ?_, fun b b' C C' dx gs gs' e e' => I₁.st.inj _ _ _ _ _ _ _ (g _ _ e).2 (g _ _ e').2, fun b C dx gs oo e e' => I₁.st.off _ _ _ _ _ (g _ _ e).2 (g _ _ e').2⟩⟩ (fun y u e => ?_) ?_
  · have : a ≠ ca := by
      cases cc with
      | list us o₂ => obtain ⟨arr, n, ho₂, hm₂, _⟩ := I₁.st.cell a _ e; exact off a _ hm₂ (fun v q => by rw [ho₂] at q; simp at q)
      | inst C dx fs => obtain ⟨es, n, h1, h2, _⟩ := I₁.st.cell a _ e; exact off a _ h1 (fun v q => by simp at q)
      | raw oo => exact absurd rfl (hr oo)
    simp [this, e]
  · obtain ⟨hb, e⟩ := g _ _ e
    cases cc with
    | list us o₂ => obtain ⟨arr, n, ho₂, hm₂, hr₂⟩ := I₁.st.cell b _ e; exact ⟨arr, n, ho₂, keep _ hm₂ hb, hr₂.ts ts⟩
    | inst C dx fs => obtain ⟨es, n, h1, h2, hr₂⟩ := I₁.st.cell b _ e; exact ⟨es, n, keep _ h1 hb, keep _ h2 (off dx _ h2 (fun v q => by simp at q)), hr₂.ts ts⟩
    | raw oo => exact ⟨keep _ (I₁.st.cell b _ e).1 hb, (I₁.st.cell b _ e).2⟩
  · rw [List.lookup_cons] at e
    by_cases hy : y = x
    · subst hy
      simp at e
      subst e
      exact .cell (by rw [ok.hcs]; exact hk) hca List.mem_cons_self (stab_cell hd') hd' (V.ts ts)
    · have hb : (y == x) = false := by simpa using hy
      rw [hb] at e
      cases R y u e with
      | loc a b c => exact .loc a b ((c.ext X).ts ts)
      | cell a _ _ _ _ _ => rw [ok.hcs, hρ y u e] at a; cases a
  · intro gg fl ρ₂ σ₂ m₂ h₂ N₂ tk₂ q₂ V₂ X₂ I₂ R₂
    exact k gg fl ρ₂ σ₂ m₂ h₂ N₂ tk₂ q₂ V₂ I₂
end
section
variable {c : Cx} {A : Nat → Addr} (F : Facts c A)
include F
theorem law_first {d : Nat} {σ : Store} {Q : Fl → LEnv → Store → Prop} (hd : 40 ≤ d) (hz : c.svs.length ≤ sizeLine) (q : ∀ ρ' σ', Q (.ret (.bool true)) ρ' σ') {e : Expr} (he : ∃ t xp p rest, bodyAt 30 = .Assign [.Name t xp] e p :: rest) :
    WE c d (scopeAt 30) e [("script", .ref c.sa)] σ (fun v σ₁ => ∀ σ₂ : Store, (∀ a c, σ₁ a = some c → (∀ oo, c ≠ .raw oo) → σ₂ a = some c) → WS c d (scopeAt 30) ((bodyAt 30).drop 1) (("box", v) :: [("script", .ref c.sa)]) σ₂ Q) := by
  obtain ⟨t, xp, p, rest, hb⟩ := he
  cases hb
  obtain ⟨d', rfl⟩ : ∃ d', d = d' + 1 := ⟨d - 1, by lia⟩
  repeat walk_at "go"
  refine tot_spec F hz fun σ1 g hg K1 => ?_
  repeat walk_at "go"
  rename_i b ob hb
  intro σ₂ hk
  exact law_rest F hd ⟨g, 0, ob, hk _ _ Store.set_same (fun oo q => by cases q), hg, Int.le_refl _⟩ q
end
section
variable {c : Cx} {A : Nat → Addr} (F : Facts c A)
include F
theorem law_frame {f : Fm} {s : Shared} {m : Str → Option Value} {o : Obj} {v₀ : Option Value} (ok : Fm.Ok f c 40 (scopeAt 30)) (F₀ : Fr f.h₀ f.L s.heap m) (nw : News f.h₀ f.L s.heap [(f.L + 1, o)]) (ho : o.data = .cell v₀) (hcl : f.cl.lookup ("box" : Str) = some (f.L + 1)) (hm : m "script" = some (.ref c.sa)) (hz : c.svs.length ≤ sizeLine) :
    wpAny (model c.prog c.w) f.around (execs (bodyAt 30) f.env) (fun fl s' => fl = .ret (.bool true) ∧ ∃ h' m' tk, s' = { s with heap := h', toks := tk } ∧ Fr f.h₀ f.L h' m') noE s := by
  obtain ⟨xp, e, p, hb⟩ : ∃ xp e p, bodyAt 30 = .Assign [.Name "box" xp] e p :: (bodyAt 30).drop 1 := ⟨_, _, _, rfl⟩
  have h1 := law_first F (d := 40) (σ := fun _ => none) (Q := fun fl _ _ => fl = .ret (.bool true)) (Nat.le_refl _) hz (fun _ _ => rfl) ⟨_, _, _, _, hb⟩
  rw [hb]
  refine first_cell ok (N := [(f.L + 1, o)]) ⟨F₀, nw, ⟨(fun a c e => (by cases e)), (fun a b C C' dx fs fs' e => (by cases e)), (fun a C dx fs o e => (by cases e))⟩⟩ (fun y u e => ?_) (fun y u e => ?_) (by rfl) hcl List.mem_cons_self ho h1 ?_ (fun f hf => ?_)
  · rw [List.lookup_cons] at e
    by_cases hy : y = ("script" : Str)
    · subst hy
      simp at e
      subst e
      exact .loc (by rw [ok.hcs]; rfl) hm (.ref _)
    · have hb : (y == ("script" : Str)) = false := by simpa using hy
      rw [hb] at e; cases e
  · rw [List.lookup_cons] at e
    by_cases hy : y = ("script" : Str)
    · subst hy; rfl
    · have hb : (y == ("script" : Str)) = false := by simpa using hy
      rw [hb] at e; cases e
  · intro g fl ρ' σ' m' h' N' tk' q V I
    subst q
    cases V with | ret V => cases V with | bool => exact ⟨rfl, h', m', tk', rfl, I.fr⟩
  · cases hb; cases f; cases hf; rfl
end

end Mine
theorem PySem.Challenge.cw_np0293_01_holds : PySem.Challenge.rw_np0293_01.Holds := by
  w_on
  refine Mine.lawOf0 fun said => ?_
  refine holds_open (q := Mine.q0) (loose := Mine.loose0) (Xt := fun s => xlAt Mine.q0 [] s && recOk [] s) (XP := XL Mine.q0 []) (Yf := Mine.hook0.obs) (Ya := Mine.hook0.val) (YP := Mine.hook0.says) (N := 3110) Mine.left0 Mine.hook0.of Mine.hook0.keeps (fun s e => xl_of s (Bool.and_eq_true_iff.mp e).1) XL.keeps (by rfl) (by rfl) (by rfl) (fun s e => recFacts_of (Bool.and_eq_true_iff.mp e).2) (by rfl) (by first | assumption | decide +kernel) (by decide +kernel) ⟨rfl, rfl, rfl, rfl, rfl, by decide +kernel⟩ ?hw ?hc
  case hw => w_witness2
  intro w s₀ s₁ mg mb G Y fa o pm cd doc dV kV ho hd hcd hD hmg hg args vals as hpre hlay hrd hwl hlo
  have KX := kIn_of Y
  refine Ground.open G ?_
  intro T B D TE TW
  obtain ⟨_, _, M⟩ := bmod_of_top T
  have TA := at_of_top T
  obtain ⟨_, _, he, B0⟩ := based_of_top T rfl hmg ho hd
  have he' : cd = _ := he
  subst he'; clear he
  clear hmg
  wrow_args hpre hlay hrd hwl hlo
  refine enter_call ?_
  w_top on
  try refine codeAny_mono ?_ (fun _ _ g => GoodW.toG g)
  have K1 := below_caller (Top.heap T)
  w_call any ho hd hcd hD T F
  clear hd TA
  rename Fr _ _ _ _ => hF
  rename News _ _ _ _ => hN
  rename IntsAre _ _ => hI
  rename Heap.IsList _ _ _ => hLs
  rename _ = Data.cell _ => hcell
  rename (¬ (_ < _)) => hlen
  have hz : ∀ {vs : List Value} {ns : List Int}, IntsAre vs ns → ¬ ((63 : Nat) : Int) < (ns.length : Int) → vs.length ≤ sizeLine := fun h q => by
    have h1 := (Mine.ints_vrels (N := []) h).length
    rw [List.length_map] at h1
    have : sizeLine = 16777216 := rfl
    lia
  refine wpAny_mono (Mine.law_frame (c := ⟨_, w, Mine.K0 w.params, Mine.q0, looseW Mine.q0 Mine.loose0, ExcName.means s₀.heap, mg, mb, _, _, _⟩) (A := Mine.A0) (Mine.facts0 _ w.params rfl)
    (f := ⟨callerA.depth + 1, callerA.units + 3, "law", Mine.scopeAt 30, s₁.heap.objs.size, fa, _, cellsFrom (s₁.heap.objs.size + 1) (Mine.scopeAt 30).names [], [], callerA, s₁.heap, s₁.heap⟩)
    ⟨K1, KX, T, rfl, rfl, (show callerA.depth + 1 + 40 < recursionLimit by decide +kernel), (show callerA.units + 3 + 8 * 40 + 200 < cLine by decide +kernel), hLs, hI⟩ hF hN hcell rfl rfl (hz hI hlen)) ?_ (fun _ _ x => x.elim)
  rintro fl s' ⟨rfl, h', m', tk, rfl, F'⟩
  clear hF hN hcell
  show GoodW _ _ _ _ _ (Except.ok (Flow.ret (Value.bool true))) _
  wrow_close
