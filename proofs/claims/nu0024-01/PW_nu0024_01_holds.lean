import PyProof.Rows.All
import Wide.All
import OpenK.AllK
import Wide.FinOn
import PySem.Challenge.RW_nu0024_01
open PySem PySem.W PyProof.Rows
set_option Elab.async false
set_option maxRecDepth 100000
set_option maxHeartbeats 0
set_option linter.all false
namespace Mine
local macro_rules | `(tactic| omega) => `(tactic| lia)
/-- tree values: what a name may hold -/
inductive V where
  | none
  | bool (b : Bool)
  | int (i : Int)
  | str (s : Str)
  | bytes (b : List UInt8)
  | tup (l : List V)
  | list (l : List V)
  | dict (l : List (Int × Int))
  | inst (c : Str) (f : List (Str × V))
  | rng (a b : Int)
  | ref (i : Nat)

abbrev Vars := List (Str × V)
abbrev Mu := List (Addr × List Addr)

structure FnInfo where
  args : List Arg
  body : List Stmt
  names : List (Str × NameKind)
  keep : Bool

structure Frm where
  names : List (Str × NameKind)
  keep : Bool
  low : Nat

/-- reading through a reference -/
noncomputable def look (hp : List V) : V → V
  | .ref i => hp.getD i .none
  | v => v

noncomputable def asInts : List V → Option (List Int)
  | [] => some []
  | .int i :: r => (asInts r).map (i :: ·)
  | _ => Option.none

noncomputable def dget (l : List (Int × Int)) (k : Int) : Option Int := (l.find? fun p => p.1 = k).map (·.2)
noncomputable def dput (l : List (Int × Int)) (k v : Int) : List (Int × Int) :=
  if l.any (fun p => p.1 = k) then l.map (fun p => if p.1 = k then (p.1, v) else p) else l ++ [(k, v)]

/-- an index into a row of n, as Python takes it -/
noncomputable def idx (n : Nat) (i : Int) : Option Nat := if 0 ≤ i then (if i < n then some i.toNat else Option.none) else if 0 ≤ i + n then some (i + n).toNat else Option.none

noncomputable def fnOfStmt (x : Str) : Stmt → Option FnInfo
  | .FunctionDef n a b _ _ _ sc _ _ _ => if n = x then some ⟨a.args, b, sc.names, x = Str.ofString "_law_pool"⟩ else Option.none
  | _ => Option.none
noncomputable def defIn (x : Str) : List Stmt → Option FnInfo
  | [] => Option.none
  | s :: r => match fnOfStmt x s with
    | some f => some f
    | Option.none => defIn x r
noncomputable def clsBody (x : Str) : List Stmt → List Stmt
  | [] => []
  | .ClassDef n _ _ b _ _ _ _ _ _ _ :: r => if n = x then b else clsBody x r
  | _ :: r => clsBody x r
noncomputable def top : List Stmt := PySem.Challenge.pw_nu0024_01.main.body
noncomputable def fi0 : FnInfo := ⟨[], [], [], false⟩
noncomputable def methOf (c x : Str) : FnInfo := (defIn x (clsBody c top)).getD fi0
noncomputable def defOf (x : Str) : FnInfo := (defIn x top).getD fi0

noncomputable def fnNames : List String := ["u16", "u32", "put16", "put32", "part_of", "first_from", "read_map", "read_rows", "read_cmap", "write_format_0", "write_format_6", "runs_of", "is_even_run",
  "write_format_4", "exponent_of", "write_format_12", "write_map", "write_cmap", "_law_pool", "_law_take", "_law_one", "_law_codes", "_law_beside", "_law_map_right", "_law_fell"]
noncomputable def clsNames : List String := ["ByteMap", "TrimmedMap", "SegmentMap", "GroupMap"]
noncomputable def isFnName (x : Str) : Bool := fnNames.any fun y => x = Str.ofString y
noncomputable def isClsName (x : Str) : Bool := clsNames.any fun y => x = Str.ofString y
noncomputable def fieldNames : List String := ["octets", "glyphs", "first", "ends", "starts", "deltas", "begin", "offsets"]
noncomputable def isField (x : Str) : Bool := fieldNames.any fun y => x = Str.ofString y

noncomputable def tupV (l : List Int) : V := .tup (l.map V.int)
noncomputable def bestV : V := .tup [tupV [3, 10], tupV [0, 4], tupV [0, 3], tupV [3, 1], tupV [0, 1], tupV [0, 0], tupV [3, 0], tupV [1, 0]]

noncomputable def setV : Vars → Str → V → Vars
  | [], x, v => [(x, v)]
  | (y, u) :: r, x, v => if y = x then (y, v) :: r else (y, u) :: setV r x v

noncomputable def fits (n : Int) : Bool := -1152921504606846976 ≤ n && n ≤ 1152921504606846976

noncomputable def natsB (l : List Int) : Option (List UInt8) := if l.all fun i => decide (0 ≤ i ∧ i < 256) then some (l.map fun i => UInt8.ofNat i.toNat) else Option.none

noncomputable def asBytesL : List V → Option (List (List UInt8))
  | [] => some []
  | .bytes b :: r => (asBytesL r).map (b :: ·)
  | _ => Option.none

noncomputable def rising : List Int → Bool
  | [] => true
  | [_] => true
  | a :: b :: r => decide (a < b) && rising (b :: r)

noncomputable def rowLt (x y : Int × Int × List UInt8) : Bool := x.1 < y.1 || (x.1 == y.1 && x.2.1 < y.2.1)
noncomputable def rowIns (x : Int × Int × List UInt8) : List (Int × Int × List UInt8) → List (Int × Int × List UInt8)
  | [] => [x]
  | y :: r => if rowLt y x then y :: rowIns x r else x :: y :: r
noncomputable def rowSort (l : List (Int × Int × List UInt8)) : List (Int × Int × List UInt8) := l.foldr rowIns []
noncomputable def rowV (x : Int × Int × List UInt8) : V := .tup [.int x.1, .int x.2.1, .bytes x.2.2]
/-- no two rows of one platform and encoding -/
noncomputable def apart : List (Int × Int × List UInt8) → Bool
  | [] => true
  | x :: r => r.all (fun y => !(x.1 == y.1 && x.2.1 == y.2.1)) && apart r

noncomputable def rngItems (a b : Int) : List V := (List.range (b - a).toNat).map fun (i : Nat) => V.int (a + i)

noncomputable def relNames (parent names : List (Str × NameKind)) : List (Str × NameKind) :=
  names.map fun (n, k) => if (k == .free && parent.lookup n == some .cell) then (n, .cell) else (n, k)
noncomputable def compNamesOk (parent names : List (Str × NameKind)) : Bool :=
  names.all fun (n, k) => n != ("__debug__" : Str) && n != ("__classdict__" : Str) && ((k == .local && names.lookup n == some .local) || (k == .free && (parent.lookup n == some .cell || parent.lookup n == some .free)) || k == .globalImplicit)
noncomputable def capV (names : List (Str × NameKind)) (vs : Vars) : Vars := vs.filter fun p => names.lookup p.1 == some .free

noncomputable def frzV (k : Nat) (hp : List V) : V → V
  | .ref i => if i < k then .ref i else hp.getD i .none
  | v => v
noncomputable def frzVars (k : Nat) (hp : List V) (vs : Vars) : Vars := vs.map fun p => (p.1, frzV k hp p.2)

noncomputable def isPlainV : V → Bool
  | .ref _ => false
  | _ => true
/-- what a list's own elements may be: no row that may change -/
noncomputable def allPlain (l : List V) : Bool := l.all isPlainV

noncomputable def nodupB (l : List Int) : Bool := match l with
  | [] => true
  | a :: r => !(r.contains a) && nodupB r
noncomputable def nodupS (l : List Str) : Bool := match l with
  | [] => true
  | a :: r => !(r.contains a) && nodupS r
noncomputable def noStar (es : List Expr) : Bool := es.all fun e => match e with
  | .Starred .. => false
  | _ => true
noncomputable def setHp (hp : List V) (i : Nat) (v : V) : List V := hp.set i v
/-- a tuple of values whose stores the model orders -/
noncomputable def foldOk (es : List Expr) : Bool := !(es.all (constantsAlone 8)) || es.all (foldedForSure 8)

structure Cx where
  prog : Program
  w : World
  K : Frag
  base : Heap
  p : Program
  loose : List Str
  mg : Str → Option Value
  mb : Str → Option Value
  os : OsState
  inK : K.In base
  top : TopRead p loose mg mb base

inductive DictI : List (Int × Value) → List (Int × Int) → Prop
  | nil : DictI [] []
  | cons (k i : Int) (t : Tok) {kvs l} : DictI kvs l → DictI ((k, .int i t) :: kvs) ((k, i) :: l)

mutual
inductive VR (C : Cx) (h : Heap) (μ : Mu) (D : List Addr) : V → Value → Prop
  | none : VR C h μ D .none .none
  | bool (b : Bool) : VR C h μ D (.bool b) (.bool b)
  | int (i : Int) (t : Tok) : VR C h μ D (.int i) (.int i t)
  | str (s : Str) (t : Tok) : VR C h μ D (.str s) (.str s t)
  | bytes (b : List UInt8) (t : Tok) : VR C h μ D (.bytes b) (.bytes b.toArray t)
  | ref (i : Nat) (a : Addr) (fp : List Addr) : μ[i]? = some (a, fp) → VR C h μ D (.ref i) (.ref a)
  | obj (v : V) (fp : List Addr) (a : Addr) : CR C h μ D v fp a → (∀ b ∈ fp, b ∉ D) → VR C h μ D v (.ref a)
inductive CR (C : Cx) (h : Heap) (μ : Mu) (D : List Addr) : V → List Addr → Addr → Prop
  | tup (l : List V) (xs : List Value) (a : Addr) (n : Nat) : h.get? a = some ⟨.type "tuple", none, .seq xs.toArray n, #[]⟩ → VRs C h μ D l xs → allPlain l = true → CR C h μ D (.tup l) [a] a
  | list (l : List V) (xs : List Value) (a : Addr) (n : Nat) : h.get? a = some ⟨.type "list", none, .seq xs.toArray n, #[]⟩ → VRs C h μ D l xs → allPlain l = true → CR C h μ D (.list l) [a] a
  | dict (l : List (Int × Int)) (kvs : List (Int × Value)) (a : Addr) (o : Obj) : (a == sysModules) = false → h.get? a = some o → o.IsDictOf (intKind C.prog C.w) kvs → DictI kvs l → CR C h μ D (.dict l) [a] a
  | inst (c : Str) (f : List (Str × V)) (a d cl : Addr) (es : List DictEntry) (n : Nat) : nsIn C.K mainGlobals c = some (some (.ref cl)) → h.get? a = some (instObj cl d) → h.get? d = some (dictOf es n) → Ents C h μ D es f → CR C h μ D (.inst c f) [a, d] a
  | rng (x y : Int) (a : Addr) (t u v : Tok) : IsRange h a x y 1 t u v → CR C h μ D (.rng x y) [a] a
inductive VRs (C : Cx) (h : Heap) (μ : Mu) (D : List Addr) : List V → List Value → Prop
  | nil : VRs C h μ D [] []
  | cons (v : V) (x : Value) (l : List V) (xs : List Value) : VR C h μ D v x → VRs C h μ D l xs → VRs C h μ D (v :: l) (x :: xs)
inductive Ents (C : Cx) (h : Heap) (μ : Mu) (D : List Addr) : List DictEntry → List (Str × V) → Prop
  | nil : Ents C h μ D [] []
  | cons (x : Str) (t : Tok) (hs : Int) (val : Value) (v : V) (es : List DictEntry) (f : List (Str × V)) : VR C h μ D v val → isPlainV v = true → Ents C h μ D es f → Ents C h μ D (⟨hs, .str x t, val⟩ :: es) ((x, v) :: f)
end

theorem none_ne {α : Type} {x : Option α} {a : α} (h : x = none) (e : x = some a) : False := by rw [h] at e; cases e
section
variable {C : Cx} {h h' : Heap} {μ μ' : Mu} {D D' : List Addr}

/-- what a row is, read off the tree value -/
noncomputable def CInv (C : Cx) (h : Heap) (μ : Mu) (D : List Addr) (v : V) (fp : List Addr) (a : Addr) : Prop := match v with
  | .tup l => fp = [a] ∧ ∃ xs n, h.get? a = some ⟨.type "tuple", none, .seq xs.toArray n, #[]⟩ ∧ VRs C h μ D l xs ∧ allPlain l = true
  | .list l => fp = [a] ∧ ∃ xs n, h.get? a = some ⟨.type "list", none, .seq xs.toArray n, #[]⟩ ∧ VRs C h μ D l xs ∧ allPlain l = true
  | .dict l => fp = [a] ∧ ∃ kvs o, (a == sysModules) = false ∧ h.get? a = some o ∧ o.IsDictOf (intKind C.prog C.w) kvs ∧ DictI kvs l
  | .inst c f => ∃ d cl es n, fp = [a, d] ∧ nsIn C.K mainGlobals c = some (some (.ref cl)) ∧ h.get? a = some (instObj cl d) ∧ h.get? d = some (dictOf es n) ∧ Ents C h μ D es f
  | .rng x y => fp = [a] ∧ ∃ t u v, IsRange h a x y 1 t u v
  | _ => False
theorem CR.inv {v : V} {fp : List Addr} {a : Addr} (c : CR C h μ D v fp a) : CInv C h μ D v fp a :=
  CR.casesOn (motive_2 := fun v fp a _ => CInv C h μ D v fp a) c (fun _ xs _ n e r p => ⟨rfl, xs, n, e, r, p⟩) (fun _ xs _ n e r p => ⟨rfl, xs, n, e, r, p⟩) (fun _ kvs _ o ns e d i => ⟨rfl, kvs, o, ns, e, d, i⟩)
    (fun _ _ _ d cl es n g e1 e2 r => ⟨d, cl, es, n, rfl, g, e1, e2, r⟩) (fun _ _ _ t u v e => ⟨rfl, t, u, v, e⟩)
noncomputable def VInv (C : Cx) (h : Heap) (μ : Mu) (D : List Addr) (v : V) (x : Value) : Prop := match v with
  | .none => x = .none
  | .bool b => x = .bool b
  | .int i => ∃ t, x = .int i t
  | .str s => ∃ t, x = .str s t
  | .bytes b => ∃ t, x = .bytes b.toArray t
  | .ref i => ∃ a fp, x = .ref a ∧ μ[i]? = some (a, fp)
  | v => ∃ a fp, x = .ref a ∧ CR C h μ D v fp a ∧ ∀ b ∈ fp, b ∉ D
theorem VR.inv {v : V} {x : Value} (r : VR C h μ D v x) : VInv C h μ D v x :=
  VR.casesOn (motive_1 := fun v x _ => VInv C h μ D v x) r rfl (fun _ => rfl) (fun _ t => ⟨t, rfl⟩) (fun _ t => ⟨t, rfl⟩) (fun _ t => ⟨t, rfl⟩) (fun _ a fp e => ⟨a, fp, rfl, e⟩) fun v fp a c n => by
    cases v <;> first | exact ⟨a, fp, rfl, c, n⟩ | exact c.inv.elim
noncomputable def ListInv (C : Cx) (h : Heap) (μ : Mu) (D : List Addr) (l : List V) (xs : List Value) : Prop := match l with
  | [] => xs = []
  | v :: l => ∃ y ys, xs = y :: ys ∧ VR C h μ D v y ∧ VRs C h μ D l ys
theorem VRs.inv {l : List V} {xs : List Value} (r : VRs C h μ D l xs) : ListInv C h μ D l xs :=
  VRs.casesOn (motive_3 := fun l xs _ => ListInv C h μ D l xs) r rfl fun _ y _ ys a r => ⟨y, ys, rfl, a, r⟩

theorem CR.there {v : V} {fp : List Addr} {a : Addr} (x : CR C h μ D v fp a) : ∀ b ∈ fp, ∃ o, h.get? b = some o :=
  have one : ∀ {a : Addr} {o : Obj}, h.get? a = some o → ∀ b ∈ [a], ∃ o, h.get? b = some o := fun e b hb => ⟨_, (List.mem_singleton.mp hb).symm ▸ e⟩
  CR.casesOn (motive_2 := fun _ fp _ _ => ∀ b ∈ fp, ∃ o, h.get? b = some o) x (fun _ _ _ _ e _ _ => one e) (fun _ _ _ _ e _ _ => one e) (fun _ _ _ _ _ e _ _ => one e)
    (fun _ _ _ _ _ _ _ _ e1 e2 _ b hb => (List.mem_cons.mp hb).elim (fun q => ⟨_, q.symm ▸ e1⟩) (one e2 b)) (fun _ _ _ _ _ _ e => one e)

/-- the rows are carried over: heap, table of references, rows that may change -/
theorem mono_all (k : ∀ b o, b ∉ D → h.get? b = some o → h'.get? b = some o) (hμ : ∀ (i : Nat) (x : Addr × List Addr), μ[i]? = some x → μ'[i]? = some x) (hD : ∀ b ∈ D', b ∈ D ∨ h.get? b = Option.none) :
    (∀ {v x}, VR C h μ D v x → VR C h' μ' D' v x) ∧ (∀ {v fp a}, CR C h μ D v fp a → (∀ b ∈ fp, ∀ o, h.get? b = some o → h'.get? b = some o) → CR C h' μ' D' v fp a) ∧ (∀ {l xs}, VRs C h μ D l xs → VRs C h' μ' D' l xs) ∧ (∀ {es f}, Ents C h μ D es f → Ents C h' μ' D' es f) := by
  have m7 : ∀ (v : V) (fp : List Addr) (a : Addr), CR C h μ D v fp a → (∀ b ∈ fp, b ∉ D) → ((∀ b ∈ fp, ∀ o, h.get? b = some o → h'.get? b = some o) → CR C h' μ' D' v fp a) → VR C h' μ' D' v (.ref a) := fun v fp a x n ih =>
    .obj v fp a (ih fun b hb o e => k b o (n b hb) e) fun b hb hm => (hD b hm).elim (n b hb) fun q => let ⟨o, e⟩ := x.there b hb; none_ne q e
  have s1 : ∀ a : Addr, a ∈ [a] := fun a => List.mem_singleton.mpr rfl
  let K (fp : List Addr) := ∀ b ∈ fp, ∀ o, h.get? b = some o → h'.get? b = some o
  have c1 : ∀ l xs a n, h.get? a = some ⟨.type "tuple", none, .seq xs.toArray n, #[]⟩ → VRs C h μ D l xs → allPlain l = true → VRs C h' μ' D' l xs → K [a] → CR C h' μ' D' (.tup l) [a] a := fun l xs a n e _ pl r kf => .tup l xs a n (kf a (s1 a) _ e) r pl
  have c2 : ∀ l xs a n, h.get? a = some ⟨.type "list", none, .seq xs.toArray n, #[]⟩ → VRs C h μ D l xs → allPlain l = true → VRs C h' μ' D' l xs → K [a] → CR C h' μ' D' (.list l) [a] a := fun l xs a n e _ pl r kf => .list l xs a n (kf a (s1 a) _ e) r pl
  have c3 : ∀ l kvs a o, (a == sysModules) = false → h.get? a = some o → o.IsDictOf (intKind C.prog C.w) kvs → DictI kvs l → K [a] → CR C h' μ' D' (.dict l) [a] a := fun l kvs a o ns e d i kf => .dict l kvs a o ns (kf a (s1 a) _ e) d i
  have c4 : ∀ c f a d cl es n, nsIn C.K mainGlobals c = some (some (.ref cl)) → h.get? a = some (instObj cl d) → h.get? d = some (dictOf es n) → Ents C h μ D es f → Ents C h' μ' D' es f → K [a, d] → CR C h' μ' D' (.inst c f) [a, d] a :=
    fun c f a d cl es n g e1 e2 _ r kf => .inst c f a d cl es n g (kf a (List.mem_cons_self ..) _ e1) (kf d (List.mem_cons_of_mem _ (s1 d)) _ e2) r
  have c5 : ∀ x y a t u v, IsRange h a x y 1 t u v → K [a] → CR C h' μ' D' (.rng x y) [a] a := fun x y a t u v e kf => .rng x y a t u v (kf a (s1 a) _ e)
  have l2 : ∀ v x l xs, VR C h μ D v x → VRs C h μ D l xs → VR C h' μ' D' v x → VRs C h' μ' D' l xs → VRs C h' μ' D' (v :: l) (x :: xs) := fun v x l xs _ _ => .cons v x l xs
  have e2 : ∀ x t hs val v es f, VR C h μ D v val → isPlainV v = true → Ents C h μ D es f → VR C h' μ' D' v val → Ents C h' μ' D' es f → Ents C h' μ' D' (⟨hs, .str x t, val⟩ :: es) ((x, v) :: f) := fun x t hs val v es f _ pl _ a r => .cons x t hs val v es f a pl r
  have f1 : ∀ (i : Nat) (a : Addr) (fp : List Addr), μ[i]? = some (a, fp) → VR C h' μ' D' (.ref i) (.ref a) := fun i a fp e => .ref i a fp (hμ _ _ e)
  exact ⟨fun r => VR.rec (motive_1 := fun v x _ => VR C h' μ' D' v x) (motive_2 := fun v fp a _ => K fp → CR C h' μ' D' v fp a) (motive_3 := fun l xs _ => VRs C h' μ' D' l xs) (motive_4 := fun es f _ => Ents C h' μ' D' es f) VR.none VR.bool VR.int VR.str VR.bytes f1 m7 c1 c2 c3 c4 c5 VRs.nil l2 Ents.nil e2 r,
    fun r => CR.rec (motive_1 := fun v x _ => VR C h' μ' D' v x) (motive_2 := fun v fp a _ => K fp → CR C h' μ' D' v fp a) (motive_3 := fun l xs _ => VRs C h' μ' D' l xs) (motive_4 := fun es f _ => Ents C h' μ' D' es f) VR.none VR.bool VR.int VR.str VR.bytes f1 m7 c1 c2 c3 c4 c5 VRs.nil l2 Ents.nil e2 r,
    fun r => VRs.rec (motive_1 := fun v x _ => VR C h' μ' D' v x) (motive_2 := fun v fp a _ => K fp → CR C h' μ' D' v fp a) (motive_3 := fun l xs _ => VRs C h' μ' D' l xs) (motive_4 := fun es f _ => Ents C h' μ' D' es f) VR.none VR.bool VR.int VR.str VR.bytes f1 m7 c1 c2 c3 c4 c5 VRs.nil l2 Ents.nil e2 r,
    fun r => Ents.rec (motive_1 := fun v x _ => VR C h' μ' D' v x) (motive_2 := fun v fp a _ => K fp → CR C h' μ' D' v fp a) (motive_3 := fun l xs _ => VRs C h' μ' D' l xs) (motive_4 := fun es f _ => Ents C h' μ' D' es f) VR.none VR.bool VR.int VR.str VR.bytes f1 m7 c1 c2 c3 c4 c5 VRs.nil l2 Ents.nil e2 r⟩
theorem VR.mono (k : ∀ b o, b ∉ D → h.get? b = some o → h'.get? b = some o) (hμ : ∀ (i : Nat) (x : Addr × List Addr), μ[i]? = some x → μ'[i]? = some x) (hD : ∀ b ∈ D', b ∈ D ∨ h.get? b = Option.none) {v : V} {x : Value} (r : VR C h μ D v x) : VR C h' μ' D' v x := (mono_all k hμ hD).1 r
theorem CR.mono (k : ∀ b o, b ∉ D → h.get? b = some o → h'.get? b = some o) (hμ : ∀ (i : Nat) (x : Addr × List Addr), μ[i]? = some x → μ'[i]? = some x) (hD : ∀ b ∈ D', b ∈ D ∨ h.get? b = Option.none) {v : V} {fp : List Addr} {a : Addr} (r : CR C h μ D v fp a)
    (kf : ∀ b ∈ fp, ∀ o, h.get? b = some o → h'.get? b = some o) : CR C h' μ' D' v fp a := (mono_all k hμ hD).2.1 r kf
theorem VRs.mono (k : ∀ b o, b ∉ D → h.get? b = some o → h'.get? b = some o) (hμ : ∀ (i : Nat) (x : Addr × List Addr), μ[i]? = some x → μ'[i]? = some x) (hD : ∀ b ∈ D', b ∈ D ∨ h.get? b = Option.none) {l : List V} {xs : List Value} (r : VRs C h μ D l xs) : VRs C h' μ' D' l xs := (mono_all k hμ hD).2.2.1 r
theorem Ents.mono (k : ∀ b o, b ∉ D → h.get? b = some o → h'.get? b = some o) (hμ : ∀ (i : Nat) (x : Addr × List Addr), μ[i]? = some x → μ'[i]? = some x) (hD : ∀ b ∈ D', b ∈ D ∨ h.get? b = Option.none) {es : List DictEntry} {f : List (Str × V)} (r : Ents C h μ D es f) : Ents C h' μ' D' es f := (mono_all k hμ hD).2.2.2 r

/-- a value that is no reference does not ask the table -/
theorem anyμ_all : (∀ {v x}, VR C h μ D v x → isPlainV v = true → VR C h μ' D v x) ∧ (∀ {v fp a}, CR C h μ D v fp a → CR C h μ' D v fp a) := by
  have f1 : ∀ (i : Nat) (a : Addr) (fp : List Addr), μ[i]? = some (a, fp) → isPlainV (.ref i) = true → VR C h μ' D (.ref i) (.ref a) := fun i a fp e p => Bool.noConfusion p
  have m7 : ∀ (v : V) (fp : List Addr) (a : Addr), CR C h μ D v fp a → (∀ b ∈ fp, b ∉ D) → CR C h μ' D v fp a → isPlainV v = true → VR C h μ' D v (.ref a) := fun v fp a _ n c _ => .obj v fp a c n
  have c1 : ∀ l xs a n, h.get? a = some ⟨.type "tuple", none, .seq xs.toArray n, #[]⟩ → VRs C h μ D l xs → allPlain l = true → (allPlain l = true → VRs C h μ' D l xs) → CR C h μ' D (.tup l) [a] a := fun l xs a n e _ pl r => .tup l xs a n e (r pl) pl
  have c2 : ∀ l xs a n, h.get? a = some ⟨.type "list", none, .seq xs.toArray n, #[]⟩ → VRs C h μ D l xs → allPlain l = true → (allPlain l = true → VRs C h μ' D l xs) → CR C h μ' D (.list l) [a] a := fun l xs a n e _ pl r => .list l xs a n e (r pl) pl
  have c3 : ∀ l kvs a o, (a == sysModules) = false → h.get? a = some o → o.IsDictOf (intKind C.prog C.w) kvs → DictI kvs l → CR C h μ' D (.dict l) [a] a := fun l kvs a o ns e d i => .dict l kvs a o ns e d i
  have c4 : ∀ c f a d cl es n, nsIn C.K mainGlobals c = some (some (.ref cl)) → h.get? a = some (instObj cl d) → h.get? d = some (dictOf es n) → Ents C h μ D es f → Ents C h μ' D es f → CR C h μ' D (.inst c f) [a, d] a := fun c f a d cl es n g e1 e2 _ r => .inst c f a d cl es n g e1 e2 r
  have c5 : ∀ x y a t u v, IsRange h a x y 1 t u v → CR C h μ' D (.rng x y) [a] a := fun x y a t u v e => .rng x y a t u v e
  have l2 : ∀ v x l xs, VR C h μ D v x → VRs C h μ D l xs → (isPlainV v = true → VR C h μ' D v x) → (allPlain l = true → VRs C h μ' D l xs) → allPlain (v :: l) = true → VRs C h μ' D (v :: l) (x :: xs) := fun v x l xs _ _ a r p =>
    have p : (isPlainV v && l.all isPlainV) = true := p
    .cons v x l xs (a (Bool.and_eq_true_iff.mp p).1) (r (Bool.and_eq_true_iff.mp p).2)
  have e2 : ∀ x t hs val v es f, VR C h μ D v val → isPlainV v = true → Ents C h μ D es f → (isPlainV v = true → VR C h μ' D v val) → Ents C h μ' D es f → Ents C h μ' D (⟨hs, .str x t, val⟩ :: es) ((x, v) :: f) := fun x t hs val v es f _ pl _ a r => .cons x t hs val v es f (a pl) pl r
  exact ⟨fun r => VR.rec (motive_1 := fun v x _ => isPlainV v = true → VR C h μ' D v x) (motive_2 := fun v fp a _ => CR C h μ' D v fp a) (motive_3 := fun l xs _ => allPlain l = true → VRs C h μ' D l xs) (motive_4 := fun es f _ => Ents C h μ' D es f) (fun _ => VR.none) (fun b _ => VR.bool b) (fun i t _ => VR.int i t) (fun i t _ => VR.str i t) (fun i t _ => VR.bytes i t) f1 m7 c1 c2 c3 c4 c5 (fun _ => VRs.nil) l2 Ents.nil e2 r,
    fun r => CR.rec (motive_1 := fun v x _ => isPlainV v = true → VR C h μ' D v x) (motive_2 := fun v fp a _ => CR C h μ' D v fp a) (motive_3 := fun l xs _ => allPlain l = true → VRs C h μ' D l xs) (motive_4 := fun es f _ => Ents C h μ' D es f) (fun _ => VR.none) (fun b _ => VR.bool b) (fun i t _ => VR.int i t) (fun i t _ => VR.str i t) (fun i t _ => VR.bytes i t) f1 m7 c1 c2 c3 c4 c5 (fun _ => VRs.nil) l2 Ents.nil e2 r⟩
theorem VR.anyμ {v : V} {x : Value} (r : VR C h μ D v x) (p : isPlainV v = true) : VR C h μ' D v x := anyμ_all.1 r p
theorem CR.anyμ {v : V} {fp : List Addr} {a : Addr} (r : CR C h μ D v fp a) : CR C h μ' D v fp a := anyμ_all.2 r
/-- a value, when some rows are let go or frozen -/
theorem VR.less {v : V} {x : Value} (r : VR C h μ D v x) (p : isPlainV v = true) (hD : ∀ b ∈ D', b ∈ D) : VR C h μ' D' v x :=
  VR.mono (μ := μ') (fun _ _ _ e => e) (fun _ _ e => e) (fun b hb => .inl (hD b hb)) (r.anyμ p)
theorem CR.less {v : V} {fp : List Addr} {a : Addr} (r : CR C h μ D v fp a) (hD : ∀ b ∈ D', b ∈ D) : CR C h μ' D' v fp a :=
  CR.mono (μ := μ') (fun _ _ _ e => e) (fun _ _ e => e) (fun b hb => .inl (hD b hb)) r.anyμ fun _ _ _ e => e

theorem VRs.length {l : List V} : ∀ {xs : List Value}, VRs C h μ D l xs → l.length = xs.length := by
  induction l with
  | nil => intro xs r; have q : xs = [] := r.inv; rw [q]; rfl
  | cons v l ih => intro xs r; obtain ⟨y, ys, q, a, r⟩ : ∃ y ys, xs = y :: ys ∧ VR C h μ D v y ∧ VRs C h μ D l ys := r.inv; rw [q]; exact congrArg Nat.succ (ih r)
theorem VRs.append {l l' : List V} {xs' : List Value} : ∀ {xs : List Value}, VRs C h μ D l xs → VRs C h μ D l' xs' → VRs C h μ D (l ++ l') (xs ++ xs') := by
  induction l with
  | nil => intro xs r r'; have q : xs = [] := r.inv; rw [q]; exact r'
  | cons v l ih => intro xs r r'; obtain ⟨y, ys, q, a, r⟩ : ∃ y ys, xs = y :: ys ∧ VR C h μ D v y ∧ VRs C h μ D l ys := r.inv; rw [q]; exact .cons _ _ _ _ a (ih r r')
theorem VRs.get {l : List V} : ∀ {xs : List Value}, VRs C h μ D l xs → ∀ i : Nat, i < l.length → ∃ x, xs[i]? = some x ∧ VR C h μ D (l.getD i .none) x := by
  induction l with
  | nil => exact fun _ i hi => absurd hi (Nat.not_lt_zero i)
  | cons v l ih =>
    intro xs r
    obtain ⟨y, ys, q, a, r⟩ : ∃ y ys, xs = y :: ys ∧ VR C h μ D v y ∧ VRs C h μ D l ys := r.inv
    rw [q]
    intro i hi
    cases i with
    | zero => exact ⟨y, rfl, a⟩
    | succ i => exact ih r i (Nat.lt_of_succ_lt_succ hi)
theorem VRs.one {v : V} {xs : List Value} (r : VRs C h μ D [v] xs) : ∃ x, xs = [x] ∧ VR C h μ D v x :=
  let ⟨y, ys, q, a, r⟩ : ∃ y ys, xs = y :: ys ∧ VR C h μ D v y ∧ VRs C h μ D [] ys := r.inv
  have z : ys = [] := r.inv
  ⟨y, z ▸ q, a⟩
theorem VRs.two {v u : V} {xs : List Value} (r : VRs C h μ D [v, u] xs) : ∃ x y, xs = [x, y] ∧ VR C h μ D v x ∧ VR C h μ D u y :=
  let ⟨y, ys, q, a, r⟩ : ∃ y ys, xs = y :: ys ∧ VR C h μ D v y ∧ VRs C h μ D [u] ys := r.inv
  let ⟨z, e, b⟩ := r.one
  ⟨y, z, e ▸ q, a, b⟩
theorem VRs.ints : ∀ {is : List Int} {xs : List Value}, VRs C h μ D (is.map V.int) xs → IntsAre xs is
  | [], xs, r => have q : xs = [] := r.inv; q ▸ .nil
  | i :: is, xs, r =>
    let ⟨y, ys, q, a, r⟩ : ∃ y ys, xs = y :: ys ∧ VR C h μ D (.int i) y ∧ VRs C h μ D (is.map V.int) ys := r.inv
    let ⟨t, e⟩ : ∃ t, y = .int i t := a.inv
    q ▸ e ▸ .cons _ _ (VRs.ints r)
theorem ints_vrs : ∀ {xs : List Value} {is : List Int}, IntsAre xs is → VRs C h μ D (is.map V.int) xs
  | _, _, .nil => .nil
  | _, _, .cons n t r => .cons _ _ _ _ (.int _ _) (ints_vrs r)
theorem ints_plain (is : List Int) : allPlain (is.map V.int) = true := by
  induction is with
  | nil => rfl
  | cons a l ih => exact ih
end

noncomputable abbrev Cx.M (C : Cx) : Model := model C.prog C.w

structure Fm where
  env : Env
  A : Around
  fenv : Env
  outer : List Env
  L : Addr
  own : List Addr
  prot : List Addr
  nss : List Addr := []

noncomputable def muA (μ : Mu) : List Addr := μ.flatMap (·.2)
noncomputable def Fm.D (fm : Fm) (μ : Mu) : List Addr := fm.own ++ muA μ ++ fm.prot

structure FmOk (F : Frm) (fm : Fm) : Prop where
  kind : fm.env.scope.kind = .function
  names : fm.env.scope.names = F.names
  fkind : fm.fenv.scope.kind = .function
  frames : fm.A.frames = some (fm.fenv :: fm.outer)
  handled : fm.A.handled = none
  frame : fm.env.frame = some fm.L
  fframe : fm.fenv.frame = some fm.L
  glob : fm.env.globals = mainGlobals
  blt : fm.env.builtins = builtinsNs
  loc : fm.env.locals ∈ fm.own
  fin : ∀ e ∈ fm.fenv :: fm.outer, ∀ L, e.frame = some L → L ∈ fm.own ++ fm.prot
  nodbg : F.names.lookup ("__debug__" : Str) = none
  noclsd : F.names.lookup ("__classdict__" : Str) = none

noncomputable def Room (A : Around) (n : Nat) : Prop := A.depth + 3 * n < recursionLimit ∧ A.units + 10 * n + 100 < cLine

structure Rel (C : Cx) (fm : Fm) (μ : Mu) (vs : Vars) (hp : List V) (s : Shared) : Prop where
  base : C.base.StaysIn s.heap
  ff : s.heap.FunFrames C.base (fm.fenv :: fm.outer)
  nd : (fm.D μ).Nodup
  fr : ∀ a ∈ fm.D μ, C.base.get? a = none ∧ ∃ o, s.heap.get? a = some o
  ns : ∃ m, s.heap.Ns fm.env.locals m ∧ ∀ x v, vs.lookup x = some v → fm.env.kindOf x = some .local → ∃ val, m x = some val ∧ VR C s.heap μ (fm.D μ) v val
  cel : ∀ x, (fm.env.kindOf x = some .cell ∨ fm.env.kindOf x = some .free) → ∃ c o, fm.env.cells.lookup x = some c ∧ s.heap.IsCell c o ∧ (c ∈ fm.own ++ fm.prot ∧ c ≠ fm.env.locals) ∧ ∀ v, vs.lookup x = some v → ∃ val, o = some val ∧ VR C s.heap μ (fm.D μ) v val
  hps : hp.length = μ.length ∧ ∀ (i : Nat) v, hp[i]? = some v → ∃ a fp, μ[i]? = some (a, fp) ∧ CR C s.heap μ (fm.D μ) v fp a ∧ isPlainV v = true
  gens : s.gens = #[]
  os : s.os = C.os
  above : C.base.objs.size ≤ fm.env.locals
  nss : ∀ a ∈ fm.nss, a ∈ fm.own ++ fm.prot ∧ ∃ m, s.heap.Ns a m

structure Step (fm : Fm) (μ : Mu) (s : Shared) (μ' : Mu) (s' : Shared) : Prop where
  keep : ∀ b o, b ∉ fm.own → b ∉ muA μ → s.heap.get? b = some o → s'.heap.get? b = some o
  pre : ∃ ν, μ' = μ ++ ν ∧ ∀ b ∈ muA ν, s.heap.get? b = none
  live : ∀ b o, s.heap.get? b = some o → ∃ o', s'.heap.get? b = some o'

theorem muA_append (μ ν : Mu) : muA (μ ++ ν) = muA μ ++ muA ν := List.flatMap_append ..

theorem Step.refl (fm : Fm) (μ : Mu) (s : Shared) : Step fm μ s μ s := ⟨fun _ _ _ _ e => e, ⟨[], by simp, by simp [muA]⟩, fun _ o e => ⟨o, e⟩⟩
theorem Step.trans {fm : Fm} {μ μ' μ'' : Mu} {s s' s'' : Shared} (x : Step fm μ s μ' s') (y : Step fm μ' s' μ'' s'') : Step fm μ s μ'' s'' := by
  obtain ⟨k, ⟨ν, rfl, hν⟩, sm⟩ := x
  obtain ⟨k', ⟨ν', rfl, hν'⟩, sm'⟩ := y
  refine ⟨fun b o h1 h2 e => k' b o h1 (fun hm => ?_) (k b o h1 h2 e), ⟨ν ++ ν', by simp, fun b hb => ?_⟩, fun b o e => ?_⟩
  · rw [muA_append] at hm
    rcases List.mem_append.mp hm with q | q
    · exact h2 q
    · rw [hν b q] at e; cases e
  · rw [muA_append] at hb
    rcases List.mem_append.mp hb with q | q
    · exact hν b q
    · cases e : s.heap.get? b with
      | none => rfl
      | some o => obtain ⟨o', e'⟩ := sm b o e; rw [hν' b q] at e'; cases e'
  · obtain ⟨o', e'⟩ := sm b o e; exact sm' b o' e'

theorem some_pair {α β : Type} {x : Option (α × β)} {a a' : α} {b b' : β} (h : x = some (a, b)) (h2 : x = some (a', b')) : a = a' ∧ b = b' := Prod.mk.inj (Option.some.inj (h.symm.trans h2))
section
variable {C : Cx} {F : Frm} {fm : Fm} {μ μ' μ₀ : Mu} {vs vs' : Vars} {hp hp' : List V} {s s' s₀ : Shared} {A : Around} {Q : Value → Shared → Prop} {QB : Bool → Shared → Prop} {QL : List Value → Shared → Prop} {E : Value → Shared → Prop} {n : Nat}

theorem mem_D {b : Addr} : b ∈ fm.D μ ↔ b ∈ fm.own ∨ b ∈ muA μ ∨ b ∈ fm.prot := by
  simp [Fm.D, or_assoc]

theorem Step.vr (x : Step fm μ s μ' s') {v : V} {val : Value} (r : VR C s.heap μ (fm.D μ) v val) : VR C s'.heap μ' (fm.D μ') v val := by
  obtain ⟨k, ⟨ν, rfl, hν⟩, _⟩ := x
  refine VR.mono (fun b o hb e => ?_) (fun i x e => ?_) (fun b hb => ?_) r
  · rw [mem_D] at hb; exact k b o (fun q => hb (.inl q)) (fun q => hb (.inr (.inl q))) e
  · rw [List.getElem?_append_left]; exact e; exact (List.getElem?_eq_some_iff.mp e).1
  · rw [mem_D, muA_append] at hb
    rcases hb with q | q | q
    · exact .inl (mem_D.mpr (.inl q))
    · rcases List.mem_append.mp q with q | q
      · exact .inl (mem_D.mpr (.inr (.inl q)))
      · exact .inr (hν b q)
    · exact .inl (mem_D.mpr (.inr (.inr q)))
theorem Step.vrs (x : Step fm μ s μ' s') {l : List V} {xs : List Value} (r : VRs C s.heap μ (fm.D μ) l xs) : VRs C s'.heap μ' (fm.D μ') l xs := by
  obtain ⟨k, ⟨ν, rfl, hν⟩, _⟩ := x
  refine VRs.mono (fun b o hb e => ?_) (fun i x e => ?_) (fun b hb => ?_) r
  · rw [mem_D] at hb; exact k b o (fun q => hb (.inl q)) (fun q => hb (.inr (.inl q))) e
  · rw [List.getElem?_append_left]; exact e; exact (List.getElem?_eq_some_iff.mp e).1
  · rw [mem_D, muA_append] at hb
    rcases hb with q | q | q
    · exact .inl (mem_D.mpr (.inl q))
    · rcases List.mem_append.mp q with q | q
      · exact .inl (mem_D.mpr (.inr (.inl q)))
      · exact .inr (hν b q)
    · exact .inl (mem_D.mpr (.inr (.inr q)))
/-- nothing is changed, something may be new -/
theorem Rel.keeps (R : Rel C fm μ vs hp s) (k : ∀ b o, s.heap.get? b = some o → s'.heap.get? b = some o) (hg : s'.gens = s.gens := by rfl) (ho : s'.os = s.os := by rfl) : Rel C fm μ vs hp s' ∧ Step fm μ s μ s' := by
  have st : Step fm μ s μ s' := ⟨fun b o _ _ e => k b o e, ⟨[], by simp, by simp [muA]⟩, fun b o e => ⟨o, k b o e⟩⟩
  refine ⟨⟨fun b o e => k b o (R.base b o e), R.ff.of_keeps fun b o e _ => ⟨o, k b o e, rfl⟩, R.nd, fun a ha => ?_, ?_, fun x hx => ?_, ⟨R.hps.1, fun i v e => ?_⟩, hg.trans R.gens, ho.trans R.os, R.above, fun a ha => let ⟨x, m, n⟩ := R.nss a ha; ⟨x, m, n.keeps k⟩⟩, st⟩
  · obtain ⟨a1, o, a2⟩ := R.fr a ha; exact ⟨a1, o, k _ _ a2⟩
  · obtain ⟨m, n, hm⟩ := R.ns
    exact ⟨m, n.keeps k, fun x v e hk => let ⟨val, a, b⟩ := hm x v e hk; ⟨val, a, st.vr b⟩⟩
  · obtain ⟨c, o, a, b, d, e⟩ := R.cel x hx
    exact ⟨c, o, a, b.keeps k, d, fun v hv => let ⟨val, p, q⟩ := e v hv; ⟨val, p, st.vr q⟩⟩
  · obtain ⟨a, fp, e1, e2, e3⟩ := R.hps.2 i v e
    exact ⟨a, fp, e1, CR.mono (fun b o _ e => k b o e) (fun _ _ e => e) (fun b hb => .inl hb) e2 (fun b _ o e => k b o e), e3⟩

theorem Rel.toks (R : Rel C fm μ vs hp s) (t : Nat) : Rel C fm μ vs hp { s with toks := t } ∧ Step fm μ s μ { s with toks := t } := R.keeps (fun _ _ e => e)
noncomputable def faultCls (C : Cx) (cls : Value) : Prop := nsIn C.K mainGlobals "FontFault" = some (some cls)

noncomputable def FlyL (base : Heap) (l : List Env) (L : Addr) (e : Addr) (cls : Value) (h : Heap) : Prop :=
  base.StaysIn h ∧ base.get? e = none ∧ h.FunFrames base l ∧ ∃ oe vs T oT ts t3, h.get? e = some oe ∧ oe.cls = cls ∧ oe.data = .fields vs ∧ vs[1]? = some (.ref T) ∧ base.get? T = none ∧ T ≠ e ∧
    h.get? T = some oT ∧ oT.data = .fields ts ∧ ts[3]? = some t3 ∧ (t3 = Value.none ∨ t3 = rawInt L)

noncomputable def Fly (C : Cx) (fm : Fm) (x : Value) (s : Shared) : Prop := ∃ e cls, x = .ref e ∧ faultCls C cls ∧ FlyL C.base (fm.fenv :: fm.outer) fm.L e cls s.heap ∧ s.gens = #[] ∧ s.os = C.os ∧ ∀ a ∈ fm.nss, ∃ m, s.heap.Ns a m


/-- what follows an expression that gives v -/
noncomputable def OK1 (C : Cx) (fm : Fm) (vs : Vars) (μ : Mu) (s : Shared) (v : V) (hp' : List V) (Q : Value → Shared → Prop) : Prop := ∀ s' μ' val, Step fm μ s μ' s' → Rel C fm μ' vs hp' s' → VR C s'.heap μ' (fm.D μ') v val → Q val s'
theorem OK1.trans (st : Step fm μ s μ' s') {v : V} (h : OK1 C fm vs μ s v hp Q) : OK1 C fm vs μ' s' v hp Q := fun s2 μ2 val st' R r => h s2 μ2 val (st.trans st') R r
theorem OK1.ok_toks (R : Rel C fm μ vs hp s) {v : V} {val : Value} {t : Nat} (h : OK1 C fm vs μ s v hp Q) (r : VR C s.heap μ (fm.D μ) v val) : Q val { s with toks := t } :=
  h _ μ _ (R.toks t).2 (R.toks t).1 r
theorem OK1.ok_here (R : Rel C fm μ vs hp s) {v : V} {val : Value} (h : OK1 C fm vs μ s v hp Q) (r : VR C s.heap μ (fm.D μ) v val) : Q val s :=
  h _ μ _ (Step.refl ..) R r

/-- a new row, never changed again -/
theorem Rel.push (R : Rel C fm μ vs hp s) (o : Obj) : Rel C fm μ vs hp { s with heap := s.heap.push o } ∧ Step fm μ s μ { s with heap := s.heap.push o } :=
  R.keeps (s' := { s with heap := s.heap.push o }) (fun _ _ e => Heap.get?_push_of_some o e)
theorem Rel.newNot (R : Rel C fm μ vs hp s) {a : Addr} (h : s.heap.objs.size ≤ a) : a ∉ fm.D μ := fun hm => by
  obtain ⟨_, o, e⟩ := R.fr a hm
  exact absurd (Heap.lt_size e) (Nat.not_lt.mpr h)
theorem OK1.ok_push (R : Rel C fm μ vs hp s) {v : V} {o : Obj} {t : Nat} (h : OK1 C fm vs μ s v hp Q)
    (r : CR C (s.heap.push o) μ (fm.D μ) v [s.heap.objs.size] s.heap.objs.size) : Q (.ref s.heap.objs.size) { s with heap := s.heap.push o, toks := t } :=
  let ⟨R1, S1⟩ := R.push o
  let ⟨R2, S2⟩ := R1.toks t
  h _ μ _ (S1.trans S2) R2 (.obj _ _ _ r fun b hb => List.mem_singleton.mp hb ▸ R.newNot (Nat.le_refl _))

theorem lookup_setV : ∀ (vs : Vars) (x y : Str) (v : V), (setV vs x v).lookup y = if y = x then some v else vs.lookup y
  | [], x, y, v => by
    by_cases h : y = x
    · subst h; simp [setV]
    · have : (y == x) = false := by simpa using h
      simp [setV, List.lookup_cons, this, h]
  | (z, u) :: r, x, y, v => by
    unfold setV
    by_cases hz : z = x
    · subst hz
      rw [if_pos rfl]
      by_cases h : y = z
      · subst h; simp
      · have : (y == z) = false := by simpa using h
        simp [List.lookup_cons, this, h]
    · rw [if_neg hz]
      by_cases h : y = z
      · subst h; simp [hz]
      · have : (y == z) = false := by simpa using h
        simp only [List.lookup_cons, this]
        exact lookup_setV r x y v

theorem loc_D (ok : FmOk F fm) : fm.env.locals ∈ fm.D μ := mem_D.mpr (.inl ok.loc)

theorem FunFrames.change {h h' base : Heap} : ∀ {l : List Env}, h.FunFrames base l → (∀ L, (∃ e ∈ l, e.frame = some L) → ∀ o, h.get? L = some o → (∀ vs, o.data ≠ .fields vs) → ∃ o', h'.get? L = some o' ∧ ∀ vs, o'.data ≠ .fields vs) → h'.FunFrames base l
  | [], _, _ => trivial
  | env :: l, ⟨a, ⟨L, o, e1, e2, e3, e4⟩, r⟩, k => by
    obtain ⟨o', p, q⟩ := k L ⟨env, by simp, e1⟩ o e3 e4
    exact ⟨a, ⟨L, o', e1, e2, p, q⟩, FunFrames.change r fun L' ⟨e, he, hf⟩ => k L' ⟨e, List.mem_cons_of_mem _ he, hf⟩⟩

/-- the own names are rewritten, the rest stays -/
theorem Rel.names (ok : FmOk F fm) (R : Rel C fm μ vs hp s) {m' : Str → Option Value} (hx : Heap.ExtBut fm.env.locals s.heap s'.heap) (hn : s'.heap.Ns fm.env.locals m')
    (hg : s'.gens = s.gens) (ho : s'.os = s.os)
    (h1 : ∀ x v, vs'.lookup x = some v → fm.env.kindOf x = some .local → ∃ val, m' x = some val ∧ VR C s'.heap μ (fm.D μ) v val)
    (h2 : ∀ x, fm.env.kindOf x ≠ some .local → vs'.lookup x = vs.lookup x) : Rel C fm μ vs' hp s' ∧ Step fm μ s μ s' := by
  have st : Step fm μ s μ s' := ⟨fun b o n _ e => hx b o (fun q => n (q ▸ ok.loc)) e, ⟨[], by simp, by simp [muA]⟩, fun b o e => by
    by_cases q : b = fm.env.locals
    · subst q; obtain ⟨o', _, _, e', _⟩ := hn; exact ⟨o', e'⟩
    · exact ⟨o, hx b o q e⟩⟩
  have nb : ∀ b o, C.base.get? b = some o → b ≠ fm.env.locals := fun b o e q => by
    have := (R.fr _ (loc_D ok)).1; rw [← q, e] at this; cases this
  refine ⟨⟨fun b o e => hx b o (nb b o e) (R.base b o e), ?_, R.nd, fun a ha => ⟨(R.fr a ha).1, let ⟨_, o, e⟩ := R.fr a ha; st.live a o e⟩, ⟨m', hn, h1⟩, fun x hx' => ?_, ⟨R.hps.1, fun i v e => ?_⟩, hg.trans R.gens, ho.trans R.os, R.above, fun a ha => ⟨(R.nss a ha).1, by
    by_cases q : a = fm.env.locals
    · exact q ▸ ⟨m', hn⟩
    · obtain ⟨_, m, n⟩ := R.nss a ha; exact ⟨m, n.at' fun o e => hx a o q e⟩⟩⟩, st⟩
  · refine FunFrames.change R.ff fun L _ o e n => ?_
    by_cases q : L = fm.env.locals
    · subst q; obtain ⟨o', es, ep, e', d, _⟩ := hn; exact ⟨o', e', fun vs q => by rw [d] at q; cases q⟩
    · exact ⟨o, hx L o q e, n⟩
  · obtain ⟨c, o, a, b, d, e⟩ := R.cel x hx'
    obtain ⟨ob, e1, e2⟩ := b
    refine ⟨c, o, a, ⟨ob, hx c ob d.2 e1, e2⟩, d, fun v hv => ?_⟩
    rw [h2 x (by rcases hx' with q | q <;> rw [q] <;> decide)] at hv
    obtain ⟨val, p, q⟩ := e v hv
    exact ⟨val, p, st.vr q⟩
  · obtain ⟨a, fp, e1, e2, e3⟩ := R.hps.2 i v e
    refine ⟨a, fp, e1, CR.mono (fun b o n e => hx b o (fun q => n (q ▸ loc_D ok)) e) (fun _ _ e => e) (fun b hb => .inl hb) e2 (fun b hb o e => hx b o (fun q => ?_) e), e3⟩
    -- the rows that may change are not the names
    have hm : b ∈ muA μ := List.mem_flatMap.mpr ⟨(a, fp), List.mem_of_getElem? e1, hb⟩
    have := R.nd
    rw [Fm.D, List.append_assoc, List.nodup_append] at this
    exact this.2.2 b (q ▸ ok.loc) b (List.mem_append_left _ hm) rfl

/-- nothing of ours is changed: a rule of the library that speaks of `Fr` and `News` -/
theorem Rel.bridge (ok : FmOk F fm) (R : Rel C fm μ vs hp s) : ∃ m news, Fr C.base fm.env.locals s.heap m ∧ News C.base fm.env.locals s.heap news ∧ (∀ b o, b ≠ fm.env.locals → C.base.get? b = none → s.heap.get? b = some o → (b, o) ∈ news) ∧
    ∀ h' tk, Fr C.base fm.env.locals h' m → (∀ p ∈ news, h'.get? p.1 = some p.2) → Rel C fm μ vs hp { s with heap := h', toks := tk } ∧ Step fm μ s μ { s with heap := h', toks := tk } := by
  obtain ⟨m, hn, hm⟩ := R.ns
  refine ⟨m, (List.range s.heap.objs.size).filterMap (fun a => if a = fm.env.locals ∨ (C.base.get? a).isSome then none else (s.heap.get? a).map fun o => (a, o)), ⟨hn, R.base, R.above⟩, fun p hp => ?_, fun b o n1 n2 e => ?_, fun h' tk F' N' => ?_⟩
  · obtain ⟨a, _, ha⟩ := List.mem_filterMap.mp hp
    split at ha
    · cases ha
    · rename_i hne
      cases e : s.heap.get? a with
      | none => rw [e] at ha; cases ha
      | some o =>
        rw [e] at ha; cases ha
        refine ⟨e, fun q => hne (.inl q), ?_⟩
        cases q : C.base.get? a with
        | none => rfl
        | some o' => exact absurd (.inr (by rw [q]; rfl)) hne
  · refine List.mem_filterMap.mpr ⟨b, List.mem_range.mpr (Heap.lt_size e), ?_⟩
    rw [if_neg (by rw [n2]; simp [n1]), e]; rfl
  · refine Rel.names ok R (s' := { s with heap := h', toks := tk }) (fun b o n e => ?_) F'.ns rfl rfl (fun x v e k => ?_) (fun _ _ => rfl)
    · cases q : C.base.get? b with
      | some o' => have := R.base b o' q; rw [e] at this; cases this; exact F'.keep b _ q
      | none => exact N' (b, o) (List.mem_filterMap.mpr ⟨b, List.mem_range.mpr (Heap.lt_size e), by rw [if_neg (by rw [q]; simp [n]), e]; rfl⟩)
    · obtain ⟨val, a, r⟩ := hm x v e k
      refine ⟨val, a, VR.mono (fun b o n e => ?_) (fun _ _ e => e) (fun b hb => .inl hb) r⟩
      have nl : b ≠ fm.env.locals := fun q => n (q ▸ loc_D ok)
      cases q : C.base.get? b with
      | some o' => have := R.base b o' q; rw [e] at this; cases this; exact F'.keep b _ q
      | none => exact N' (b, o) (List.mem_filterMap.mpr ⟨b, List.mem_range.mpr (Heap.lt_size e), by rw [if_neg (by rw [q]; simp [nl]), e]; rfl⟩)
theorem mu_apart : ∀ {μ : Mu}, (muA μ).Nodup → ∀ {i j : Nat} {a a' : Addr} {fp fp' : List Addr}, μ[i]? = some (a, fp) → μ[j]? = some (a', fp') → i ≠ j → ∀ b ∈ fp, b ∉ fp'
  | [], _, i, j, a, a', fp, fp', e, _, _ => by simp at e
  | p :: μ, h, i, j, a, a', fp, fp', e1, e2, ne => by
    have h' : (p.2 ++ muA μ).Nodup := h
    rw [List.nodup_append] at h'
    cases i with
    | zero =>
      cases j with
      | zero => exact absurd rfl ne
      | succ j =>
        simp at e1 e2; subst e1
        intro b hb hb'
        exact h'.2.2 b hb b (List.mem_flatMap.mpr ⟨_, List.mem_of_getElem? e2, hb'⟩) rfl
    | succ i =>
      cases j with
      | zero =>
        simp at e1 e2; subst e2
        intro b hb hb'
        exact h'.2.2 b hb' b (List.mem_flatMap.mpr ⟨_, List.mem_of_getElem? e1, hb⟩) rfl
      | succ j => simp at e1 e2; exact mu_apart h'.2.1 e1 e2 (fun q => ne (by rw [q]))

theorem fp_mu {i : Nat} {a : Addr} {fp : List Addr} (e : μ[i]? = some (a, fp)) {b : Addr} (hb : b ∈ fp) : b ∈ muA μ := List.mem_flatMap.mpr ⟨(a, fp), List.mem_of_getElem? e, hb⟩

theorem D_parts (R : Rel C fm μ vs hp s) : (muA μ).Nodup ∧ (∀ b ∈ fm.own, b ∉ muA μ) ∧ (∀ b ∈ fm.prot, b ∉ muA μ) ∧ (∀ b ∈ fm.own, b ∉ fm.prot) := by
  have := R.nd
  rw [Fm.D, List.nodup_append, List.nodup_append] at this
  obtain ⟨⟨h1, h2, h3⟩, h4, h5⟩ := this
  exact ⟨h2, fun b hb hm => h3 b hb b hm rfl, fun b hb hm => h5 b (List.mem_append_right _ hm) b hb rfl, fun b hb hm => h5 b (List.mem_append_left _ hb) b hm rfl⟩

/-- one row is rewritten, and the names' row may move -/
theorem Rel.mutF (ok : FmOk F fm) (R : Rel C fm μ vs hp s) {i : Nat} {a : Addr} {fp : List Addr} {v : V} {m : Str → Option Value} (hμ : μ[i]? = some (a, fp)) (hx : ∀ b o, b ∉ fp → b ≠ fm.env.locals → s.heap.get? b = some o → s'.heap.get? b = some o)
    (hn : s'.heap.Ns fm.env.locals m) (hm : ∀ x v, vs.lookup x = some v → fm.env.kindOf x = some .local → ∃ val, m x = some val ∧ VR C s.heap μ (fm.D μ) v val)
    (hc : CR C s'.heap μ (fm.D μ) v fp a) (pl : isPlainV v = true) (hg : s'.gens = s.gens := by rfl) (ho : s'.os = s.os := by rfl) : Rel C fm μ vs (setHp hp i v) s' ∧ Step fm μ s μ s' := by
  obtain ⟨nm, no, np, nop⟩ := D_parts R
  have inD : ∀ b ∈ fp, b ∈ fm.D μ := fun b hb => mem_D.mpr (.inr (.inl (fp_mu hμ hb)))
  have st : Step fm μ s μ s' := ⟨fun b o n1 n2 e => hx b o (fun q => n2 (fp_mu hμ q)) (fun q => n1 (q ▸ ok.loc)) e, ⟨[], by simp, by simp [muA]⟩, fun b o e => by
    by_cases q : b ∈ fp
    · exact hc.there b q
    · by_cases ql : b = fm.env.locals
      · subst ql; obtain ⟨o', _, _, e', _⟩ := hn; exact ⟨o', e'⟩
      · exact ⟨o, hx b o q ql e⟩⟩
  have opn : ∀ b, b ∈ fm.own ++ fm.prot → b ∉ fp := fun b hb hf => by
    rcases List.mem_append.mp hb with q | q
    · exact no b q (fp_mu hμ hf)
    · exact np b q (fp_mu hμ hf)
  have nb : ∀ b o, C.base.get? b = some o → b ≠ fm.env.locals := fun b o e q => by
    have := (R.fr _ (loc_D ok)).1; rw [← q, e] at this; cases this
  refine ⟨⟨fun b o e => hx b o (fun q => by have := (R.fr b (inD b q)).1; rw [e] at this; cases this) (nb b o e) (R.base b o e), ?_, R.nd, fun b hb => ⟨(R.fr b hb).1, let ⟨_, o, e⟩ := R.fr b hb; st.live b o e⟩, ⟨m, hn, fun x v e k => let ⟨val, p, r⟩ := hm x v e k; ⟨val, p, st.vr r⟩⟩, fun x hx' => ?_, ⟨?_, fun j v' e => ?_⟩, hg.trans R.gens, ho.trans R.os, R.above, fun a ha => ?_⟩, st⟩
  · refine FunFrames.change R.ff fun L ⟨e, he, hf⟩ o e1 n => ?_
    by_cases q : L = fm.env.locals
    · subst q; obtain ⟨o', es, ep, e', d, _⟩ := hn; exact ⟨o', e', fun vs q => by rw [d] at q; cases q⟩
    · exact ⟨o, hx L o (opn L (ok.fin e he L hf)) q e1, n⟩
  · obtain ⟨c, o, p, q, d, e⟩ := R.cel x hx'
    obtain ⟨ob, e1, e2⟩ := q
    exact ⟨c, o, p, ⟨ob, hx c ob (opn c d.1) d.2 e1, e2⟩, d, fun v hv => let ⟨val, x1, x2⟩ := e v hv; ⟨val, x1, st.vr x2⟩⟩
  · unfold setHp; rw [List.length_set]; exact R.hps.1
  · unfold setHp at e
    by_cases q : i = j
    · subst q
      have hl : i < hp.length := by rw [R.hps.1]; exact (List.getElem?_eq_some_iff.mp hμ).1
      rw [List.getElem?_set_self hl] at e; cases e
      exact ⟨a, fp, hμ, hc, pl⟩
    · rw [List.getElem?_set_ne q] at e
      obtain ⟨a', fp', e1, e2, e3⟩ := R.hps.2 j v' e
      refine ⟨a', fp', e1, CR.mono (fun b o n e => hx b o (fun q => n (inD b q)) (fun q => n (q ▸ loc_D ok)) e) (fun _ _ e => e) (fun b hb => .inl hb) e2 (fun b hb o e => hx b o (fun q' => ?_) (fun q' => no b (q' ▸ ok.loc) (fp_mu e1 hb)) e), e3⟩
      exact mu_apart nm e1 hμ (fun q' => q q'.symm) b hb q'
  · obtain ⟨x, m1, n1⟩ := R.nss a ha
    refine ⟨x, ?_⟩
    by_cases q : a = fm.env.locals
    · exact q ▸ ⟨m, hn⟩
    · exact ⟨m1, n1.at' fun o e => hx a o (opn a x) q e⟩

/-- one row is rewritten -/
theorem Rel.mut (ok : FmOk F fm) (R : Rel C fm μ vs hp s) {i : Nat} {a : Addr} {fp : List Addr} {v : V} (hμ : μ[i]? = some (a, fp)) (hx : ∀ b o, b ∉ fp → s.heap.get? b = some o → s'.heap.get? b = some o)
    (hc : CR C s'.heap μ (fm.D μ) v fp a) (pl : isPlainV v = true) (hg : s'.gens = s.gens := by rfl) (ho : s'.os = s.os := by rfl) : Rel C fm μ vs (setHp hp i v) s' ∧ Step fm μ s μ s' :=
  let ⟨m, hn, hm⟩ := R.ns
  have nl : fm.env.locals ∉ fp := fun q => (D_parts R).2.1 _ ok.loc (fp_mu hμ q)
  R.mutF ok hμ (fun b o h _ e => hx b o h e) (hn.at' fun o e => hx _ o nl e) hm hc pl hg ho
/-- what a value looked through is -/
noncomputable def LInv (C : Cx) (h : Heap) (μ : Mu) (D : List Addr) (v : V) (x : Value) : Prop := match v with
  | .none => x = .none
  | .bool b => x = .bool b
  | .int i => ∃ t, x = .int i t
  | .str s => ∃ t, x = .str s t
  | .bytes b => ∃ t, x = .bytes b.toArray t
  | .ref _ => True
  | v => ∃ a fp, x = .ref a ∧ CR C h μ D v fp a
theorem CR.linv {h : Heap} {D : List Addr} {v : V} {fp : List Addr} {a : Addr} (c : CR C h μ D v fp a) : LInv C h μ D v (.ref a) := by
  cases v <;> first | exact ⟨a, fp, rfl, c⟩ | exact c.inv.elim
theorem look_lv (R : Rel C fm μ vs hp s) {a : V} {x : Value} (h : VR C s.heap μ (fm.D μ) a x) : LInv C s.heap μ (fm.D μ) (look hp a) x := by
  have key := h.inv
  cases a with
  | ref i =>
    obtain ⟨a, fp, rfl, e⟩ : ∃ a fp, x = .ref a ∧ μ[i]? = some (a, fp) := key
    have hi : i < hp.length := R.hps.1.symm ▸ (List.getElem?_eq_some_iff.mp e).1
    obtain ⟨a', fp', e1, e2, e3⟩ := R.hps.2 i hp[i] (List.getElem?_eq_getElem hi)
    have : look hp (.ref i) = hp[i] := by show hp.getD i .none = _; rw [List.getD, List.getElem?_eq_getElem hi]; rfl
    rw [this, (some_pair e e1).1]; exact e2.linv
  | tup | list | dict | inst | rng => exact let ⟨a, fp, e, c, _⟩ := key; ⟨a, fp, e, c⟩
  | _ => exact key

/-- a frame of a `def` -/
structure FnFm (fm : Fm) : Prop where
  self : fm.fenv = fm.env
  lf : fm.env.locals = fm.L
  cown : ∀ x c, fm.env.cells.lookup x = some c → c ∈ fm.own
  cap : ∀ x y c, fm.env.cells.lookup x = some c → fm.env.cells.lookup y = some c → x = y

/-- an exception raised here, or one that flies through -/
noncomputable def Raw (C : Cx) (fm : Fm) (x : Value) (s : Shared) : Prop := ∃ e cls oe vs, x = .ref e ∧ faultCls C cls ∧ C.base.StaysIn s.heap ∧ C.base.get? e = none ∧ s.heap.FunFrames C.base (fm.fenv :: fm.outer) ∧
  s.heap.get? e = some oe ∧ oe.cls = cls ∧ oe.data = .fields vs ∧ vs[1]? = some .none ∧ s.gens = #[] ∧ s.os = C.os ∧ ∀ a ∈ fm.nss, ∃ m, s.heap.Ns a m

/-- what the statements of a frame have done since `s₀`, where the rows at `M` could change -/
structure SStep (fm : Fm) (M : List Addr) (μ₀ : Mu) (s₀ : Shared) (μ : Mu) (s : Shared) : Prop where
  keep : ∀ b o, b ∉ fm.own → b ∉ M → s₀.heap.get? b = some o → s.heap.get? b = some o
  pre : ∃ ν, μ = μ₀ ++ ν
  new : ∀ b ∈ muA μ, b ∈ M ∨ s₀.heap.get? b = none
  live : ∀ b o, s₀.heap.get? b = some o → ∃ o', s.heap.get? b = some o'

theorem SStep.step {fm : Fm} {M : List Addr} {μ₀ μ μ' : Mu} {s₀ s s' : Shared} (x : SStep fm M μ₀ s₀ μ s) (y : Step fm μ s μ' s') : SStep fm M μ₀ s₀ μ' s' := by
  obtain ⟨k, ⟨ν, rfl⟩, nw, lv⟩ := x
  obtain ⟨k', ⟨ν', rfl, hν'⟩, lv'⟩ := y
  refine ⟨fun b o h1 h2 e => k' b o h1 (fun hm => ?_) (k b o h1 h2 e), ⟨ν ++ ν', by simp⟩, fun b hb => ?_, fun b o e => ?_⟩
  · rcases nw b hm with q | q
    · exact h2 q
    · rw [q] at e; cases e
  · rw [muA_append] at hb
    rcases List.mem_append.mp hb with q | q
    · exact nw b q
    · right
      cases e : s₀.heap.get? b with
      | none => rfl
      | some o => obtain ⟨o', e'⟩ := lv b o e; rw [hν' b q] at e'; cases e'
  · obtain ⟨o', e'⟩ := lv b o e; exact lv' b o' e'
theorem SStep.comp {fm : Fm} {M : List Addr} {μ₀ μ μ' : Mu} {s₀ s s' : Shared} (x : SStep fm M μ₀ s₀ μ s) (y : SStep fm (muA μ) μ₀ s μ' s') : SStep fm M μ₀ s₀ μ' s' := by
  obtain ⟨k, p, nw, lv⟩ := x
  obtain ⟨k', p', nw', lv'⟩ := y
  refine ⟨fun b o h1 h2 e => k' b o h1 (fun hm => ?_) (k b o h1 h2 e), p', fun b hb => ?_, fun b o e => ?_⟩
  · rcases nw b hm with q | q
    · exact h2 q
    · rw [q] at e; cases e
  · rcases nw' b hb with q | q
    · exact nw b q
    · right
      cases e : s₀.heap.get? b with
      | none => rfl
      | some o => obtain ⟨o', e'⟩ := lv b o e; rw [q] at e'; cases e'
  · obtain ⟨o', e'⟩ := lv b o e; exact lv' b o' e'
theorem SStep.refl {fm : Fm} {μ₀ μ : Mu} {s : Shared} (h : ∃ ν, μ = μ₀ ++ ν) : SStep fm (muA μ) μ₀ s μ s := ⟨fun _ _ _ _ e => e, h, fun _ hb => .inl hb, fun _ o e => ⟨o, e⟩⟩
theorem SStep.toStep {fm : Fm} {μ μ' : Mu} {s s' : Shared} (x : SStep fm (muA μ) μ s μ' s') (nd : (muA μ').Nodup) : Step fm μ s μ' s' := by
  obtain ⟨k, ⟨ν, rfl⟩, nw, lv⟩ := x
  refine ⟨fun b o h1 h2 e => k b o h1 h2 e, ⟨ν, rfl, fun b hb => ?_⟩, lv⟩
  rw [muA_append] at nd nw
  rcases nw b (List.mem_append_right _ hb) with q | q
  · exact absurd rfl ((List.nodup_append.mp nd).2.2 b q b hb)
  · exact q

theorem muA_take {k : Nat} {b : Addr} (h : b ∈ muA (μ.take k)) : b ∈ muA μ := by
  obtain ⟨p, hp, hb⟩ := List.mem_flatMap.mp h
  exact List.mem_flatMap.mpr ⟨p, List.mem_of_mem_take hp, hb⟩
theorem muA_take_sub (k : Nat) : (muA (μ.take k)).Sublist (muA μ) := by
  unfold muA
  conv => rhs; rw [← List.take_append_drop k μ]
  rw [List.flatMap_append]
  exact List.sublist_append_left _ _

/-- freezing one value -/
theorem frz_vr (R : Rel C fm μ vs hp s) {k : Nat} {v : V} {x : Value} (r : VR C s.heap μ (fm.D μ) v x) : VR C s.heap (μ.take k) (fm.D (μ.take k)) (frzV k hp v) x := by
  have sub : ∀ b ∈ fm.D (μ.take k), b ∈ fm.D μ := fun b hb => mem_D.mpr ((mem_D.mp hb).imp id (.imp muA_take id))
  cases v with
  | ref i =>
    obtain ⟨a, fp, rfl, e⟩ : ∃ a fp, x = .ref a ∧ μ[i]? = some (a, fp) := r.inv
    by_cases hi : i < k
    · have q : frzV k hp (.ref i) = .ref i := if_pos hi
      rw [q]; exact .ref i a fp (by rw [List.getElem?_take_of_lt hi]; exact e)
    · have q : frzV k hp (.ref i) = hp.getD i .none := if_neg hi
      have hl : i < hp.length := R.hps.1.symm ▸ (List.getElem?_eq_some_iff.mp e).1
      obtain ⟨a', fp', e1, e2, e3⟩ := R.hps.2 i hp[i] (List.getElem?_eq_getElem hl)
      rw [(some_pair e1 e).1, (some_pair e1 e).2] at e2
      have : hp.getD i .none = hp[i] := by rw [List.getD, List.getElem?_eq_getElem hl]; rfl
      rw [q, this]
      obtain ⟨nm, no, np, _⟩ := D_parts R
      refine .obj _ fp a (e2.less sub) fun b hb hm => (mem_D.mp hm).elim (fun q => no b q (fp_mu e hb)) fun q => q.elim (fun q => ?_) fun q => np b q (fp_mu e hb)
      obtain ⟨p, hp1, hp2⟩ := List.mem_flatMap.mp q
      obtain ⟨j, hj⟩ := List.getElem?_of_mem hp1
      have hjk : j < k := by
        have := (List.getElem?_eq_some_iff.mp hj).1
        rw [List.length_take] at this; omega
      rw [List.getElem?_take_of_lt hjk] at hj
      exact mu_apart nm hj e (by omega) b hp2 hb
  | _ => exact r.less rfl sub

/-- the caller's frame, after a call -/
theorem Rel.back (R : Rel C fm μ vs hp s) (st : Step fm μ s μ' s') (own : ∀ b o, b ∈ fm.own → s.heap.get? b = some o → s'.heap.get? b = some o) (base : C.base.StaysIn s'.heap)
    (ff : s'.heap.FunFrames C.base (fm.fenv :: fm.outer)) (nd : (fm.D μ').Nodup) (fr : ∀ a ∈ muA μ', C.base.get? a = none ∧ ∃ o, s'.heap.get? a = some o) (pk : ∀ b o, b ∈ fm.prot → s.heap.get? b = some o → s'.heap.get? b = some o)
    (hps : hp'.length = μ'.length ∧ ∀ (i : Nat) v, hp'[i]? = some v → ∃ a fp, μ'[i]? = some (a, fp) ∧ CR C s'.heap μ' (fm.D μ') v fp a ∧ isPlainV v = true) (ok : FmOk F fm) (hg : s'.gens = #[]) (ho : s'.os = C.os) : Rel C fm μ' vs hp' s' := by
  refine ⟨base, ff, nd, fun b hb => ?_, ?_, fun x hx => ?_, hps, hg, ho, R.above, fun a ha => let ⟨x, m, n⟩ := R.nss a ha; ⟨x, m, n.at' fun o e => (List.mem_append.mp x).elim (fun q => own a o q e) (fun q => pk a o q e)⟩⟩
  · rcases mem_D.mp hb with q | q | q
    · obtain ⟨r1, o, r2⟩ := R.fr b (mem_D.mpr (.inl q)); exact ⟨r1, o, own b o q r2⟩
    · exact fr b q
    · obtain ⟨r1, o, r2⟩ := R.fr b (mem_D.mpr (.inr (.inr q))); exact ⟨r1, o, pk b o q r2⟩
  · obtain ⟨m, hn, hm⟩ := R.ns
    exact ⟨m, hn.at' fun o e => own _ o ok.loc e, fun x v e k => let ⟨val, p, r⟩ := hm x v e k; ⟨val, p, st.vr r⟩⟩
  · obtain ⟨c, o, p, q, d, e⟩ := R.cel x hx
    obtain ⟨ob, e1, e2⟩ := q
    refine ⟨c, o, p, ⟨ob, ?_, e2⟩, d, fun v hv => let ⟨val, x1, x2⟩ := e v hv; ⟨val, x1, st.vr x2⟩⟩
    rcases List.mem_append.mp d.1 with q | q
    · exact own c ob q e1
    · exact pk c ob q e1

theorem base_none (R : Rel C fm μ vs hp s) {b : Addr} (h : s.heap.objs.size ≤ b) : C.base.get? b = none := by
  cases q : C.base.get? b with
  | none => rfl
  | some o => exact absurd (Heap.lt_size (R.base b o q)) (Nat.not_lt.mpr h)

theorem heap_none {h : Heap} {b : Addr} (hb : h.objs.size ≤ b) : h.get? b = none := by
  cases q : h.get? b with
  | none => rfl
  | some o => exact absurd (Heap.lt_size q) (Nat.not_lt.mpr hb)

theorem zip_lookup_vr {h : Heap} {D : List Addr} {x : Str} {v : V} : ∀ {ps : List Str} {l : List V} {xs : List Value}, VRs C h μ D l xs → (ps.zip l).lookup x = some v → ∃ val, (ps.zip xs).lookup x = some val ∧ VR C h μ D v val
  | [], _, _, _, e => absurd e (by simp)
  | p :: ps, [], _, _, e => absurd e (by simp)
  | p :: ps, u :: l, xs, r, e => by
    obtain ⟨y, ys, q, a, r⟩ : ∃ y ys, xs = y :: ys ∧ VR C h μ D u y ∧ VRs C h μ D l ys := r.inv
    rw [q]
    simp only [List.zip_cons_cons, List.lookup_cons] at e ⊢
    cases q : x == p with
    | true => rw [q] at e; cases e; exact ⟨y, rfl, a⟩
    | false => rw [q] at e; exact zip_lookup_vr r e

/-- a new row that may change -/
theorem Rel.alloc (ok : FmOk F fm) (R : Rel C fm μ vs hp s) {a : Addr} {fp : List Addr} {v : V} (k : ∀ b o, s.heap.get? b = some o → s'.heap.get? b = some o) (fresh : ∀ b ∈ fp, s.heap.objs.size ≤ b) (nd : fp.Nodup)
    (hc : CR C s'.heap (μ ++ [(a, fp)]) (fm.D (μ ++ [(a, fp)])) v fp a) (pl : isPlainV v = true) (hg : s'.gens = s.gens := by rfl) (ho : s'.os = s.os := by rfl) :
    Rel C fm (μ ++ [(a, fp)]) vs (hp ++ [v]) s' ∧ Step fm μ s (μ ++ [(a, fp)]) s' := by
  have e1 : muA (μ ++ [(a, fp)]) = muA μ ++ fp := by rw [muA_append]; simp [muA]
  have oldlt : ∀ b ∈ fm.D μ, b < s.heap.objs.size := fun b hb => let ⟨_, o, e⟩ := R.fr b hb; Heap.lt_size e
  have st : Step fm μ s (μ ++ [(a, fp)]) s' := ⟨fun b o _ _ e => k b o e, ⟨[(a, fp)], rfl, fun b hb => heap_none (fresh b (by simpa [muA] using hb))⟩, fun b o e => ⟨o, k b o e⟩⟩
  obtain ⟨nm, no, np, nop⟩ := D_parts R
  have notold : ∀ b ∈ fp, b ∉ fm.D μ := fun b hb hm => absurd (oldlt b hm) (Nat.not_lt.mpr (fresh b hb))
  have nd' : (fm.D (μ ++ [(a, fp)])).Nodup := by
    have := R.nd
    rw [Fm.D, List.append_assoc, List.nodup_append] at this
    have nown := this.1
    have this2 := this.2.1
    rw [List.nodup_append] at this2
    have nprot := this2.2.1
    rw [Fm.D, e1, List.nodup_append, List.nodup_append, List.nodup_append]
    refine ⟨⟨nown, ⟨nm, nd, fun b hb c hc e => ?_⟩, fun b hb c hc e => ?_⟩, nprot, fun b hb c hc e => ?_⟩
    · subst e; exact notold b hc (mem_D.mpr (.inr (.inl hb)))
    · subst e
      rcases List.mem_append.mp hc with q | q
      · exact no b hb q
      · exact notold b q (mem_D.mpr (.inl hb))
    · subst e
      rcases List.mem_append.mp hb with q | q
      · exact nop b q hc
      · rcases List.mem_append.mp q with q | q
        · exact np b hc q
        · exact notold b q (mem_D.mpr (.inr (.inr hc)))
  refine ⟨Rel.back R st (fun b o _ e => k b o e) (fun b o e => k b o (R.base b o e)) (R.ff.of_keeps fun b o e _ => ⟨o, k b o e, rfl⟩) nd' (fun b hb => ?_) (fun b o _ e => k b o e) ⟨by simp [R.hps.1], fun i u e => ?_⟩ ok (hg.trans R.gens) (ho.trans R.os), st⟩
  · rw [e1] at hb
    rcases List.mem_append.mp hb with q | q
    · obtain ⟨r1, o, r2⟩ := R.fr b (mem_D.mpr (.inr (.inl q))); exact ⟨r1, o, k b o r2⟩
    · exact ⟨base_none R (fresh b q), hc.there b q⟩
  · by_cases hi : i < hp.length
    · rw [List.getElem?_append_left hi] at e
      obtain ⟨a', fp', x1, x2, x3⟩ := R.hps.2 i u e
      refine ⟨a', fp', by rw [List.getElem?_append_left (by rw [← R.hps.1]; exact hi)]; exact x1, CR.mono (fun b o _ e => k b o e) (fun i x e => by rw [List.getElem?_append_left (List.getElem?_eq_some_iff.mp e).1]; exact e) (fun b hb => ?_) x2 (fun b _ o e => k b o e), x3⟩
      rcases mem_D.mp hb with q | q | q
      · exact .inl (mem_D.mpr (.inl q))
      · rw [e1] at q
        rcases List.mem_append.mp q with q | q
        · exact .inl (mem_D.mpr (.inr (.inl q)))
        · exact .inr (heap_none (fresh b q))
      · exact .inl (mem_D.mpr (.inr (.inr q)))
    · have hi2 : i = hp.length := by
        have := (List.getElem?_eq_some_iff.mp e).1
        rw [List.length_append] at this; simp at this; omega
      subst hi2
      rw [List.getElem?_append_right (Nat.le_refl _)] at e
      simp at e; subst e
      exact ⟨a, fp, by rw [R.hps.1, List.getElem?_append_right (Nat.le_refl _)]; simp, hc, pl⟩

/-- the rows above are let go -/
theorem Rel.shrink {μ₂ : Mu} {hp₂ : List V} {s₂ : Shared} (R : Rel C fm μ vs hp s) (R₂ : Rel C fm μ₂ vs hp₂ s₂) (e0 : μ₂.take μ.length = μ) : Rel C fm μ vs (hp₂.take hp.length) s₂ := by
  have sub : ∀ b ∈ fm.D μ, b ∈ fm.D μ₂ := fun b hb => by
    rcases mem_D.mp hb with q | q | q
    · exact mem_D.mpr (.inl q)
    · exact mem_D.mpr (.inr (.inl (muA_take (by rw [e0]; exact q))))
    · exact mem_D.mpr (.inr (.inr q))
  have vr : ∀ {v : V} {x : Value} {x' : Value}, VR C s.heap μ (fm.D μ) v x → VR C s₂.heap μ₂ (fm.D μ₂) v x' → VR C s₂.heap μ (fm.D μ) v x' := fun {v x x'} r r₂ => by
    cases v with
    | ref i =>
      obtain ⟨a, fp, _, e⟩ : ∃ a fp, x = .ref a ∧ μ[i]? = some (a, fp) := r.inv
      obtain ⟨a', fp', q, e'⟩ : ∃ a fp, x' = .ref a ∧ μ₂[i]? = some (a, fp) := r₂.inv
      have hi := (List.getElem?_eq_some_iff.mp e).1
      rw [q]
      refine .ref i a' fp' ?_
      rw [← e0, List.getElem?_take_of_lt hi]; exact e'
    | _ => exact r₂.less rfl sub
  obtain ⟨nm, no, np, nop⟩ := D_parts R₂
  refine ⟨R₂.base, R₂.ff, ?_, fun b hb => R₂.fr b (sub b hb), ?_, fun x hx => ?_, ⟨?_, fun i v e => ?_⟩, R₂.gens, R₂.os, R₂.above, R₂.nss⟩
  · exact R.nd
  · obtain ⟨m₂, n₂, h₂⟩ := R₂.ns
    obtain ⟨m, n1, h1⟩ := R.ns
    exact ⟨m₂, n₂, fun x v e k => let ⟨val, a, b⟩ := h₂ x v e k; let ⟨_, _, b'⟩ := h1 x v e k; ⟨val, a, vr b' b⟩⟩
  · obtain ⟨c, o, a, b, d, e⟩ := R₂.cel x hx
    obtain ⟨_, _, _, _, _, e'⟩ := R.cel x hx
    exact ⟨c, o, a, b, d, fun v hv => let ⟨val, p, q⟩ := e v hv; let ⟨_, _, q'⟩ := e' v hv; ⟨val, p, vr q' q⟩⟩
  · have := congrArg List.length e0
    rw [List.length_take] at this
    rw [List.length_take, R₂.hps.1, R.hps.1]; exact this
  · have hi : i < hp.length := by
      have := (List.getElem?_eq_some_iff.mp e).1
      rw [List.length_take] at this; omega
    rw [List.getElem?_take_of_lt hi] at e
    obtain ⟨a, fp, x1, x2, x3⟩ := R₂.hps.2 i v e
    exact ⟨a, fp, by rw [← e0, List.getElem?_take_of_lt (by rw [← R.hps.1]; exact hi)]; exact x1, x2.less sub, x3⟩

end

noncomputable abbrev WP := List V → (V → List V → Prop) → Prop → Prop
noncomputable abbrev WB := List V → (Bool → List V → Prop) → Prop → Prop
noncomputable abbrev WL := List V → (List V → List V → Prop) → Prop → Prop
noncomputable def Sub (vs vs' : Vars) : Prop := ∀ x v, vs.lookup x = some v → vs'.lookup x = some v
/-- where a judgement is asked: the names vs are known of the frame's names vs' -/
structure At (C : Cx) (n : Nat) (F : Frm) (vs : Vars) (fm : Fm) (μ : Mu) (vs' : Vars) (hp : List V) (s : Shared) : Prop where
  ok : FmOk F fm
  rm : Room fm.A n
  sub : Sub vs vs'
  R : Rel C fm μ vs' hp s
structure KE (C : Cx) (fm : Fm) (vs : Vars) (μ : Mu) (s : Shared) (K : V → List V → Prop) (X : Prop) (Q : Value → Shared → Prop) (E : Value → Shared → Prop) : Prop where
  ok : ∀ {v hp'}, K v hp' → OK1 C fm vs μ s v hp' Q
  ex : X → ∀ x s', Fly C fm x s' → E x s'
structure KB (C : Cx) (fm : Fm) (vs : Vars) (μ : Mu) (s : Shared) (K : Bool → List V → Prop) (X : Prop) (Q : Bool → Shared → Prop) (E : Value → Shared → Prop) : Prop where
  ok : ∀ {b hp'}, K b hp' → ∀ s' μ', Step fm μ s μ' s' → Rel C fm μ' vs hp' s' → Q b s'
  ex : X → ∀ x s', Fly C fm x s' → E x s'
structure KL (C : Cx) (fm : Fm) (vs : Vars) (μ : Mu) (s : Shared) (K : List V → List V → Prop) (X : Prop) (Q : List Value → Shared → Prop) (E : Value → Shared → Prop) : Prop where
  ok : ∀ {l hp'}, K l hp' → ∀ s' μ' vals, Step fm μ s μ' s' → Rel C fm μ' vs hp' s' → VRs C s'.heap μ' (fm.D μ') l vals → Q vals s'
  ex : X → ∀ x s', Fly C fm x s' → E x s'
/-- an expression is what W says -/
structure SE (C : Cx) (n : Nat) (F : Frm) (vs : Vars) (e : Expr) (W : WP) : Prop where
  run : ∀ {fm μ vs' hp s Q E K X}, At C n F vs fm μ vs' hp s → W hp K X → KE C fm vs' μ s K X Q E → wpAny C.M fm.A (eval e fm.env) Q E s

/-- a test -/
structure ST (C : Cx) (n : Nat) (F : Frm) (vs : Vars) (e : Expr) (W : WB) : Prop where
  run : ∀ {fm μ vs' hp s Q E K X}, At C n F vs fm μ vs' hp s → W hp K X → KB C fm vs' μ s K X Q E → wpAny C.M fm.A (isTrue e fm.env (eval e fm.env)) Q E s

/-- a row of arguments -/
structure SA (C : Cx) (n : Nat) (F : Frm) (vs : Vars) (es : List Expr) (W : WL) : Prop where
  star : noStar es = true
  run : ∀ {fm μ vs' hp s QL E K X} (pos : Pos), At C n F vs fm μ vs' hp s → W hp K X → KL C fm vs' μ s K X QL E → wpAny C.M fm.A (spliced (backTo pos (starEach es fm.env))) QL E s

noncomputable def guard (b : Bool) (k : Prop) : Prop := match b with | true => k | false => False
noncomputable def wI (v : V) (k : Int → Prop) : Prop := match v with | .int i => k i | _ => False
noncomputable def wB (v : V) (k : List UInt8 → Prop) : Prop := match v with | .bytes i => k i | _ => False
noncomputable def wL (v : V) (k : List V → Prop) : Prop := match v with | .list i => k i | _ => False
noncomputable def wT (v : V) (k : List V → Prop) : Prop := match v with | .tup i => k i | _ => False
noncomputable def wD (v : V) (k : List (Int × Int) → Prop) : Prop := match v with | .dict i => k i | _ => False
noncomputable def wS (v : V) (k : Str → Prop) : Prop := match v with | .str i => k i | _ => False
noncomputable def wBo (v : V) (k : Bool → Prop) : Prop := match v with | .bool i => k i | _ => False
noncomputable def wN (v : V) (k : Prop) : Prop := match v with | .none => k | _ => False
noncomputable def wO (v : V) (k : Str → List (Str × V) → Prop) : Prop := match v with | .inst c f => k c f | _ => False
noncomputable def w1 (l : List V) (k : V → Prop) : Prop := match l with | [a] => k a | _ => False
noncomputable def w2 (l : List V) (k : V → V → Prop) : Prop := match l with | [a, b] => k a b | _ => False
noncomputable def br (c : Bool) (A B : Prop) : Prop := (c = true → A) ∧ (c = false → B)
noncomputable def eV (v : V) : WP := fun hp K _ => K v hp
noncomputable def eBin (f : V → V → List V → (V → List V → Prop) → Prop) (a b : WP) : WP := fun hp K X => a hp (fun x hp1 => b hp1 (fun y hp2 => f (look hp2 x) (look hp2 y) hp2 K) X) X
noncomputable def tCmp (f : V → V → (Bool → Prop) → Prop) (a b : WP) : WB := fun hp K X => a hp (fun x hp1 => b hp1 (fun y hp2 => f (look hp2 x) (look hp2 y) fun c => K c hp2) X) X
noncomputable def tCmp2 (f g : V → V → (Bool → Prop) → Prop) (a b c : WP) : WB := fun hp K X => a hp (fun x hp1 => b hp1 (fun y hp2 => f (look hp2 x) (look hp2 y) fun t => br t (c hp2 (fun z hp3 => g (look hp3 y) (look hp3 z) fun t => K t hp3) X) (K false hp2)) X) X
noncomputable def eB (t : WB) : WP := fun hp K X => t hp (fun b hp1 => K (.bool b) hp1) X
noncomputable def tE (a : WP) : WB := fun hp K X => a hp (fun v hp1 => wBo v fun b => K b hp1) X
noncomputable def tNot (t : WB) : WB := fun hp K X => t hp (fun b hp1 => K (!b) hp1) X
noncomputable def tAnd (t u : WB) : WB := fun hp K X => t hp (fun b hp1 => br b (u hp1 K X) (K false hp1)) X
noncomputable def tOr (t u : WB) : WB := fun hp K X => t hp (fun b hp1 => br b (K true hp1) (u hp1 K X)) X
noncomputable def eIf (t : WB) (a b : WP) : WP := fun hp K X => t hp (fun c hp1 => br c (a hp1 K X) (b hp1 K X)) X
noncomputable def aNil : WL := fun hp K _ => K [] hp
noncomputable def aCons (a : WP) (r : WL) : WL := fun hp K X => a hp (fun v hp1 => r hp1 (fun l hp2 => K (v :: l) hp2) X) X
noncomputable def eNeg (a : WP) : WP := fun hp K X => a hp (fun v hp1 => wI v fun i => K (.int (-i)) hp1) X
noncomputable def eList (a : WL) : WP := fun hp K X => a hp (fun l hp1 => guard (allPlain l && Nat.ble l.length 1000) (K (.list l) hp1)) X
noncomputable def eTup (a : WL) : WP := fun hp K X => a hp (fun l hp1 => guard (allPlain l && Nat.ble l.length 1000) (K (.tup l) hp1)) X

theorem guard.inv {b : Bool} {k : Prop} (h : guard b k) : b = true ∧ k := by cases b; exact h.elim; exact ⟨rfl, h⟩
theorem wI.inv {v : V} {k} (h : wI v k) : ∃ i, v = .int i ∧ k i := by cases v <;> first | exact ⟨_, rfl, h⟩ | exact h.elim
theorem wB.inv {v : V} {k} (h : wB v k) : ∃ i, v = .bytes i ∧ k i := by cases v <;> first | exact ⟨_, rfl, h⟩ | exact h.elim
theorem wL.inv {v : V} {k} (h : wL v k) : ∃ i, v = .list i ∧ k i := by cases v <;> first | exact ⟨_, rfl, h⟩ | exact h.elim
theorem wT.inv {v : V} {k} (h : wT v k) : ∃ i, v = .tup i ∧ k i := by cases v <;> first | exact ⟨_, rfl, h⟩ | exact h.elim
theorem wD.inv {v : V} {k} (h : wD v k) : ∃ i, v = .dict i ∧ k i := by cases v <;> first | exact ⟨_, rfl, h⟩ | exact h.elim
theorem wS.inv {v : V} {k} (h : wS v k) : ∃ i, v = .str i ∧ k i := by cases v <;> first | exact ⟨_, rfl, h⟩ | exact h.elim
theorem wBo.inv {v : V} {k} (h : wBo v k) : ∃ i, v = .bool i ∧ k i := by cases v <;> first | exact ⟨_, rfl, h⟩ | exact h.elim
theorem wN.inv {v : V} {k} (h : wN v k) : v = .none ∧ k := by cases v <;> first | exact ⟨rfl, h⟩ | exact h.elim
theorem wO.inv {v : V} {k} (h : wO v k) : ∃ c f, v = .inst c f ∧ k c f := by cases v <;> first | exact ⟨_, _, rfl, h⟩ | exact h.elim
theorem w1.inv {l : List V} {k} (h : w1 l k) : ∃ a, l = [a] ∧ k a := match l, h with | [a], h => ⟨a, rfl, h⟩
theorem w2.inv {l : List V} {k} (h : w2 l k) : ∃ a b, l = [a, b] ∧ k a b := match l, h with | [a, b], h => ⟨a, b, rfl, h⟩
section
variable {C : Cx} {F : Frm} {fm : Fm} {μ μ' μ₀ : Mu} {vs vs' : Vars} {hp hp' : List V} {s s' s₀ : Shared} {A : Around} {Q : Value → Shared → Prop} {QB : Bool → Shared → Prop} {QL : List Value → Shared → Prop} {E : Value → Shared → Prop} {n : Nat}

theorem Room.mono {m : Nat} (h : Room A n) (l : m ≤ n) : Room A m := ⟨by have := h.1; omega, by have := h.2; omega⟩
theorem Room.succ (h : Room A (n + 1)) : Room A n := h.mono (Nat.le_succ n)
theorem hu_of (h : Room A n) : A.units + 64 < cLine := by have := h.2; omega
theorem At.to (a : At C n F vs fm μ vs' hp s) (R : Rel C fm μ' vs' hp' s') : At C n F vs fm μ' vs' hp' s' := ⟨a.ok, a.rm, a.sub, R⟩
theorem KE.trans {K X} (k : KE C fm vs μ s K X Q E) (st : Step fm μ s μ' s') : KE C fm vs μ' s' K X Q E := ⟨fun h => (k.ok h).trans st, k.ex⟩
theorem KB.trans {K X} (k : KB C fm vs μ s K X QB E) (st : Step fm μ s μ' s') : KB C fm vs μ' s' K X QB E := ⟨fun h s2 μ2 st' R => k.ok h s2 μ2 (st.trans st') R, k.ex⟩
theorem KL.trans {K X} (k : KL C fm vs μ s K X QL E) (st : Step fm μ s μ' s') : KL C fm vs μ' s' K X QL E := ⟨fun h s2 μ2 vals st' R r => k.ok h s2 μ2 vals (st.trans st') R r, k.ex⟩
/-- what follows an expression inside another -/
theorem KE.of {K X} {P : Value → Shared → Prop} (f : ∀ v hp' s' μ' val, K v hp' → Step fm μ s μ' s' → Rel C fm μ' vs hp' s' → VR C s'.heap μ' (fm.D μ') v val → P val s') (x : X → ∀ x s', Fly C fm x s' → E x s') : KE C fm vs μ s K X P E :=
  ⟨fun h s' μ' val st R r => f _ _ s' μ' val h st R r, x⟩
theorem LInv.list {h : Heap} {D : List Addr} {l : List V} {x : Value} (c : LInv C h μ D (.list l) x) : ∃ a xs n, x = .ref a ∧ h.get? a = some ⟨.type "list", Option.none, .seq xs.toArray n, #[]⟩ ∧ VRs C h μ D l xs ∧ allPlain l = true :=
  let ⟨a, fp, e, c⟩ : ∃ a fp, x = .ref a ∧ CR C h μ D (.list l) fp a := c
  let ⟨_, xs, n, e1, r, p⟩ : fp = [a] ∧ ∃ xs n, h.get? a = some ⟨.type "list", Option.none, .seq xs.toArray n, #[]⟩ ∧ VRs C h μ D l xs ∧ allPlain l = true := c.inv
  ⟨a, xs, n, e, e1, r, p⟩
theorem LInv.tup {h : Heap} {D : List Addr} {l : List V} {x : Value} (c : LInv C h μ D (.tup l) x) : ∃ a xs n, x = .ref a ∧ h.get? a = some ⟨.type "tuple", Option.none, .seq xs.toArray n, #[]⟩ ∧ VRs C h μ D l xs ∧ allPlain l = true :=
  let ⟨a, fp, e, c⟩ : ∃ a fp, x = .ref a ∧ CR C h μ D (.tup l) fp a := c
  let ⟨_, xs, n, e1, r, p⟩ : fp = [a] ∧ ∃ xs n, h.get? a = some ⟨.type "tuple", Option.none, .seq xs.toArray n, #[]⟩ ∧ VRs C h μ D l xs ∧ allPlain l = true := c.inv
  ⟨a, xs, n, e, e1, r, p⟩
theorem LInv.dict {h : Heap} {D : List Addr} {l : List (Int × Int)} {x : Value} (c : LInv C h μ D (.dict l) x) : ∃ a kvs o, x = .ref a ∧ (a == sysModules) = false ∧ h.get? a = some o ∧ o.IsDictOf (intKind C.prog C.w) kvs ∧ DictI kvs l :=
  let ⟨a, fp, e, c⟩ : ∃ a fp, x = .ref a ∧ CR C h μ D (.dict l) fp a := c
  let ⟨_, r⟩ : fp = [a] ∧ ∃ kvs o, (a == sysModules) = false ∧ h.get? a = some o ∧ o.IsDictOf (intKind C.prog C.w) kvs ∧ DictI kvs l := c.inv
  let ⟨kvs, o, r⟩ := r
  ⟨a, kvs, o, e, r⟩
theorem LInv.inst {h : Heap} {D : List Addr} {c : Str} {f : List (Str × V)} {x : Value} (q : LInv C h μ D (.inst c f) x) : ∃ a d cl es n, x = .ref a ∧ nsIn C.K mainGlobals c = some (some (.ref cl)) ∧ h.get? a = some (instObj cl d) ∧ h.get? d = some (dictOf es n) ∧ Ents C h μ D es f :=
  let ⟨a, fp, e, q⟩ : ∃ a fp, x = .ref a ∧ CR C h μ D (.inst c f) fp a := q
  let ⟨d, cl, es, n, _, r⟩ : ∃ d cl es n, fp = [a, d] ∧ nsIn C.K mainGlobals c = some (some (.ref cl)) ∧ h.get? a = some (instObj cl d) ∧ h.get? d = some (dictOf es n) ∧ Ents C h μ D es f := q.inv
  ⟨a, d, cl, es, n, e, r⟩

/-- two values looked through are ints -/
theorem two_ints {D : List Addr} {h : Heap} {a b : V} {x y : Value} {k : Int → Int → Prop} (la : LInv C h μ D a x) (lb : LInv C h μ D b y) (w : wI a fun i => wI b fun j => k i j) : ∃ i t j u, x = .int i t ∧ y = .int j u ∧ k i j :=
  let ⟨i, e, w⟩ := w.inv
  let ⟨j, e', w⟩ := w.inv
  let ⟨t, q⟩ : ∃ t, x = .int i t := (e ▸ la : LInv C h μ D (.int i) x)
  let ⟨u, q'⟩ : ∃ t, y = .int j t := (e' ▸ lb : LInv C h μ D (.int j) y)
  ⟨i, t, j, u, q, q', w⟩

theorem SE.mono {m : Nat} {e : Expr} {W : WP} (h : SE C m F vs e W) (l : m ≤ n) : SE C n F vs e W := ⟨fun a w k => h.run ⟨a.ok, a.rm.mono l, a.sub, a.R⟩ w k⟩

theorem SE.int {i : Int} {u p} : SE C n F vs (.Constant (.int i) u p) (eV (.int i)) := ⟨fun a w k => by
  rw [eval_Constant]; exact wpAny_mkInt ((k.ok w).ok_toks a.R (.int _ _))⟩

theorem SE.bytes {b u p} : SE C n F vs (.Constant (.bytes b) u p) (eV (.bytes b)) := ⟨fun a w k => by
  rw [eval_Constant]; exact fun _ _ _ => (k.ok w).ok_toks a.R (.bytes _ _)⟩

theorem SE.str {b u p} : SE C n F vs (.Constant (.str b) u p) (eV (.str b)) := ⟨fun a w k => by
  rw [eval_Constant]; exact wpAny_mkText ((k.ok w).ok_toks a.R (.str _ _))⟩

theorem SE.none {u p} : SE C n F vs (.Constant .none u p) (eV .none) := ⟨fun a w k => by
  rw [eval_Constant]; exact wpAny_pure ((k.ok w).ok_here a.R .none)⟩

theorem SE.bool {b u p} : SE C n F vs (.Constant (.bool b) u p) (eV (.bool b)) := ⟨fun a w k => by
  rw [eval_Constant]; exact wpAny_pure ((k.ok w).ok_here a.R (.bool _))⟩

/-- an operator's soundness -/
structure OpOK (C : Cx) (op : Operator) (f : V → V → List V → (V → List V → Prop) → Prop) : Prop where
  run : ∀ {n fm μ vs hp s a b x y Q E K X}, Room fm.A n → Rel C fm μ vs hp s → VR C s.heap μ (fm.D μ) a x → VR C s.heap μ (fm.D μ) b y → f (look hp a) (look hp b) hp K → KE C fm vs μ s K X Q E → wpAny C.M fm.A (binaryOp op x y) Q E s

theorem SE.bin {op f l r p A B} (h : OpOK C op f) (hl : SE C n F vs l A) (hr : SE C n F vs r B) : SE C n F vs (.BinOp l op r p) (eBin f A B) := ⟨fun a w k =>
  wpAny_BinOp (hl.run a w (.of (fun _ _ _ _ _ w1 st1 R1 r1 => hr.run (a.to R1) w1 (.of (fun _ _ _ _ _ w2 st2 R2 r2 => h.run a.rm R2 (st2.vr r1) r2 w2 (k.trans (st1.trans st2))) k.ex)) k.ex))⟩

structure CmpOK (C : Cx) (op : CmpOp) (f : V → V → (Bool → Prop) → Prop) : Prop where
  run : ∀ {n A fm μ vs hp s a b x y QB E k}, Room A n → Rel C fm μ vs hp s → VR C s.heap μ (fm.D μ) a x → VR C s.heap μ (fm.D μ) b y → f (look hp a) (look hp b) k → (∀ c, k c → QB (.bool c) s) → wpAny C.M A (compareOp op x y) QB E s

theorem ST.cmp {op f l r p A B} (h : CmpOK C op f) (hb : behindInMarks op r = false) (hl : SE C n F vs l A) (hr : SE C n F vs r B) : ST C n F vs (.Compare l [op] [r] p) (tCmp f A B) := ⟨fun {fm μ vs' hp s QB E K X} a w k => by
  show wpAny C.M fm.A (eval l fm.env >>= fun x => holding [x] (markedBehindIn op r (eval r fm.env)) >>= fun rv => standAt p >>= fun _ => operate [x, rv] (compareOp op x rv) >>= fun c => holding [c] (truthy c)) QB E s
  refine wpAny_bind (hl.run a w (.of (fun _ _ _ _ x w1 st1 R1 r1 => ?_) k.ex))
  rw [markedBehindIn_of_false hb]
  refine wpAny_bind (wpAny_holding (hr.run (a.to R1) w1 (.of (fun _ _ _ _ y w2 st2 R2 r2 => ?_) k.ex)))
  exact wpAny_bind (wpAny_standAt (wpAny_bind (wpAny_operating (h.run a.rm R2 (st2.vr r1) r2 w2 fun c hc => wpAny_holding (wpAny_truthy_bool (k.ok hc _ _ (st1.trans st2) R2))))))⟩

theorem SE.cmp {op f l r p A B} (h : CmpOK C op f) (hb : behindInMarks op r = false) (hl : SE C n F vs l A) (hr : SE C n F vs r B) : SE C n F vs (.Compare l [op] [r] p) (eB (tCmp f A B)) := ⟨fun {fm μ vs' hp s Q E K X} a w k => by
  rw [eval_Compare1]
  refine wpAny_bind (hl.run a w (.of (fun _ _ _ _ x w1 st1 R1 r1 => ?_) k.ex))
  show wpAny C.M fm.A (holding [x] (markedBehindIn op r (eval r fm.env)) >>= fun rv => standAt p >>= fun _ => operate [x, rv] (compareOp op x rv)) Q E _
  rw [markedBehindIn_of_false hb]
  refine wpAny_bind (wpAny_holding (hr.run (a.to R1) w1 (.of (fun _ _ _ _ y w2 st2 R2 r2 => ?_) k.ex)))
  exact wpAny_bind (wpAny_standAt (wpAny_operating (h.run a.rm R2 (st2.vr r1) r2 w2 fun c hc => ((k.trans (st1.trans st2)).ok hc).ok_here R2 (.bool _))))⟩

theorem ST.cmp2 {op op2 f g l r r2 p A B D} (h : CmpOK C op f) (h2 : CmpOK C op2 g) (hb2 : behindInMarks op2 r2 = false) (hl : SE C n F vs l A) (hr : SE C n F vs r B) (hr2 : SE C n F vs r2 D) : ST C n F vs (.Compare l [op, op2] [r, r2] p) (tCmp2 f g A B D) := ⟨fun {fm μ vs' hp s QB E K X} a w k => by
  show wpAny C.M fm.A (eval l fm.env >>= fun x => testChain p x [op, op2] (markedEach [op, op2] [r, r2] (evalEach [r, r2] fm.env))) QB E s
  refine wpAny_bind (hl.run a w (.of (fun _ _ _ _ x w1 st1 R1 r1 => ?_) k.ex))
  show wpAny C.M fm.A (holding [x] (eval r fm.env) >>= fun rv => standAt p >>= fun _ => holding [x, rv] (compareOp op x rv) >>= fun c => release [x, rv] [c] >>= fun _ => holding [c, rv] (truthy c) >>= fun b =>
        if b = true then (holding [rv] (markedBehindIn op2 r2 (eval r2 fm.env)) >>= fun rv2 => standAt p >>= fun _ => operate [rv, rv2] (compareOp op2 rv rv2) >>= fun c => holding [c] (truthy c)) else pure false) QB E _
  refine wpAny_bind (wpAny_holding (hr.run (a.to R1) w1 (.of (fun _ _ _ _ y w2 st2 R2 r2 => ?_) k.ex)))
  refine wpAny_bind (wpAny_standAt (wpAny_bind (wpAny_holding (h.run a.rm R2 (st2.vr r1) r2 w2 fun c hc => ?_))))
  refine wpAny_bind (wpAny_release (wpAny_bind (wpAny_holding (wpAny_truthy_bool ?_))))
  cases c with
  | true =>
    rw [if_pos rfl, markedBehindIn_of_false hb2]
    refine wpAny_bind (wpAny_holding (hr2.run (a.to R2) (hc.1 rfl) (.of (fun _ _ _ _ z w3 st3 R3 r3 => ?_) k.ex)))
    exact wpAny_bind (wpAny_standAt (wpAny_bind (wpAny_operating (h2.run a.rm R3 (st3.vr r2) r3 w3 fun c hc => wpAny_holding (wpAny_truthy_bool (k.ok hc _ _ ((st1.trans st2).trans st3) R3))))))
  | false =>
    rw [if_neg (by decide)]
    exact wpAny_pure (k.ok (hc.2 rfl) _ _ (st1.trans st2) R2)⟩

theorem ST.not {e p T} (h : ST C n F vs e T) : ST C n F vs (.UnaryOp .Not e p) (tNot T) := ⟨fun a w k =>
  wpAny_isTrue_Not (h.run a w ⟨fun hc s2 μ2 st R => k.ok hc s2 μ2 st R, k.ex⟩)⟩

/-- a row of tests -/
structure STs (C : Cx) (n : Nat) (F : Frm) (vs : Vars) (op : BoolOp) (es : List Expr) (W : WB) : Prop where
  run : ∀ {fm μ vs' hp s Q E K X}, At C n F vs fm μ vs' hp s → W hp K X → KB C fm vs' μ s K X Q E → wpAny C.M fm.A (allTrue op es fm.env) Q E s

theorem ST.bool {op es p W} (h : STs C n F vs op es W) : ST C n F vs (.BoolOp op es p) W := ⟨fun a w k => wpAny_isTrue_BoolOp (h.run a w k)⟩

theorem STs.nil {op} : STs C n F vs op [] (fun hp K _ => K (op == .And) hp) := ⟨fun a w k => wpAny_pure (k.ok w _ _ (Step.refl ..) a.R)⟩

theorem STs.and {e r T U} (h : ST C n F vs e T) (hr : STs C n F vs .And r U) : STs C n F vs .And (e :: r) (tAnd T U) := ⟨fun {fm μ vs' hp s QB E K X} a w k => by
  show wpAny C.M fm.A (isTrue e fm.env (eval e fm.env) >>= fun b => match BoolOp.And, b with
      | .And, false => pure false
      | .Or, true => pure true
      | _, _ => allTrue .And r fm.env) QB E s
  refine wpAny_bind (h.run a w ⟨fun {b hp1} w1 s1 μ1 st1 R1 => ?_, k.ex⟩)
  cases b with
  | true => exact hr.run (a.to R1) (w1.1 rfl) (k.trans st1)
  | false => exact wpAny_pure (k.ok (w1.2 rfl) _ _ st1 R1)⟩

theorem STs.or {e r T U} (h : ST C n F vs e T) (hr : STs C n F vs .Or r U) : STs C n F vs .Or (e :: r) (tOr T U) := ⟨fun {fm μ vs' hp s QB E K X} a w k => by
  show wpAny C.M fm.A (isTrue e fm.env (eval e fm.env) >>= fun b => match BoolOp.Or, b with
      | .And, false => pure false
      | .Or, true => pure true
      | _, _ => allTrue .Or r fm.env) QB E s
  refine wpAny_bind (h.run a w ⟨fun {b hp1} w1 s1 μ1 st1 R1 => ?_, k.ex⟩)
  cases b with
  | true => exact wpAny_pure (k.ok (w1.1 rfl) _ _ st1 R1)
  | false => exact hr.run (a.to R1) (w1.2 rfl) (k.trans st1)⟩

theorem ST.call {f as ks p A} (h : SE C n F vs (.Call f as ks p) A) : ST C n F vs (.Call f as ks p) (tE A) := ⟨fun {fm μ vs' hp s QB E K X} a w k => by
  show wpAny C.M fm.A (eval (.Call f as ks p) fm.env >>= fun v => standAt (Expr.Call f as ks p).pos >>= fun _ => holding [v] (truthy v)) QB E s
  refine wpAny_bind (h.run a w (.of (fun _ _ _ _ x w1 st1 R1 r1 => ?_) k.ex))
  refine wpAny_bind (wpAny_standAt (wpAny_holding ?_))
  obtain ⟨b, rfl, w1⟩ := w1.inv
  have q : x = .bool b := r1.inv
  rw [q]; exact wpAny_truthy_bool (k.ok w1 _ _ st1 R1)⟩

theorem SE.ite {t b o p T A B} (h : ST C n F vs t T) (hb : SE C n F vs b A) (ho : SE C n F vs o B) : SE C n F vs (.IfExp t b o p) (eIf T A B) := ⟨fun a w k =>
  wpAny_IfExp (h.run a w ⟨fun {c hp1} w1 s1 μ1 st1 R1 => by
    cases c with
    | true => exact hb.run (a.to R1) (w1.1 rfl) (k.trans st1)
    | false => exact ho.run (a.to R1) (w1.2 rfl) (k.trans st1), k.ex⟩)⟩

theorem SE.neg {e p A} (h : SE C n F vs e A) : SE C n F vs (.UnaryOp .USub e p) (eNeg A) := ⟨fun a w k =>
  wpAny_UnaryOp (h.run a w (.of (fun _ _ _ _ x w1 st1 R1 r1 => by
    obtain ⟨i, rfl, w1⟩ := w1.inv
    obtain ⟨t, rfl⟩ : ∃ t, x = .int i t := r1.inv
    exact P.neg_int (((k.trans st1).ok w1).ok_toks R1 (.int _ _))) k.ex))⟩

theorem starEach_cons {e : Expr} {rest : List Expr} {env : Env} (h : noStar [e] = true) : starEach (e :: rest) env = (false, eval e env) :: starEach rest env := by
  cases e <;> first | rfl | exact Bool.noConfusion h
theorem noStar_cons {e : Expr} {r : List Expr} (h : noStar [e] = true) (hr : noStar r = true) : noStar (e :: r) = true := by
  unfold noStar at h hr ⊢
  rw [List.all_cons, hr]; rw [List.all_cons] at h; exact h
theorem noStar_head {e : Expr} {r : List Expr} (h : noStar (e :: r) = true) : noStar [e] = true ∧ noStar r = true := by
  unfold noStar at *
  rw [List.all_cons, Bool.and_eq_true] at h
  rw [List.all_cons, h.1]; exact ⟨rfl, h.2⟩
theorem backTo_any {env : Env} {pos : Pos} : ∀ {es : List Expr}, noStar es = true → (backTo pos (starEach es env)).any (·.1) = false
  | [], _ => rfl
  | e :: r, h => by
    rw [starEach_cons (noStar_head h).1]
    show (false || (backTo pos (starEach r env)).any (·.1)) = false
    rw [backTo_any (noStar_head h).2]; rfl
theorem SA.nil : SA C n F vs [] aNil := ⟨rfl, fun _ a w k => spliced_none (k.ok w _ _ [] (Step.refl ..) a.R .nil)⟩
theorem SA.cons {e r A W} (h : SE C n F vs e A) (hr : SA C n F vs r W) (hs : noStar [e] = true) : SA C n F vs (e :: r) (aCons A W) := ⟨noStar_cons hs hr.star, fun pos a w k =>
  spliced_more (h.run a w (.of (fun _ _ _ _ x w1 st1 R1 r1 => hr.run pos (a.to R1) w1 ⟨fun w2 s2 μ2 vals st2 R2 rs => k.ok w2 s2 μ2 (x :: vals) (st1.trans st2) R2 (.cons _ _ _ _ (st2.vr r1) rs), k.ex⟩) k.ex)) (starEach_cons hs)⟩
theorem SE.list {es p W} (h : SA C n F vs es W) : SE C n F vs (.List es p) (eList W) := ⟨fun a w k => by
  rw [arm_eval_List]
  refine wpAny_bind (wpAny_standAt (wpAny_bind (h.run _ a w ⟨fun {l hp1} w1 s1 μ1 vals st1 R1 rs => ?_, k.ex⟩)))
  obtain ⟨hg, w1⟩ := w1.inv
  obtain ⟨pl, hl⟩ := Bool.and_eq_true_iff.mp hg
  have hl := Nat.le_of_ble_eq_true hl
  have len := rs.length
  refine wpAny_newList ?_ (by rw [sizeLine_eq]; omega)
  have R2 := R1.push { cls := .type "list", data := .seq vals.toArray }
  exact ((k.trans st1).ok w1).ok_push (t := s1.toks) R1 (.list _ _ _ 0 (Heap.get?_push_size _ rfl) (R2.2.vrs rs) pl)⟩

theorem SE.tup {es c p W} (h : SA C n F vs es W) : SE C n F vs (.Tuple es c p) (eTup W) := ⟨fun a w k => by
  rw [arm_eval_Tuple]
  refine wpAny_bind (wpAny_standAt (wpAny_bind (h.run _ a w ⟨fun {l hp1} w1 s1 μ1 vals st1 R1 rs => ?_, k.ex⟩)))
  obtain ⟨hg, w1⟩ := w1.inv
  obtain ⟨pl, hl⟩ := Bool.and_eq_true_iff.mp hg
  have hl := Nat.le_of_ble_eq_true hl
  have len := rs.length
  refine wpAny_newTuple ?_ (by rw [sizeLine_eq]; omega)
  have R2 := R1.push { cls := .type "tuple", data := .seq vals.toArray }
  exact ((k.trans st1).ok w1).ok_push (t := s1.toks) R1 (.tup _ _ _ 0 (Heap.get?_push_size _ rfl) (R2.2.vrs rs) pl)⟩

end


noncomputable def fAdd (x y : V) (hp : List V) (K : V → List V → Prop) : Prop := wI x fun i => wI y fun j => K (.int (i + j)) hp
noncomputable def fSub (x y : V) (hp : List V) (K : V → List V → Prop) : Prop := wI x fun i => wI y fun j => K (.int (i - j)) hp
noncomputable def fMul (x y : V) (hp : List V) (K : V → List V → Prop) : Prop := wI x fun i => wI y fun j => (-1152921504606846976 ≤ j ∧ j ≤ 1152921504606846976) ∧ K (.int (i * j)) hp
noncomputable def fDiv (x y : V) (hp : List V) (K : V → List V → Prop) : Prop := wI x fun i => wI y fun j => (0 < j ∧ j ≤ 1152921504606846976) ∧ K (.int (i / j)) hp
noncomputable def fMod (x y : V) (hp : List V) (K : V → List V → Prop) : Prop := wI x fun i => wI y fun j => 0 < j ∧ K (.int (i % j)) hp
noncomputable def fPow (x y : V) (hp : List V) (K : V → List V → Prop) : Prop := wI x fun i => wI y fun j => (i.natAbs.log2 < 60 ∧ 0 ≤ j ∧ j ≤ 1000) ∧ K (.int (i ^ j.toNat)) hp
noncomputable def fAddB (x y : V) (hp : List V) (K : V → List V → Prop) : Prop := wB x fun i => wB y fun j => i.length + j.length ≤ 1000000 ∧ K (.bytes (i ++ j)) hp
noncomputable def fAddL (x y : V) (hp : List V) (K : V → List V → Prop) : Prop := wL x fun i => wL y fun j => i.length + j.length ≤ 1000000 ∧ K (.list (i ++ j)) hp
noncomputable def fAddS (x y : V) (hp : List V) (K : V → List V → Prop) : Prop := wS x fun i => wS y fun j => i.length + j.length ≤ 1000000 ∧ K (.str (i ++ j)) hp
noncomputable def cLt (x y : V) (k : Bool → Prop) : Prop := wI x fun i => wI y fun j => k (decide (i < j))
noncomputable def cLe (x y : V) (k : Bool → Prop) : Prop := wI x fun i => wI y fun j => k (decide (i ≤ j))
noncomputable def cGt (x y : V) (k : Bool → Prop) : Prop := wI x fun i => wI y fun j => k (decide (i > j))
noncomputable def cGe (x y : V) (k : Bool → Prop) : Prop := wI x fun i => wI y fun j => k (decide (i ≥ j))
noncomputable def cEq (x y : V) (k : Bool → Prop) : Prop := wI x fun i => wI y fun j => k (i == j)
noncomputable def cNe (x y : V) (k : Bool → Prop) : Prop := wI x fun i => wI y fun j => k (i != j)
noncomputable def isNil : List V → Bool
  | [] => true
  | _ => false
/-- a row beside the empty row -/
noncomputable def cEq0 (x y : V) (k : Bool → Prop) : Prop := wL x fun l => wL y fun l' => guard (isNil l') (l.length ≤ 1000000 ∧ k (isNil l))
noncomputable def cNe0 (x y : V) (k : Bool → Prop) : Prop := wL x fun l => wL y fun l' => guard (isNil l') (l.length ≤ 1000000 ∧ k (!isNil l))
/-- rows of ints -/
noncomputable def cNeL (x y : V) (k : Bool → Prop) : Prop := ∃ is js : List Int, x = .list (is.map V.int) ∧ y = .list (js.map V.int) ∧ k (!decide (is = js))
noncomputable def cEqT (x y : V) (k : Bool → Prop) : Prop := ∃ is js : List Int, x = .tup (is.map V.int) ∧ y = .tup (js.map V.int) ∧ k (decide (is = js))
noncomputable def cNone (x y : V) (k : Bool → Prop) : Prop := wN y (match x with | .none => k false | .tup _ => k true | _ => False)

theorem bits_le {y : Int} (h1 : -1152921504606846976 ≤ y) (h2 : y ≤ 1152921504606846976) : Builtin.Int.intBits y ≤ 64 := by
  have : y.natAbs < 2 ^ 64 := by omega
  unfold Builtin.Int.intBits
  by_cases h0 : y.natAbs = 0
  · have : y = 0 := by omega
    subst this; decide
  · have := (Nat.log2_lt h0).mpr this
    split <;> omega

theorem log_le {y : Int} (h1 : -1152921504606846976 ≤ y) (h2 : y ≤ 1152921504606846976) : y.natAbs.log2 < 9000 := by
  by_cases h0 : y.natAbs = 0
  · rw [h0]; decide
  · have h3 : y.natAbs < 2 ^ 64 := by omega
    have := (Nat.log2_lt h0).mpr h3
    omega

section
variable {C : Cx} {F : Frm} {fm : Fm} {μ μ' μ₀ : Mu} {vs vs' : Vars} {hp hp' : List V} {s s' s₀ : Shared} {A : Around} {Q : Value → Shared → Prop} {QB : Bool → Shared → Prop} {QL : List Value → Shared → Prop} {E : Value → Shared → Prop} {n : Nat}

theorem opAdd : OpOK C .Add fAdd := ⟨fun {n fm μ vs hp s a b x y Q E K X} rm R ra rb w k => by
  obtain ⟨i, t, j, u, rfl, rfl, w⟩ := two_ints (look_lv R ra) (look_lv R rb) w
  exact P.add_int ((k.ok w).ok_toks R (.int _ _))⟩

theorem opSub : OpOK C .Sub fSub := ⟨fun {n fm μ vs hp s a b x y Q E K X} rm R ra rb w k => by
  obtain ⟨i, t, j, u, rfl, rfl, w⟩ := two_ints (look_lv R ra) (look_lv R rb) w
  exact P.sub_int ((k.ok w).ok_toks R (.int _ _))⟩

theorem opMul : OpOK C .Mult fMul := ⟨fun {n fm μ vs hp s a b x y Q E K X} rm R ra rb w k => by
  obtain ⟨i, t, j, u, rfl, rfl, w⟩ := two_ints (look_lv R ra) (look_lv R rb) w
  exact P.mul_int ((k.ok w.2).ok_toks R (.int _ _)) (IntMulOk.of_right (bits_le w.1.1 w.1.2))⟩

theorem opDiv : OpOK C .FloorDiv fDiv := ⟨fun {n fm μ vs hp s a b x y Q E K X} rm R ra rb w k => by
  obtain ⟨i, t, j, u, rfl, rfl, w⟩ := two_ints (look_lv R ra) (look_lv R rb) w
  exact floordiv_int (Int.ne_of_gt w.1.1) ((Int.fdiv_eq_ediv_of_nonneg _ (Int.le_of_lt w.1.1)).symm ▸ (k.ok w.2).ok_toks R (.int _ _)) (Or.inl (PyProof.noPylong_of_log2 (log_le (by omega) w.1.2)))⟩

theorem opMod : OpOK C .Mod fMod := ⟨fun {n fm μ vs hp s a b x y Q E K X} rm R ra rb w k => by
  obtain ⟨i, t, j, u, rfl, rfl, w⟩ := two_ints (look_lv R ra) (look_lv R rb) w
  exact mod_int' (Int.ne_of_gt w.1) ((Int.fmod_eq_emod_of_nonneg _ (Int.le_of_lt w.1)).symm ▸ (k.ok w.2).ok_toks R (.int _ _))⟩

theorem opAddB : OpOK C .Add fAddB := ⟨fun {n fm μ vs hp s a b x y Q E K X} rm R ra rb w k => by
  obtain ⟨i, e, w⟩ := w.inv
  obtain ⟨j, e', h1, w⟩ := w.inv
  obtain ⟨t, rfl⟩ : ∃ t, x = .bytes i.toArray t := (e ▸ look_lv R ra : LInv C s.heap μ (fm.D μ) (.bytes i) x)
  obtain ⟨u, rfl⟩ : ∃ t, y = .bytes j.toArray t := (e' ▸ look_lv R rb : LInv C s.heap μ (fm.D μ) (.bytes j) y)
  refine KBy.add_bytes (by simp only [List.size_toArray]; omega) fun t' k' => ?_
  rw [List.append_toArray]
  exact (k.ok w).ok_toks R (.bytes _ _)⟩

theorem opAddS : OpOK C .Add fAddS := ⟨fun {n fm μ vs hp s a b x y Q E K X} rm R ra rb w k => by
  obtain ⟨i, e, w⟩ := w.inv
  obtain ⟨j, e', h1, w⟩ := w.inv
  obtain ⟨t, rfl⟩ : ∃ t, x = .str i t := (e ▸ look_lv R ra : LInv C s.heap μ (fm.D μ) (.str i) x)
  obtain ⟨u, rfl⟩ : ∃ t, y = .str j t := (e' ▸ look_lv R rb : LInv C s.heap μ (fm.D μ) (.str j) y)
  exact KOpn.add (by omega) fun t' k' _ => (k.ok w).ok_toks R (.str _ _)⟩

theorem opAddL : OpOK C .Add fAddL := ⟨fun {n fm μ vs hp s a b x y Q E K X} rm R ra rb w k => by
  obtain ⟨i, e, w⟩ := w.inv
  obtain ⟨j, e', h1, w⟩ := w.inv
  obtain ⟨a1, xs, n, rfl, e1, r1, p1⟩ := LInv.list (e ▸ look_lv R ra)
  obtain ⟨a2, ys, m, rfl, e2, r2, p2⟩ := LInv.list (e' ▸ look_lv R rb)
  have l1 := r1.length
  have l2 := r2.length
  refine P.add_list e1 e2 ?_ (by simp only [List.size_toArray, sizeLine_eq]; omega)
  rw [List.append_toArray]
  have R1 := R.push { cls := .type "list", data := .seq (xs ++ ys).toArray }
  exact (k.ok w).ok_push (t := s.toks) R (.list _ _ _ 0 (Heap.get?_push_size _ rfl) (R1.2.vrs (r1.append r2)) (by unfold allPlain at *; rw [List.all_append, p1, p2]; rfl))⟩

theorem opPow : OpOK C .Pow fPow := ⟨fun {n fm μ vs hp s a b x y Q E K X} rm R ra rb w k => by
  obtain ⟨i, t, j, u, rfl, rfl, w⟩ := two_ints (look_lv R ra) (look_lv R rb) w
  obtain ⟨⟨h0, h1, h2⟩, w⟩ := w
  have h3 : i.natAbs < 2 ^ 60 := by
    by_cases z : i.natAbs = 0
    · omega
    · exact (Nat.log2_lt z).mp h0
  exact pow_int_small (by omega) (by omega) (by omega) ((k.ok w).ok_toks R (.int _ _))⟩

theorem cpLt : CmpOK C .Lt cLt := ⟨fun {n A fm μ vs hp s a b x y QB E k} rm R ra rb w kk => by
  obtain ⟨i, t, j, u, rfl, rfl, w⟩ := two_ints (look_lv R ra) (look_lv R rb) w
  exact P.lt_int (kk _ w)⟩

theorem cpLe : CmpOK C .LtE cLe := ⟨fun {n A fm μ vs hp s a b x y QB E k} rm R ra rb w kk => by
  obtain ⟨i, t, j, u, rfl, rfl, w⟩ := two_ints (look_lv R ra) (look_lv R rb) w
  exact P.le_int (kk _ w)⟩

theorem cpGt : CmpOK C .Gt cGt := ⟨fun {n A fm μ vs hp s a b x y QB E k} rm R ra rb w kk => by
  obtain ⟨i, t, j, u, rfl, rfl, w⟩ := two_ints (look_lv R ra) (look_lv R rb) w
  exact P.gt_int (kk _ w)⟩

theorem cpGe : CmpOK C .GtE cGe := ⟨fun {n A fm μ vs hp s a b x y QB E k} rm R ra rb w kk => by
  obtain ⟨i, t, j, u, rfl, rfl, w⟩ := two_ints (look_lv R ra) (look_lv R rb) w
  exact P.ge_int (kk _ w)⟩

theorem cpEq : CmpOK C .Eq cEq := ⟨fun {n A fm μ vs hp s a b x y QB E k} rm R ra rb w kk => by
  obtain ⟨i, t, j, u, rfl, rfl, w⟩ := two_ints (look_lv R ra) (look_lv R rb) w
  exact P.eq_int (kk _ w)⟩

theorem cpNe : CmpOK C .NotEq cNe := ⟨fun {n A fm μ vs hp s a b x y QB E k} rm R ra rb w kk => by
  obtain ⟨i, t, j, u, rfl, rfl, w⟩ := two_ints (look_lv R ra) (look_lv R rb) w
  exact P.ne_int (kk _ w)⟩

end
theorem shaped_intsT (ns : List Int) : PySem.SeqAt.shaped (.tuple (ns.map PyData.int)) = true := by
  have h1 := W.depthAll_ints ns
  have h2 : PyData.depth (.tuple (ns.map PyData.int)) ≤ 64 := by simp only [PyData.depth]; omega
  show (PyData.canLay0 (.tuple (ns.map PyData.int)) && decide (PyData.depth (.tuple (ns.map PyData.int)) ≤ 64)) = true
  rw [Bool.and_eq_true]
  exact ⟨by simp only [PyData.canLay0]; exact canLayAll0_ints ns, decide_eq_true h2⟩
theorem reads_of_intsT {h : Heap} {a : Addr} {vs : List Value} {ns : List Int} (hl : IsTup h a vs.toArray) (hi : IntsAre vs ns) : PySem.Reads h (.ref a) (.tuple (ns.map PyData.int)) [] := by
  obtain ⟨o, ho, hc, n, hd⟩ := hl
  exact PySem.Reads.tuple ho hc hd (by simpa using readsAll_of_ints hi)
section
variable {C : Cx} {F : Frm} {fm : Fm} {μ μ' μ₀ : Mu} {vs vs' : Vars} {hp hp' : List V} {s s' s₀ : Shared} {A : Around} {Q : Value → Shared → Prop} {QB : Bool → Shared → Prop} {QL : List Value → Shared → Prop} {E : Value → Shared → Prop} {n : Nat}

theorem eq_intsT {prog : Program} {w : World} {a b : Addr} {vs us : List Value} {ns ms : List Int} (hl : IsTup s.heap a vs.toArray) (hi : IntsAre vs ns) (hl' : IsTup s.heap b us.toArray) (hi' : IntsAre us ms) (hu : A.units + 64 < cLine)
    (h : Q (.bool (decide (ns = ms))) s) : wpAny (model prog w) A (compareOp .Eq (.ref a) (.ref b)) Q E s :=
  eq_dataH_same (reads_of_intsT hl hi) (reads_of_intsT hl' hi') (shaped_intsT ns) (shaped_intsT ms) hu (by simp only [PySem.SeqAt.noMix]; exact noMix_ints ns ms) (by simp only [PySem.Spec.same]; rw [same_ints]; exact h)


theorem isNil_iff {l : List V} : (isNil l = true → l = []) ∧ (isNil l = false → 0 < l.length) := by cases l <;> simp [isNil]
theorem rc0 {a a2 : Addr} {xs ys : List Value} {n m : Nat} {l l' : List V} {D : List Addr} (e1 : s.heap.get? a = some ⟨.type "list", Option.none, .seq xs.toArray n, #[]⟩) (r1 : VRs C s.heap μ D l xs) (e2 : s.heap.get? a2 = some ⟨.type "list", Option.none, .seq ys.toArray m, #[]⟩) (r2 : VRs C s.heap μ D l' ys)
    (h' : isNil l' = true) (hl : l.length ≤ 1000000) (hu : A.units + 64 < cLine) : (Q (.bool (isNil l)) s → wpAny C.M A (compareOp .Eq (.ref a) (.ref a2)) Q E s) ∧ (Q (.bool (!isNil l)) s → wpAny C.M A (compareOp .NotEq (.ref a) (.ref a2)) Q E s) := by
  have q2 : l' = [] := isNil_iff.1 h'
  rw [q2] at r2
  have z2 : ys = [] := r2.inv
  rw [z2] at e2
  have len := r1.length
  cases q : isNil l with
  | true =>
    have q1 : l = [] := isNil_iff.1 q
    rw [q1] at r1
    have z1 : xs = [] := r1.inv
    rw [z1] at e1
    exact ⟨fun h => eq_intsK (ns := []) (ms := []) ⟨_, e1, rfl, _, rfl⟩ .nil ⟨_, e2, rfl, _, rfl⟩ .nil hu h, fun h => ne_intsK (ns := []) (ms := []) ⟨_, e1, rfl, _, rfl⟩ .nil ⟨_, e2, rfl, _, rfl⟩ .nil hu h⟩
  | false =>
    have q1 := isNil_iff.2 q
    have ne : (xs.toArray.size != ([] : List Value).toArray.size) = true := by rw [bne_iff_ne, List.size_toArray, List.size_toArray]; show xs.length ≠ 0; omega
    exact ⟨fun h => SeqAt.eq_list_lengthsAt ⟨_, e1, rfl, _, rfl⟩ ⟨_, e2, rfl, _, rfl⟩ ne (by omega) h, fun h => PySem.EqBoolInt.of_rcne (SeqAt.RcNeAt.lists_lengths ⟨_, e1, rfl, _, rfl⟩ ⟨_, e2, rfl, _, rfl⟩ ne (by omega)) h⟩
theorem two_lists {D : List Addr} {h : Heap} {a b : V} {x y : Value} {k : List V → List V → Prop} (la : LInv C h μ D a x) (lb : LInv C h μ D b y) (w : wL a fun i => wL b fun j => k i j) : ∃ l l' c d xs ys n m, x = .ref c ∧ y = .ref d ∧ h.get? c = some ⟨.type "list", Option.none, .seq xs.toArray n, #[]⟩ ∧ VRs C h μ D l xs ∧
    h.get? d = some ⟨.type "list", Option.none, .seq ys.toArray m, #[]⟩ ∧ VRs C h μ D l' ys ∧ k l l' :=
  let ⟨i, e, w⟩ := w.inv
  let ⟨j, e', w⟩ := w.inv
  let ⟨a1, xs, n, q1, e1, r1, p1⟩ := LInv.list (e ▸ la)
  let ⟨a2, ys, m, q2, e2, r2, p2⟩ := LInv.list (e' ▸ lb)
  ⟨i, j, a1, a2, xs, ys, n, m, q1, q2, e1, r1, e2, r2, w⟩
theorem cpEq0 : CmpOK C .Eq cEq0 := ⟨fun {n A fm μ vs hp s a b x y QB E k} rm R ra rb w kk => by
  obtain ⟨l, l', c, d, xs, ys, n, m, rfl, rfl, e1, r1, e2, r2, w⟩ := two_lists (look_lv R ra) (look_lv R rb) w
  obtain ⟨h', hl, w⟩ := w.inv
  exact (rc0 e1 r1 e2 r2 h' hl (hu_of rm)).1 (kk _ w)⟩

theorem cpNe0 : CmpOK C .NotEq cNe0 := ⟨fun {n A fm μ vs hp s a b x y QB E k} rm R ra rb w kk => by
  obtain ⟨l, l', c, d, xs, ys, n, m, rfl, rfl, e1, r1, e2, r2, w⟩ := two_lists (look_lv R ra) (look_lv R rb) w
  obtain ⟨h', hl, w⟩ := w.inv
  exact (rc0 e1 r1 e2 r2 h' hl (hu_of rm)).2 (kk _ w)⟩

theorem cpNeL : CmpOK C .NotEq cNeL := ⟨fun {n A fm μ vs hp s a b x y QB E k} rm R ra rb w kk => by
  obtain ⟨is, js, e, e', w⟩ := w
  obtain ⟨a1, xs, n, rfl, e1, r1, p1⟩ := LInv.list (e ▸ look_lv R ra)
  obtain ⟨a2, ys, m, rfl, e2, r2, p2⟩ := LInv.list (e' ▸ look_lv R rb)
  exact ne_intsK ⟨_, e1, rfl, _, rfl⟩ r1.ints ⟨_, e2, rfl, _, rfl⟩ r2.ints (hu_of rm) (kk _ w)⟩

theorem cpEqT : CmpOK C .Eq cEqT := ⟨fun {n A fm μ vs hp s a b x y QB E k} rm R ra rb w kk => by
  obtain ⟨is, js, e, e', w⟩ := w
  obtain ⟨a1, xs, n, rfl, e1, r1, p1⟩ := LInv.tup (e ▸ look_lv R ra)
  obtain ⟨a2, ys, m, rfl, e2, r2, p2⟩ := LInv.tup (e' ▸ look_lv R rb)
  exact eq_intsT ⟨_, e1, rfl, _, rfl⟩ r1.ints ⟨_, e2, rfl, _, rfl⟩ r2.ints (hu_of rm) (kk _ w)⟩

theorem cpNone : CmpOK C .IsNot cNone := ⟨fun {n A fm μ vs hp s a b x y QB E k} rm R ra rb w kk => by
  obtain ⟨e, w⟩ := w.inv
  have q : y = .none := (e ▸ look_lv R rb : LInv C s.heap μ (fm.D μ) .none y)
  rw [q]
  have la := look_lv R ra
  revert w la
  cases look hp a with
  | none => intro w la; rw [show x = .none from la]; exact wpAny_isNot_self (by rfl) (kk _ w)
  | tup l => intro w la; obtain ⟨a1, xs, n, rfl, _⟩ := LInv.tup la; exact wpAny_isNot_other (by rfl) (by intro x; cases x) (kk _ w)
  | _ => intro w; exact w.elim⟩

end

theorem look_dbytes : typeLookup (.type "bytes") "__bytes__" = pure (some (.builtin "bytes.__bytes__")) := by rw [typeLookup_type, builtinLookup_eq_fast]; kernel_rfl
theorem int_dbytes : typeLookup (.type "int") "__bytes__" = pure none := by rw [typeLookup_type, builtinLookup_eq_fast]; kernel_rfl
theorem int_dindex : typeLookup (.type "int") "__index__" = pure (some (.builtin "int.__index__")) := by rw [typeLookup_type, builtinLookup_eq_fast]; kernel_rfl
section
variable {prog : Program} {w : World} {A : Around} {E : Value → Shared → Prop} {s : Shared} {Q : Value → Shared → Prop}

theorem bb_new {b : Array UInt8} {t : Tok} (hQ : Q (.bytes b t) s) :
    codeAny (model prog w) A (.call (.builtin "bytes.__new__") ⟨[.type "bytes", .bytes b t], []⟩) (wants Q E) s := by
  refine codeAny_of_tree ?_
  show wpAny _ A.in1 (do checkBuiltinCall "bytes.__new__" ⟨[.type "bytes", .bytes b t], []⟩; again (.builtin "bytes.__new__" ⟨[.type "bytes", .bytes b t], []⟩)) _ _ s
  refine wpAny_bind (wpAny_of_eq (PySem.F.bm_newCall _) (wpAny_pure ⟨plainId_quiet PySem.F.bm_plain _, codeAny_builtin PySem.F.bm_entry ?_⟩))
  rw [Around.under_plainId PySem.F.bm_plain _]
  unfold Builtin.«bytes.__new__»
  refine wpAny_bind (wpAny_of_eq (a := true) rfl ?_)
  refine bm_if_false rfl ?_
  refine wpAny_bind (wpAny_of_eq PySem.F.bm_sub ?_)
  refine bm_if_false rfl ?_
  refine wpAny_bind (wpAny_of_eq (PySem.F.bm_bind _) ?_)
  refine wpAny_bind (wpAny_of_eq (a := ()) rfl ?_)
  refine wpAny_bind (wpAny_of_eq (a := ()) rfl ?_)
  refine bm_if_false rfl ?_
  refine wpAny_bind (wpAny_of_eq (KBy.special_eq look_dbytes) ?_)
  dsimp only
  refine wpAny_bind (wpAny_rule ?_)
  refine wpAny_bind (wpAny_of_eq (a := Value.type "bytes") rfl ?_)
  refine bm_if_true (by decide) ?_
  refine bm_if_true (by decide) ?_
  first
    | exact wpAny_bind (wpAny_pure (wpAny_pure hQ))
    | exact wpAny_pure hQ

theorem call_bytes_bytes {b : Array UInt8} {t : Tok} (hQ : Q (.bytes b t) s) : wpAny (model prog w) A (call (.type "bytes") [.bytes b t]) Q E s := by
  refine callType_codes (Q₁ := fun obj s₁ => s₁.TypeIs obj "bytes" ∧ Q obj s₁) PySem.F.bm_called (PySem.F.bm_typeCall _) PySem.F.entry_object_init
    (bb_new ⟨typeIs_bytes _ _ _, hQ⟩) fun obj s₁ h₁ => ?_
  exact ⟨h₁.1, PySem.F.args_object_init_2 obj _, object_init_meets PySem.F.bm_called.init.lookup PySem.F.bm_called.made (by decide) prog w A.in1 _ s₁ ⟨h₁.1, rfl, h₁.2⟩⟩

theorem bi_new {n : Int} {t : Tok} (h0 : 0 ≤ n) (h1 : n ≤ 1000000) (hQ : Q (.bytes (Array.replicate n.toNat 0) s.toks) { s with toks := s.toks + 1 }) :
    codeAny (model prog w) A (.call (.builtin "bytes.__new__") ⟨[.type "bytes", .int n t], []⟩) (wants Q E) s := by
  refine codeAny_of_tree ?_
  show wpAny _ A.in1 (do checkBuiltinCall "bytes.__new__" ⟨[.type "bytes", .int n t], []⟩; again (.builtin "bytes.__new__" ⟨[.type "bytes", .int n t], []⟩)) _ _ s
  refine wpAny_bind (wpAny_of_eq (PySem.F.bm_newCall _) (wpAny_pure ⟨plainId_quiet PySem.F.bm_plain _, codeAny_builtin PySem.F.bm_entry ?_⟩))
  rw [Around.under_plainId PySem.F.bm_plain _]
  unfold Builtin.«bytes.__new__»
  refine wpAny_bind (wpAny_of_eq (a := true) rfl ?_)
  refine bm_if_false rfl ?_
  refine wpAny_bind (wpAny_of_eq PySem.F.bm_sub ?_)
  refine bm_if_false rfl ?_
  refine wpAny_bind (wpAny_of_eq (PySem.F.bm_bind _) ?_)
  refine wpAny_bind (wpAny_of_eq (a := ()) rfl ?_)
  refine wpAny_bind (wpAny_of_eq (a := ()) rfl ?_)
  refine bm_if_false rfl ?_
  refine wpAny_bind (wpAny_of_eq (a := none) (by show typeLookup (.type "int") "__bytes__" = _; exact int_dbytes) ?_)
  dsimp only
  refine wpAny_bind (wpAny_of_eq (a := false) rfl ?_)
  refine bm_if_false rfl ?_
  refine wpAny_bind (wpAny_of_eq (a := some (.builtin "int.__index__")) (by show typeLookup (.type "int") "__index__" = _; exact int_dindex) ?_)
  refine bm_if_false rfl ?_
  refine wpAny_bind (wpAny_attempt (wpAny_of_eq (rfl : asIndex (.int n t) = pure n) ?_))
  dsimp only
  have hf : PySem.Builtin.Bytes.fitsIndex n = true := by unfold PySem.Builtin.Bytes.fitsIndex; simp; omega
  refine bm_if_false (by rw [hf]; rfl) ?_
  rw [if_neg (by omega)]
  rw [if_neg (by omega)]
  rw [if_neg (by rw [KBy.tooLong_not (by omega)]; decide)]
  refine wpAny_bind (wpAny_rule (wpAny_bind (wpAny_mkBytes ?_ (by rw [Array.size_replicate, sizeLine_eq]; omega))))
  refine bm_if_true (by decide) ?_
  first
    | exact wpAny_bind (wpAny_pure (wpAny_pure hQ))
    | exact wpAny_pure hQ

theorem call_bytes_int {n : Int} {t : Tok} (h0 : 0 ≤ n) (h1 : n ≤ 1000000) (hQ : Q (.bytes (Array.replicate n.toNat 0) s.toks) { s with toks := s.toks + 1 }) : wpAny (model prog w) A (call (.type "bytes") [.int n t]) Q E s := by
  refine callType_codes (Q₁ := fun obj s₁ => s₁.TypeIs obj "bytes" ∧ Q obj s₁) PySem.F.bm_called (PySem.F.bm_typeCall _) PySem.F.entry_object_init
    (bi_new h0 h1 ⟨typeIs_bytes _ _ _, hQ⟩) fun obj s₁ h₁ => ?_
  exact ⟨h₁.1, PySem.F.args_object_init_2 obj _, object_init_meets PySem.F.bm_called.init.lookup PySem.F.bm_called.made (by decide) prog w A.in1 _ s₁ ⟨h₁.1, rfl, h₁.2⟩⟩
end
theorem slot_bjoin : Slot "bytes" "join" "bytes.join" :=
  .of (owner := "bytes") (n := "join") (by rw [typeLookup_type, builtinLookup_eq_fast]; kernel_rfl) (by decide +kernel) (by decide +kernel) (by decide +kernel)
    (by first | exact .inl (by decide +kernel) | exact .inr (by decide +kernel)) (by rw [isSubtype_type]; kernel_rfl)
theorem type_bjoin : typeOf (.builtin "bytes.join") = pure (.type "method_descriptor") := by show builtinType _ = _; rw [builtinType_eq_fast]; kernel_rfl
theorem entry_bjoin : entryFor table "bytes.join" = some Builtin.«bytes.join» := entryFor_of_tree (by kernel_rfl)
theorem args_bjoin (a b : Value) : argsOk "bytes.join" ⟨[a, b], []⟩ := by
  unfold argsOk; rw [signature?_of (id := "bytes.join") (n := ['n', 'i', 'o', 'j']) (o := ['s', 'e', 't', 'y', 'b']) (by kernel_rfl) FB.owner_bytes]; kernel_rfl

section
variable {M : Model} {prog : Program} {w : World} {A : Around} {E : Value → Shared → Prop} {s : Shared}

theorem take_bytes {b : Array UInt8} {t : Tok} {id : String} : Builtin.Bytes.takeBufferQuiet? id (.bytes b t) 0 = pure (some (b, none)) := by
  have h : Builtin.Bytes.takeBuffer? id (.bytes b t) 0 = pure (some (b, none)) := by
    unfold Builtin.Bytes.takeBuffer?
    rw [KBy.special_eq KBy.look_buffer, KBy.own_buffer]
    show (Builtin.Bytes.buffer? id (.bytes b t) _ >>= _) = _
    rw [show (Builtin.Bytes.buffer? id (.bytes b t) (0 == Builtin.Bytes.fullReadOnly)) = pure (some b) from by
      first
        | exact KBy.buffer_eq
        | (rw [show ((0 : Int) == Builtin.Bytes.fullReadOnly) = false from by decide]; exact KBy.buffer_eq)]
    rfl
  unfold Builtin.Bytes.takeBufferQuiet?
  rw [h]
  rfl

theorem letgo_all {taken : List (Value × Option Value)} {keep : List Value} {Q : Unit → Shared → Prop} (h1 : ∀ p ∈ taken, p.2 = none) (h : Q () s) : wpAny M A (Builtin.Bytes.joinLetGo taken keep) Q E s := by
  induction taken with
  | nil => exact wpAny_pure h
  | cons p r ih =>
    obtain ⟨x, w⟩ := p
    have hw : w = none := h1 (x, w) (List.mem_cons_self ..)
    subst hw
    unfold Builtin.Bytes.joinLetGo
    dsimp only
    refine wpAny_bind (wpAny_letGo (ih fun p hp => h1 p (List.mem_cons_of_mem _ hp)))

inductive BytesAre : List Value → List (List UInt8) → Prop
  | nil : BytesAre [] []
  | cons (b : List UInt8) (t : Tok) {xs bs} : BytesAre xs bs → BytesAre (.bytes b.toArray t :: xs) (b :: bs)
theorem BytesAre.length {xs : List Value} {bs : List (List UInt8)} (h : BytesAre xs bs) : xs.length = bs.length := by
  induction h with
  | nil => rfl
  | cons _ _ _ ih => simp [ih]
theorem BytesAre.get {xs : List Value} {bs : List (List UInt8)} (h : BytesAre xs bs) {i : Nat} (hi : i < xs.length) : ∃ b t, xs[i]? = some (.bytes b.toArray t) ∧ bs[i]? = some b := by
  induction h generalizing i with
  | nil => simp at hi
  | cons b t _ ih =>
    cases i with
    | zero => exact ⟨b, t, rfl, rfl⟩
    | succ i => obtain ⟨b', t', e1, e2⟩ := ih (by simpa using hi); exact ⟨b', t', by simpa using e1, by simpa using e2⟩

theorem joined_nil (parts : List (Array UInt8)) : Builtin.Bytes.joined #[] parts = parts.foldl (· ++ ·) #[] := by
  unfold Builtin.Bytes.joined
  have key : ∀ (l : List (Array UInt8)) (k : Nat) (out : Array UInt8), (l.zipIdx k).foldl (fun out (p, i) => (if i > 0 then out ++ #[] else out) ++ p) out = l.foldl (· ++ ·) out := by
    intro l
    induction l with
    | nil => intro k out; rfl
    | cons p l ih =>
      intro k out
      rw [List.zipIdx_cons, List.foldl_cons, List.foldl_cons, ih]
      congr 1
      dsimp only
      split <;> simp
  exact key parts 0 #[]
theorem fold_toArray (bs : List (List UInt8)) (out : List UInt8) : (bs.map List.toArray).foldl (· ++ ·) out.toArray = (out ++ bs.flatten).toArray := by
  induction bs generalizing out with
  | nil => simp
  | cons b bs ih => simp only [List.map_cons, List.foldl_cons, List.append_toArray, List.flatten_cons]; rw [ih]; simp

theorem sum_len (bs : List (List UInt8)) (k : Nat) : (bs.map List.toArray).foldl (fun (a : Nat) (p : Array UInt8) => a + p.size) k = k + bs.flatten.length := by
  induction bs generalizing k with
  | nil => simp
  | cons b bs ih => simp only [List.map_cons, List.foldl_cons, List.flatten_cons, List.length_append]; rw [ih]; simp; omega

theorem join_run {l : Addr} {xs : List Value} {bs : List (List UInt8)} {n : Nat} {t : Tok} {Q : Value → Shared → Prop} (hl : s.heap.get? l = some ⟨.type "list", none, .seq xs.toArray n, #[]⟩) (hb : BytesAre xs bs) (h1 : bs.flatten.length ≤ 1000000) (h2 : bs.length ≤ 1000)
    (hQ : ∀ t' k, Q (.bytes bs.flatten.toArray t') { s with toks := k }) : wpAny (model prog w) A (call (.builtin "bytes.join") [.bytes ([] : List UInt8).toArray t, .ref l]) Q E s := by
  have hlen := hb.length
  refine wpAny_call (codeAny_call_builtin slot_bjoin.plain entry_bjoin (slot_bjoin.check _ _ _ _ _ _ _ _ (typeIs_bytes _ _ _) (args_bjoin _ _) ?_))
  unfold Builtin.«bytes.join» Builtin.Bytes.joinM
  dsimp only
  refine wpAny_bind (wpAny_pure ?_)
  dsimp only
  rw [if_pos (by decide)]
  refine wpAny_bind ?_
  unfold Builtin.Bytes.joinItems
  refine wpAny_bind (Looks.here (show Looks _ s.heap (typeOf (.ref l)) (.type "list") from (Looks.ld hl).andThen .now) ?_)
  rw [if_pos (by decide)]
  refine wpAny_pure ?_
  have items : ∀ (s' : Shared), s'.heap = s.heap → ∀ {P : Option (Array Value) → Shared → Prop} {E' : Value → Shared → Prop} {A' : Around}, P (some xs.toArray) s' → wpAny (model prog w) A' (seqItems? (.ref l)) P E' s' := fun s' hs' P E' A' h => by
    unfold seqItems?
    refine wpAny_bind (wpAny_load (by rw [hs']; exact hl) ?_)
    exact wpAny_pure h
  refine wpAny_bind (items s rfl ?_)
  dsimp only
  rw [if_pos (by decide)]
  by_cases h1 : ∃ x, xs = [x]
  · obtain ⟨x, rfl⟩ := h1
    cases hb with
    | cons b t' r =>
      cases r with
      | nil =>
        refine wpAny_bind (wpAny_of_eq (a := Value.type "bytes") rfl ?_)
        rw [if_pos (by decide)]
        refine wpAny_bind (wpAny_rule ?_)
        have := hQ t' s.toks
        rw [show ([b].flatten) = b from by simp] at this
        exact wpAny_pure this
  · have hm : ∀ {β : Type} (f : Value → β) (k : β), (match xs.toArray with | #[x] => f x | _ => k) = k := by
      intro β f k
      rcases xs with _ | ⟨x, _ | ⟨y, r⟩⟩
      · rfl
      · exact absurd ⟨x, rfl⟩ h1
      · rfl
    refine (congrArg (fun t => wpAny (model prog w) A.in1 t _ _ s) (hm _ _)).mpr ?_
    · rw [Std.Legacy.Range.forIn_eq_forIn_range']
      refine wpAny_bind (wpAny_forIn_list _ (fun rest (b : Array (Array UInt8) × List (Value × Option Value)) s' => s' = s ∧ ∃ i, i ≤ xs.length ∧ rest = List.range' i (xs.length - i) ∧ b = (((bs.take i).map List.toArray).toArray, (xs.take i).map fun x => (x, none))) _ ?_ ?_ _ _ ⟨rfl, 0, Nat.zero_le _, by simp [Std.Legacy.Range.size], rfl⟩)
      · rintro j rest b s' ⟨rfl, i, hi, hr, rfl⟩
        have hlt : i < xs.length := by
          rcases Nat.lt_or_ge i xs.length with h | h
          · exact h
          · rw [Nat.sub_eq_zero_of_le h] at hr; cases hr
        have hji : j = i ∧ rest = List.range' (i + 1) (xs.length - (i + 1)) := by
          obtain ⟨k, hk⟩ : ∃ k, xs.length - i = k + 1 := ⟨xs.length - i - 1, by omega⟩
          rw [hk, List.range'_succ] at hr
          cases hr
          exact ⟨rfl, by congr 1; omega⟩
        obtain ⟨rfl, rfl⟩ := hji
        obtain ⟨b, tb, e1, e2⟩ := hb.get hlt
        refine wpAny_bind (items s' rfl ?_)
        dsimp only
        have hx : xs.toArray.getD j Value.none = .bytes b.toArray tb := by simp [Array.getD, hlt]; rw [List.getElem?_eq_getElem hlt] at e1; exact Option.some.inj e1
        rw [hx]
        rw [if_neg (by
          simp only [Bool.or_eq_true, List.any_eq_true, not_or, not_exists, not_and]
          refine ⟨by decide, fun p hp => ?_⟩
          obtain ⟨y, hy, rfl⟩ := List.mem_map.mp hp
          have hyx := List.mem_of_mem_take hy
          have key : ∀ {xs : List Value} {bs : List (List UInt8)}, BytesAre xs bs → ∀ y ∈ xs, y.onHeap = false := by
            intro xs bs h
            induction h with
            | nil => intro y hy; simp at hy
            | cons b t _ ih =>
              intro y hy
              rcases List.mem_cons.mp hy with q | q
              · subst q; rfl
              · exact ih y q
          rw [key hb y hyx]; decide)]
        refine wpAny_bind (wpAny_holding (wpAny_of_eq take_bytes ?_))
        dsimp only
        refine wpAny_bind (items s' rfl ?_)
        dsimp only
        rw [if_neg (by simp)]
        refine wpAny_pure ⟨rfl, j + 1, hlt, rfl, ?_⟩
        have e1' : xs.take (j + 1) = xs.take j ++ [.bytes b.toArray tb] := by rw [List.take_add_one, e1]; rfl
        have e2' : bs.take (j + 1) = bs.take j ++ [b] := by rw [List.take_add_one, e2]; rfl
        rw [e1', e2']
        simp
      · rintro b s' ⟨rfl, i, hi, hr, rfl⟩
        have hin : i = xs.length := by
          have := congrArg List.length hr
          simp at this; omega
        subst hin
        have e1 : xs.take xs.length = xs := List.take_length
        have e2 : bs.take xs.length = bs := by rw [hlen]; exact List.take_length
        rw [e1, e2]
        dsimp only
        refine wpAny_bind (wpAny_of_eq (a := ([] : List UInt8).toArray) rfl ?_)
        have hs := sum_len bs 0
        rw [if_neg (by
          have : (bs.map List.toArray).toArray.foldl (fun x1 x2 => x1 + x2.size) (([] : List UInt8).toArray.size * ((bs.map List.toArray).toArray.size - 1)) = bs.flatten.length := by
            rw [List.foldl_toArray]
            simpa using hs
          rw [this, KBy.tooLong_not (by omega)]; decide)]
        have hj : Builtin.Bytes.joined ([] : List UInt8).toArray (bs.map List.toArray).toArray.toList = bs.flatten.toArray := by
          show Builtin.Bytes.joined #[] _ = _
          rw [joined_nil]
          have := fold_toArray bs []
          simpa using this
        refine wpAny_bind ?_
        show wpAny _ _ (mkBytes _) _ _ _
        rw [hj]
        refine wpAny_mkBytes ?_ (by rw [List.size_toArray, sizeLine_eq]; omega)
        refine wpAny_bind (wpAny_holding (wpAny_point ?_))
        refine wpAny_bind (letgo_all (fun p hp => by obtain ⟨y, _, rfl⟩ := List.mem_map.mp hp; rfl) ?_)
        exact wpAny_pure (hQ _ _)
end

noncomputable def kRun {α : Type} (lt : Nat → Nat → Bool) : KasT α → α
  | .ret a => a
  | .ask i j k => kRun lt (k (lt i j))
noncomputable def kOk {α : Type} (n : Nat) (lt : Nat → Nat → Bool) : KasT α → Bool
  | .ret _ => true
  | .ask i j k => decide (i < n) && decide (j < n) && (i != j) && kOk n lt (k (lt i j))
theorem kRun_wp {α : Type} {n : Nat} {lt : Nat → Nat → Bool} {cmp : Nat → Nat → (Bool → Shared → Prop) → Shared → Prop} {J : Shared → Prop} {Q : α → Shared → Prop}
    (hc : ∀ i j C s, i < n → j < n → i ≠ j → J s → (∀ s', J s' → C (lt i j) s') → cmp i j C s) : ∀ (t : KasT α) (s : Shared), kOk n lt t = true → J s → (∀ s', J s' → Q (kRun lt t) s') → t.kasWp cmp Q s
  | .ret a, s, _, j, h => h s j
  | .ask i j k, s, o, js, h => by
    simp only [kOk, Bool.and_eq_true, decide_eq_true_eq, bne_iff_ne] at o
    exact hc i j _ s o.1.1.1 o.1.1.2 o.1.2 js fun s' js' => kRun_wp hc (k (lt i j)) s' o.2 js' h

noncomputable def tab2 (x : Bool) : Nat → Nat → Bool := fun i j => if i = 0 ∧ j = 1 then x else if i = 1 ∧ j = 0 then !x else false
noncomputable def tab3 (x y z : Bool) : Nat → Nat → Bool := fun i j => if i = 0 ∧ j = 1 then x else if i = 1 ∧ j = 0 then !x else if i = 1 ∧ j = 2 then y else if i = 2 ∧ j = 1 then !y else if i = 0 ∧ j = 2 then z else if i = 2 ∧ j = 0 then !z else false
theorem k2 : ∀ x : Bool, kOk 2 (tab2 x) (kas_sort 2) = true ∧ (kRun (tab2 x) (kas_sort 2)).toList = (if x then [0, 1] else [1, 0]) := by decide +kernel
/-- what insertion makes of three -/
noncomputable def ins3 (x y z : Bool) : List Nat := if y then (if x then [0, 1, 2] else if z then [1, 0, 2] else [1, 2, 0]) else (if z then (if x then [0, 2, 1] else [0, 2, 1]) else (if x then [2, 0, 1] else [2, 1, 0]))
theorem k3 : ∀ x y z : Bool, (x && y && !z) = false → (!x && !y && z) = false → kOk 3 (tab3 x y z) (kas_sort 3) = true ∧ (kRun (tab3 x y z) (kas_sort 3)).toList = ins3 x y z := by decide +kernel

noncomputable abbrev RowT := Int × Int × List UInt8
noncomputable def RowAt (h : Heap) (v : Value) (r : RowT) : Prop := ∃ a n t u w, v = .ref a ∧ h.get? a = some ⟨.type "tuple", none, .seq [.int r.1 t, .int r.2.1 u, .bytes r.2.2.toArray w].toArray n, #[]⟩
inductive RowsAre (h : Heap) : List Value → List RowT → Prop
  | nil : RowsAre h [] []
  | cons (v : Value) (r : RowT) {vs rs} : RowAt h v r → RowsAre h vs rs → RowsAre h (v :: vs) (r :: rs)
theorem RowsAre.length {h : Heap} {vs : List Value} {rs : List RowT} (x : RowsAre h vs rs) : vs.length = rs.length := by
  induction x with
  | nil => rfl
  | cons _ _ _ _ ih => simp [ih]
noncomputable abbrev r0 : RowT := (0, 0, [])
theorem RowsAre.get {h : Heap} {vs : List Value} {rs : List RowT} (x : RowsAre h vs rs) {i : Nat} (hi : i < rs.length) : RowAt h (vs.getD i .none) (rs.getD i r0) := by
  induction x generalizing i with
  | nil => simp at hi
  | cons v r a _ ih =>
    cases i with
    | zero => simpa using a
    | succ i => simpa using ih (by simpa using hi)

section
variable {prog : Program} {w : World} {A : Around} {E : Value → Shared → Prop} {s : Shared} {h₀ : Heap} {L l : Addr} {m : Str → Option Value} {news : List (Addr × Obj)} {vs : List Value}

theorem cmp_rows {x y : Value} {r q : RowT} {C : Bool → Shared → Prop} (hx : RowAt s.heap x r) (hy : RowAt s.heap y q) (hne : (r.1 == q.1 && r.2.1 == q.2.1) = false) (h : C (rowLt r q) s) : wpAny (model prog w) A (keyLt' (tuples' true) x y) C E s := by
  obtain ⟨a, n, t, u, v, rfl, ha⟩ := hx
  obtain ⟨b, k, t', u', v', rfl, hb⟩ := hy
  refine kat_lt ha rfl hb rfl ?_
  refine kat_cons (wpAny_eqBool_int ?_)
  cases e1 : (r.1 == q.1) with
  | false =>
    refine kat_no (oneLt_int ?_)
    have : rowLt r q = decide (r.1 < q.1) := by unfold rowLt; rw [e1]; simp
    rw [← this]; exact h
  | true =>
    refine kat_yes (kat_cons (wpAny_eqBool_int ?_))
    rw [e1, Bool.true_and] at hne
    rw [hne]
    refine kat_no (kat_one _ _ (P.lt_int ?_))
    have e2 := eq_of_beq e1
    have : rowLt r q = decide (r.2.1 < q.2.1) := by unfold rowLt; rw [e1, e2]; simp
    rw [← this]; exact h

theorem rowLt_flip {r q : RowT} (hne : (r.1 == q.1 && r.2.1 == q.2.1) = false) : rowLt q r = !rowLt r q := by
  unfold rowLt
  have : ¬ (r.1 = q.1 ∧ r.2.1 = q.2.1) := by
    rintro ⟨a, b⟩
    rw [a, b] at hne; simp at hne
  by_cases h1 : r.1 = q.1
  · have h2 : r.2.1 ≠ q.2.1 := fun e => this ⟨h1, e⟩
    have h3 : (q.2.1 < r.2.1) ↔ ¬ (r.2.1 < q.2.1) := by omega
    by_cases h4 : r.2.1 < q.2.1 <;> simp [h1, h3, h4]
  · have h1' : ¬ q.1 = r.1 := fun e => h1 e.symm
    have h3 : (q.1 < r.1) ↔ ¬ (r.1 < q.1) := by omega
    by_cases h4 : r.1 < q.1 <;> simp [h1, h1', h3, h4]

theorem apart_get : ∀ {rs : List RowT}, apart rs = true → ∀ i j, i < rs.length → j < rs.length → i ≠ j → ((rs.getD i r0).1 == (rs.getD j r0).1 && (rs.getD i r0).2.1 == (rs.getD j r0).2.1) = false
  | [], _, i, j, hi, _, _ => by simp at hi
  | r :: rs, hap, i, j, hi, hj, hij => by
    simp only [apart, Bool.and_eq_true, List.all_eq_true, Bool.not_eq_true'] at hap
    have mem : ∀ k, k < rs.length → rs.getD k r0 ∈ rs := fun k hk => by
      have : rs.getD k r0 = rs[k] := by simp [List.getD, List.getElem?_eq_getElem hk]
      rw [this]; exact List.getElem_mem hk
    cases i with
    | zero =>
      cases j with
      | zero => exact absurd rfl hij
      | succ j => exact hap.1 _ (mem j (by simpa using hj))
    | succ i =>
      cases j with
      | zero =>
        have h := hap.1 _ (mem i (by simpa using hi))
        have e : ∀ a b c d : Int, (a == b && c == d) = (b == a && d == c) := fun a b c d => by rw [Bool.beq_comm (a := a), Bool.beq_comm (a := c)]
        exact (e _ _ _ _).trans h
      | succ j => exact apart_get hap.2 i j (by simpa using hi) (by simpa using hj) (fun e => hij (by rw [e]))

theorem firsts_are {h : Heap} {rs : List RowT} (x : RowsAre h vs rs) : ∃ fs, KatTups h vs fs ∧ fs.length = vs.length ∧ ∀ v ∈ fs, ∃ i t, v = .int i t := by
  induction x with
  | nil => exact ⟨[], .nil, rfl, by simp⟩
  | cons v r a _ ih =>
    obtain ⟨fs, k, e, f⟩ := ih
    obtain ⟨ad, n, t, u, w, rfl, ha⟩ := a
    refine ⟨.int r.1 t :: fs, .cons ha rfl rfl rfl k, by simp [e], fun v hv => ?_⟩
    rcases List.mem_cons.mp hv with q | q
    · exact ⟨_, _, q⟩
    · exact f v q

theorem sorted_rows {rs : List RowT} {Q : Value → Shared → Prop} (F : Fr h₀ L s.heap m) (N : News h₀ L s.heap news) (hl : s.heap.IsList l vs.toArray) (h2 : 2 ≤ rs.length) (h3 : rs.length ≤ 3) (hap : apart rs = true)
    (hr : ∀ h', Fr h₀ L h' m → News h₀ L h' news → RowsAre h' vs rs)
    (k : ∀ D c h' (p : List Nat), Fr h₀ L h' m → News h₀ L h' ((D, listOf (p.map fun i => vs.getD i Value.none).toArray c) :: news) → (∀ q ∈ news, q.1 < D) → (∀ i ∈ p, i < rs.length) → rowSort rs = p.map (fun i => rs.getD i r0) → Q (.ref D) { s with heap := h' }) :
    wpAny (model prog w) A (call (.builtin "sorted") [.ref l]) Q E s := by
  have hlen := (hr _ F N).length
  refine kat_sorted F N hl (by omega) (by omega) fun D e1 h' F' N' l1 => ?_
  have N2 : News h₀ L h' news := fun p hp => N' p (List.mem_cons_of_mem _ hp)
  have rows := hr h' F' N2
  obtain ⟨fs, kt, fl, fi⟩ := firsts_are rows
  refine kat_kind (s := { s with heap := h' }) kt (by omega) (T := .type "int") (fun v hv => by obtain ⟨i, t, rfl⟩ := fi v hv; exact Looks.of_pure rfl) (by decide) ?_
  rw [show (Value.type "int" != Value.type "tuple") = true from by decide]
  -- the answers
  let lt : Nat → Nat → Bool := fun i j => rowLt (rs.getD i r0) (rs.getD j r0)
  have hne := apart_get hap
  have flip : ∀ i j, i < rs.length → j < rs.length → i ≠ j → lt j i = !lt i j := fun i j hi hj hij => rowLt_flip (hne i j hi hj hij)
  have cmp : ∀ i j (C : Bool → Shared → Prop) (s' : Shared), i < rs.length → j < rs.length → i ≠ j → s' = { s with heap := h' } → (∀ s'', s'' = { s with heap := h' } → C (lt i j) s'') → kas_ask prog w A.in1.in1 (tuples' true) vs i j C s' := fun i j C s' hi hj hij e hC => by
    subst e
    exact cmp_rows (s := { s with heap := h' }) (rows.get hi) (rows.get hj) (hne i j hi hj hij) (hC _ rfl)
  have fin : ∀ p : Array Nat, (∀ i ∈ p.toList, i < rs.length) → rowSort rs = p.toList.map (fun i => rs.getD i r0) → KasFin h₀ L m D e1 (p.toList.map fun i => vs.getD i Value.none) (fun s3 => Q (.ref D) s3) { s with heap := h' } := fun p hp hs =>
    KasFin.intro F' N' (g := fun o => (D, o) :: news) (.head fun q hq => Nat.ne_of_lt (l1 q hq)) fun h'' c F3 N3 => k D c h'' p.toList F3 N3 l1 hp hs
  obtain ⟨a, b, rest, rfl⟩ : ∃ a b rest, rs = a :: b :: rest := by
    match rs, h2 with
    | [], h => simp at h
    | [_], h => simp at h
    | a :: b :: rest, _ => exact ⟨a, b, rest, rfl⟩
  cases rest with
  | nil =>
    have hv : vs.length = 2 := hlen
    rw [hv]
    have f01 := flip 0 1 (by simp) (by simp) (by decide)
    obtain ⟨o, r⟩ := k2 (lt 0 1)
    have agree : ∀ i j, i < 2 → j < 2 → i ≠ j → tab2 (lt 0 1) i j = lt i j := fun i j hi hj hij => by
      rcases (by omega : (i = 0 ∧ j = 1) ∨ (i = 1 ∧ j = 0)) with ⟨rfl, rfl⟩ | ⟨rfl, rfl⟩
      · rfl
      · rw [f01]; rfl
    refine kRun_wp (n := 2) (lt := tab2 (lt 0 1)) (J := fun s' => s' = { s with heap := h' }) (fun i j C s' hi hj hij js hC => ?_) _ _ o rfl fun s' js => ?_
    · rw [agree i j hi hj hij] at hC
      exact cmp i j C s' hi hj hij js hC
    · subst js
      have e : lt 0 1 = rowLt a b := rfl
      have e10 : rowLt b a = !rowLt a b := f01
      refine fin _ ?_ ?_
      · rw [r]; intro i hi; split at hi <;> simp at hi <;> simp <;> omega
      · rw [r, e]
        unfold rowSort
        simp only [List.foldr, rowIns, e10]
        cases rowLt a b <;> rfl
  | cons c rest =>
    cases rest with
    | cons d rest => simp at h3
    | nil =>
      have hv : vs.length = 3 := hlen
      rw [hv]
      have f01 := flip 0 1 (by simp) (by simp) (by decide)
      have f12 := flip 1 2 (by simp) (by simp) (by decide)
      have f02 := flip 0 2 (by simp) (by simp) (by decide)
      have tr : ∀ {x y z : RowT}, rowLt x y = true → rowLt y z = true → rowLt x z = true := by
        intro x y z h1 h2
        simp only [rowLt, Bool.or_eq_true, decide_eq_true_eq, Bool.and_eq_true, beq_iff_eq] at h1 h2 ⊢
        omega
      have t1 : (lt 0 1 && lt 1 2 && !lt 0 2) = false := by
        cases q1 : lt 0 1 <;> cases q2 : lt 1 2 <;> simp
        exact tr q1 q2
      have t2 : (!lt 0 1 && !lt 1 2 && lt 0 2) = false := by
        cases q1 : lt 0 1 <;> cases q2 : lt 1 2 <;> simp
        rw [q1] at f01; rw [q2] at f12
        have h20 := tr f12 f01
        have h20' : lt 2 0 = true := h20
        rw [f02] at h20'
        simpa using h20'
      obtain ⟨o, r⟩ := k3 (lt 0 1) (lt 1 2) (lt 0 2) t1 t2
      have agree : ∀ i j, i < 3 → j < 3 → i ≠ j → tab3 (lt 0 1) (lt 1 2) (lt 0 2) i j = lt i j := fun i j hi hj hij => by
        rcases (by omega : (i = 0 ∧ j = 1) ∨ (i = 1 ∧ j = 0) ∨ (i = 1 ∧ j = 2) ∨ (i = 2 ∧ j = 1) ∨ (i = 0 ∧ j = 2) ∨ (i = 2 ∧ j = 0)) with ⟨rfl, rfl⟩ | ⟨rfl, rfl⟩ | ⟨rfl, rfl⟩ | ⟨rfl, rfl⟩ | ⟨rfl, rfl⟩ | ⟨rfl, rfl⟩
        · rfl
        · rw [f01]; rfl
        · rfl
        · rw [f12]; rfl
        · rfl
        · rw [f02]; rfl
      refine kRun_wp (n := 3) (lt := tab3 (lt 0 1) (lt 1 2) (lt 0 2)) (J := fun s' => s' = { s with heap := h' }) (fun i j C s' hi hj hij js hC => ?_) _ _ o rfl fun s' js => ?_
      · rw [agree i j hi hj hij] at hC
        exact cmp i j C s' hi hj hij js hC
      · subst js
        refine fin _ ?_ ?_
        · rw [r]; intro i hi; unfold ins3 at hi; (repeat' split at hi) <;> simp at hi <;> simp <;> omega
        · rw [r]
          have e01 : lt 0 1 = rowLt a b := rfl
          have e12 : lt 1 2 = rowLt b c := rfl
          have e02 : lt 0 2 = rowLt a c := rfl
          have g10 : rowLt b a = !rowLt a b := f01
          have g21 : rowLt c b = !rowLt b c := f12
          have g20 : rowLt c a = !rowLt a c := f02
          rw [e01, e12, e02]
          unfold rowSort
          simp only [List.foldr, rowIns, g21]
          cases rowLt b c <;> simp only [Bool.not_true, Bool.not_false, Bool.false_eq_true, if_true, if_false, rowIns, g10, g20] <;> cases rowLt a b <;> cases rowLt a c <;> rfl
end

noncomputable def natIx (l : List V) (k : Int) (f : V → Prop) : Prop := ∃ j v, idx l.length k = some j ∧ l.getD j .none = v ∧ f v
/-- an item of octets, of a row, of a table -/
noncomputable def iB (x y : V) (hp : List V) (K : V → List V → Prop) : Prop := wB (look hp x) fun b => wI y fun k => (0 ≤ k ∧ k < b.length ∧ b.length ≤ 1000000) ∧ K (.int (b.getD k.toNat 0).toNat) hp
noncomputable def iL (x y : V) (hp : List V) (K : V → List V → Prop) : Prop := wL (look hp x) fun l => wI y fun k => l.length ≤ 1000000 ∧ natIx l k fun v => K v hp
noncomputable def iT (x y : V) (hp : List V) (K : V → List V → Prop) : Prop := wT (look hp x) fun l => wI y fun k => l.length ≤ 1000000 ∧ natIx l k fun v => K v hp
noncomputable def iD (x y : V) (hp : List V) (K : V → List V → Prop) : Prop := wD (look hp x) fun l => wI y fun k => ∃ v, dget l k = some v ∧ K (.int v) hp
noncomputable def eItem (f : V → V → List V → (V → List V → Prop) → Prop) (a b : WP) : WP := fun hp K X => a hp (fun x hp1 => b hp1 (fun y hp2 => f x y hp2 K) X) X
noncomputable def eCut (a b c : WP) : WP := fun hp K X => a hp (fun x hp1 => b hp1 (fun y hp2 => c hp2 (fun z hp3 => wB x fun o => wI y fun l => wI z fun h => (0 ≤ l ∧ l ≤ h ∧ h ≤ o.length ∧ o.length ≤ 1000000) ∧ K (.bytes ((o.drop l.toNat).take (h - l).toNat)) hp3) X) X) X
noncomputable def eCutH (a c : WP) : WP := fun hp K X => a hp (fun x hp1 => c hp1 (fun z hp3 => wB x fun o => wI z fun h => (0 ≤ h ∧ h ≤ o.length ∧ o.length ≤ 1000000) ∧ K (.bytes (o.take h.toNat)) hp3) X) X
noncomputable def eRev (a : WP) : WP := fun hp K X => a hp (fun x hp1 => wL x fun l => l.length ≤ 1000 ∧ K (.list l.reverse) hp1) X
/-- what an item's soundness is -/
structure ItOK (C : Cx) (f : V → V → List V → (V → List V → Prop) → Prop) : Prop where
  run : ∀ {fm μ vs hp s A value slice a b x y Q E K X}, Rel C fm μ vs hp s → VR C s.heap μ (fm.D μ) a x → VR C s.heap μ (fm.D μ) b y → f a b hp K → KE C fm vs μ s K X Q E → wpAny C.M A (subscriptTail value slice x y) Q E s

section
variable {C : Cx} {F : Frm} {fm : Fm} {μ μ' μ₀ : Mu} {vs vs' : Vars} {hp hp' : List V} {s s' s₀ : Shared} {A : Around} {Q : Value → Shared → Prop} {QB : Bool → Shared → Prop} {QL : List Value → Shared → Prop} {E : Value → Shared → Prop} {n : Nat}

theorem tail_sound {prog : Program} {w : World} {value slice : Expr} {o i : Value} {T id : String} (hT : s.TypeIs o T)
    (hl : typeLookup (.type T) "__getitem__" = pure (some (.builtin id))) (h : wpAny (model prog w) A (getItem o i) Q E s) : wpAny (model prog w) A (subscriptTail value slice o i) Q E s := by
  have : ∃ ops, subscripted slice false o i = operate ops (getItem o i) := by
    unfold subscripted
    split
    · exact ⟨_, rfl⟩
    · rename_i h; cases h
    · exact ⟨_, rfl⟩
  obtain ⟨ops, e⟩ := this
  exact tail_any hT hl h e

theorem DictI.get {kvs : List (Int × Value)} {l : List (Int × Int)} (d : DictI kvs l) (k : Int) : (dget l k = none → valueAt kvs k = none) ∧ ∀ v, dget l k = some v → ∃ t, valueAt kvs k = some (.int v t) := by
  induction d with
  | nil => exact ⟨fun _ => rfl, fun v h => by cases h⟩
  | @cons k' i t kvs l d ih =>
    by_cases h : k' = k
    · subst h
      simp [dget, valueAt]
    · have e1 : dget ((k', i) :: l) k = dget l k := by simp [dget, h]
      have e2 : valueAt ((k', .int i t) :: kvs) k = valueAt kvs k := by simp [valueAt, h]
      rw [e1, e2]; exact ih

theorem isDict_mapOf {a : Addr} {o : Obj} {kvs : List (Int × Value)} {prog : Program} {w : World} (e : s.heap.get? a = some o) (d : o.IsDictOf (intKind prog w) kvs) : s.heap.MapOf (intKind prog w) a (valueAt kvs) :=
  Heap.DictOf.mapOf (Heap.dictOf_iff.mpr ⟨o, e, d⟩)

theorem idx_spec {n j : Nat} {k : Int} (h : idx n k = some j) : j < n ∧ -(n : Int) ≤ k ∧ k < n ∧ seqIndex? k n = some j := by
  unfold idx at h
  split at h
  · rename_i h0
    split at h
    · rename_i h1
      cases h
      have h2 : ¬ k < 0 := by omega
      refine ⟨by omega, by omega, h1, ?_⟩
      unfold seqIndex?
      simp [h2, h0, h1]
    · cases h
  · rename_i h0
    split at h
    · rename_i h1
      cases h
      have h2 : k < 0 := by omega
      have h3 : k + (n : Int) < n := by omega
      refine ⟨by omega, by omega, by omega, ?_⟩
      unfold seqIndex?
      simp only [h2, if_true]
      rw [if_pos (by simp only [Bool.and_eq_true, decide_eq_true_eq]; exact ⟨h1, h3⟩)]
    · cases h


theorem SE.item {f o i p A B} (h : ItOK C f) (ho : SE C n F vs o A) (hi : SE C n F vs i B) : SE C n F vs (.Subscript o i p) (eItem f A B) := ⟨fun a w k =>
  Subscript_ (ho.run a w (.of (fun _ _ _ _ _ w1 st1 R1 r1 => hi.run (a.to R1) w1 (.of (fun _ _ _ _ _ w2 st2 R2 r2 => h.run R2 (st2.vr r1) r2 w2 (k.trans (st1.trans st2))) k.ex)) k.ex))⟩

theorem itB : ItOK C iB := ⟨fun {fm μ vs hp s A value slice a b x y Q E K X} R ra rb w k => by
  obtain ⟨o, e, w⟩ := w.inv
  obtain ⟨i, rfl, w⟩ := w.inv
  obtain ⟨t, rfl⟩ : ∃ t, x = .bytes o.toArray t := (e ▸ look_lv R ra : LInv C s.heap μ (fm.D μ) (.bytes o) x)
  obtain ⟨u, rfl⟩ : ∃ t, y = .int i t := rb.inv
  exact tail_sound (typeIs_bytes s _ t) FB.slot_bytes_getitem.lookup (getItem_bytes (by omega) w.1.1 w.1.2.1 ((k.ok w.2).ok_toks R (.int _ _)))⟩

theorem itL : ItOK C iL := ⟨fun {fm μ vs hp s A value slice a b x y Q E K X} R ra rb w k => by
  obtain ⟨l, e, w⟩ := w.inv
  obtain ⟨i, rfl, hl, j, v, hj, hv, w⟩ := w.inv
  obtain ⟨ad, xs, n, rfl, e, r, _⟩ := LInv.list (e ▸ look_lv R ra)
  obtain ⟨u, rfl⟩ : ∃ t, y = .int i t := rb.inv
  have len := r.length
  have hL : s.heap.IsList ad xs.toArray := ⟨_, e, rfl, _, rfl⟩
  obtain ⟨hlt, h1, h2, hs⟩ := idx_spec hj
  obtain ⟨val, e1, rv⟩ := r.get j hlt
  rw [hv] at rv
  have fin := (k.ok w).ok_here R rv
  by_cases h0 : 0 ≤ i
  · have q : j = i.toNat := by unfold idx at hj; rw [if_pos h0, if_pos h2] at hj; exact (Option.some.inj hj).symm
    exact tail_sound hL.typeIs slot_list_getitem.lookup (wpAny_getItem_list hL h0 (by omega) (by rw [← q]; simpa using e1) fin)
  · have q : j = (i + l.length).toNat := by unfold idx at hj; rw [if_neg h0, if_pos (by omega)] at hj; exact (Option.some.inj hj).symm
    exact tail_sound hL.typeIs slot_list_getitem.lookup (wpAny_getItem_list_neg hL (by omega) (by simp only [List.size_toArray]; omega) (by omega) (by rw [List.size_toArray, ← len, ← q]; simpa using e1) fin)⟩

theorem itT : ItOK C iT := ⟨fun {fm μ vs hp s A value slice a b x y Q E K X} R ra rb w k => by
  obtain ⟨l, e, w⟩ := w.inv
  obtain ⟨i, rfl, hl, j, v, hj, hv, w⟩ := w.inv
  obtain ⟨ad, xs, n, rfl, e, r, _⟩ := LInv.tup (e ▸ look_lv R ra)
  obtain ⟨u, rfl⟩ : ∃ t, y = .int i t := rb.inv
  have len := r.length
  have hL : IsTup s.heap ad xs.toArray := ⟨_, e, rfl, _, rfl⟩
  obtain ⟨hlt, h1, h2, hs⟩ := idx_spec hj
  obtain ⟨val, e1, rv⟩ := r.get j hlt
  exact tail_sound hL.typeIs PyProof.Rows.slot_tuple_getitem.lookup (PyProof.Rows.getItem_tuple hL (by omega) (by omega) (j := j) (by rw [List.size_toArray, ← len]; exact hs) (by simpa using e1) ((k.ok w).ok_here R (hv ▸ rv)))⟩

theorem itD : ItOK C iD := ⟨fun {fm μ vs hp s A value slice a b x y Q E K X} R ra rb w k => by
  obtain ⟨l, e, w⟩ := w.inv
  obtain ⟨i, rfl, v, hv, w⟩ := w.inv
  obtain ⟨ad, kvs, o, rfl, ns, e, d, di⟩ := LInv.dict (e ▸ look_lv R ra)
  obtain ⟨u, rfl⟩ : ∃ t, y = .int i t := rb.inv
  obtain ⟨t, e1⟩ := (di.get i).2 v hv
  exact tail_sound (isDict_mapOf e d).typeIs PySem.slot_dict_getitem.lookup (wpAny_getItem_of (intKind_is C.prog C.w i u) (isDict_mapOf e d) e1 ((k.ok w).ok_toks R (.int _ _)))⟩

theorem slice_sound (R : Rel C fm μ vs hp s) {value slice : Expr} {b : List UInt8} {t : Tok} {lo hi : Int} {vl vh : Value} {plo phi : Option Int}
    (hl : IsPart vl plo) (hh : IsPart vh phi) (el : plo.getD 0 = lo) (eh : phi = some hi)
    (hc : 0 ≤ lo ∧ lo ≤ hi ∧ hi ≤ b.length ∧ b.length ≤ 1000000) (h : OK1 C fm vs μ s (.bytes ((b.drop lo.toNat).take (hi - lo).toNat)) hp Q) : wpAny C.M A (subscriptTail value slice (.bytes b.toArray t) (.ref s.heap.objs.size)) Q E { s with heap := s.heap.push { cls := .type "slice", data := .fields #[vl, vh, .none] } } := by
  · refine tail_sound (typeIs_bytes _ _ _) FB.slot_bytes_getitem.lookup (getItem_meets (typeIs_bytes _ _ _) (by decide) FB.slot_bytes_getitem FB.entry_bytes_getitem (FB.args_bytes_getitem_2 _ _) (KBc.meets_slice2 _ t _ hl hh)
      ⟨Heap.IsSliceOf.new _ _ _ _, Nat.le_trans (KBc.size_picked_le _ _ _) (by rw [List.size_toArray, sizeLine_eq]; omega), fun t' k => ?_⟩)
    have e : KBy.picked b.toArray plo phi = ((b.drop lo.toNat).take (hi - lo).toNat).toArray := by
      rw [KBc.picked_eq]
      subst eh
      have c1 : clipAt b.toArray.size hi = hi.toNat := by
        unfold clipAt
        rw [List.size_toArray]
        have : ¬ hi < 0 := by omega
        rw [if_neg this]; omega
      have c2 : plo.elim 0 (clipAt b.toArray.size) = lo.toNat := by
        cases plo with
        | none => simp at el; subst el; rfl
        | some z =>
          simp at el; subst el
          show clipAt b.toArray.size z = z.toNat
          unfold clipAt
          rw [List.size_toArray]
          have : ¬ z < 0 := by omega
          rw [if_neg this]; omega
      rw [c2]
      simp only [Option.elim]
      rw [c1]
      have : (hi - lo).toNat = hi.toNat - lo.toNat := by omega
      rw [this]
    show Q (.bytes (KBy.picked b.toArray plo phi) t') _
    rw [e]
    obtain ⟨R1, S1⟩ := R.push { cls := .type "slice", data := .fields #[vl, vh, .none] }
    exact (OK1.trans S1 h).ok_toks R1 (.bytes _ _)

theorem SE.cut {o lo hi sp p A B D} (ho : SE C n F vs o A) (hl : SE C n F vs lo B) (hh : SE C n F vs hi D) : SE C n F vs (.Subscript o (.Slice (some lo) (some hi) Option.none sp) p) (eCut A B D) := ⟨fun a w k => by
  refine Subscript_ (ho.run a w (.of (fun _ _ _ _ x w1 st1 R1 r1 => ?_) k.ex))
  refine wpAny_Slice ?_
  rw [evalPart_some, evalPart_some, evalPart_none]
  refine hl.run (a.to R1) w1 (.of (fun _ _ _ _ y w2 st2 R2 r2 => hh.run (a.to R2) w2 (.of (fun _ _ _ _ z w3 st3 R3 r3 => wpAny_pure ?_) k.ex)) k.ex)
  obtain ⟨b, e1, w4⟩ := w3.inv
  obtain ⟨l, e2, w5⟩ := w4.inv
  obtain ⟨h, e3, hc, w6⟩ := w5.inv
  rw [e1] at r1; rw [e2] at r2; rw [e3] at r3
  obtain ⟨t, rfl⟩ : ∃ t, x = .bytes b.toArray t := r1.inv
  obtain ⟨u, rfl⟩ : ∃ t, y = .int l t := r2.inv
  obtain ⟨v, rfl⟩ : ∃ t, z = .int h t := r3.inv
  exact slice_sound R3 (.int _ _) (.int _ _) rfl rfl hc ((k.trans ((st1.trans st2).trans st3)).ok w6)⟩

theorem SE.cutH {o hi sp p A D} (ho : SE C n F vs o A) (hh : SE C n F vs hi D) : SE C n F vs (.Subscript o (.Slice Option.none (some hi) Option.none sp) p) (eCutH A D) := ⟨fun a w k => by
  refine Subscript_ (ho.run a w (.of (fun _ _ _ _ x w1 st1 R1 r1 => ?_) k.ex))
  refine wpAny_Slice ?_
  rw [evalPart_some, evalPart_none]
  refine wpAny_pure (hh.run (a.to R1) w1 (.of (fun _ _ _ _ z w3 st3 R3 r3 => wpAny_pure ?_) k.ex))
  obtain ⟨b, e1, w4⟩ := w3.inv
  obtain ⟨h, e3, hc, w6⟩ := w4.inv
  rw [e1] at r1; rw [e3] at r3
  obtain ⟨t, rfl⟩ : ∃ t, x = .bytes b.toArray t := r1.inv
  obtain ⟨v, rfl⟩ : ∃ t, z = .int h t := r3.inv
  refine slice_sound R3 .none (.int _ _) rfl rfl ⟨Int.le_refl 0, hc⟩ ?_
  have := (k.trans (st1.trans st3)).ok w6
  rw [show h - (Option.none : Option Int).getD 0 = h from Int.sub_zero h]; exact this⟩

theorem VRs.rev {h : Heap} {D : List Addr} {l : List V} : ∀ {xs : List Value}, VRs C h μ D l xs → VRs C h μ D l.reverse xs.reverse := by
  induction l with
  | nil => intro xs r; have q : xs = [] := r.inv; rw [q]; exact .nil
  | cons v l ih =>
    intro xs r
    obtain ⟨y, ys, q, a, r⟩ : ∃ y ys, xs = y :: ys ∧ VR C h μ D v y ∧ VRs C h μ D l ys := r.inv
    rw [q, List.reverse_cons, List.reverse_cons]
    exact (ih r).append (.cons _ _ _ _ a .nil)
/-- a new row that the machine's own rule has made beside what it was told of -/
theorem fresh_D (R : Rel C fm μ vs hp s) {B : Addr} (h1 : B ≠ fm.env.locals) (h2 : ∀ b o, b ≠ fm.env.locals → C.base.get? b = Option.none → s.heap.get? b = some o → b < B) : ∀ b ∈ [B], b ∉ fm.D μ := fun b hb hm => by
  rw [List.mem_singleton] at hb
  rw [hb] at hm
  obtain ⟨hb0, o, ho⟩ := R.fr B hm
  exact Nat.lt_irrefl _ (h2 B o h1 hb0 ho)
theorem SE.rev {x np c1 c2 c3 c4 p A} (ho : SE C n F vs (.Name x np) A) : SE C n F vs (.Subscript (.Name x np) (.Slice Option.none Option.none (some (.UnaryOp .USub (.Constant (.int 1) c1 c2) c3)) c4) p) (eRev A) := ⟨fun {fm μ vs' hp s Q E K X} a w k => by
  refine Subscript_ (ho.run a w (.of (fun v hp1 s1 μ1 val w1 st1 R1 r1 => ?_) k.ex))
  obtain ⟨l, e1, hl, w2⟩ := w1.inv
  rw [e1] at r1
  obtain ⟨ad, xs, nn, rfl, he, r, pl⟩ := LInv.list (look_lv R1 r1)
  have len := r.length
  refine wpAny_Slice ?_
  rw [evalPart_none, evalPart_some]
  refine wpAny_pure (wpAny_pure (wpAny_UnaryOp ?_))
  rw [eval_Constant]
  refine wpAny_mkInt (P.neg_int ?_)
  obtain ⟨R2, S2⟩ := R1.toks (s1.toks + 1 + 1)
  obtain ⟨m, news, F', N, mem, back⟩ := R2.bridge a.ok
  refine krv_lit (s := { s1 with toks := s1.toks + 1 + 1 }) (vk := .int (-1) _) (zs := xs.reverse) (ops := _) F' N ⟨_, he, rfl, _, rfl⟩ (.int _ _) rfl (fun D h' F3 N3 l1 => ?_) rfl (fun _ => rfl) (by rw [List.size_toArray, sizeLine_eq]; omega)
  obtain ⟨R3, S3⟩ := back h' (s1.toks + 1 + 1) F3 fun q hq => (N3 q (List.mem_cons_of_mem _ hq)).1
  have st := S2.trans S3
  exact (k.trans st1).ok w2 _ μ1 _ st R3 (.obj _ [D] D (.list _ _ _ 0 (N3 _ (List.mem_cons_self ..)).1 (st.vrs r.rev) (by unfold allPlain at *; rw [List.all_reverse]; exact pl)) (fresh_D R2 (N3 _ (List.mem_cons_self ..)).2.1 fun b o h1 h2 e => l1 _ (mem b o h1 h2 e)))⟩

end


noncomputable abbrev WG := List V → List V → (V → List V → Prop) → Prop
noncomputable def gLenB : WG := fun l hp K => w1 l fun v => wB (look hp v) fun b => b.length ≤ 1000000 ∧ K (.int b.length) hp
noncomputable def gLenL : WG := fun l hp K => w1 l fun v => wL (look hp v) fun b => b.length ≤ 1000000 ∧ K (.int b.length) hp
noncomputable def gMax : WG := fun l hp K => w2 l fun v u => wI (look hp v) fun a => wI (look hp u) fun b => K (.int (max a b)) hp
noncomputable def gSortD : WG := fun l hp K => w1 l fun v => wD (look hp v) fun d => (rising (d.map (·.1)) = true ∧ d.length ≤ 63) ∧ K (.list (d.map fun p => .int p.1)) hp
noncomputable def gSortI : WG := fun l hp K => w1 l fun v => ∃ is : List Int, look hp v = .list (is.map V.int) ∧ (rising is = true ∧ is.length ≤ 63) ∧ K (.list (is.map V.int)) hp
noncomputable def gSortR : WG := fun l hp K => w1 l fun v => ∃ rs, look hp v = .list (rs.map rowV) ∧ (apart rs = true ∧ 2 ≤ rs.length ∧ rs.length ≤ 3) ∧ K (.list ((rowSort rs).map rowV)) hp
noncomputable def gRange1 : WG := fun l hp K => w1 l fun v => wI (look hp v) fun b => K (.rng 0 b) hp
noncomputable def gRange2 : WG := fun l hp K => w2 l fun v u => wI (look hp v) fun a => wI (look hp u) fun b => K (.rng a b) hp
noncomputable def gBytesB : WG := fun l hp K => w1 l fun v => wB (look hp v) fun b => K (.bytes b) hp
noncomputable def gBytesI : WG := fun l hp K => w1 l fun v => wI (look hp v) fun n => (0 ≤ n ∧ n ≤ 1000000) ∧ K (.bytes (List.replicate n.toNat 0)) hp
noncomputable def gBytesL : WG := fun l hp K => w1 l fun v => ∃ is : List Int, look hp v = .list (is.map V.int) ∧ ((∀ n ∈ is, 0 ≤ n ∧ n < 256) ∧ is.length ≤ 1000000) ∧ K (.bytes (is.map fun n => n.toNat.toUInt8)) hp
noncomputable def gInt : WG := fun l hp K => w1 l fun v => wI (look hp v) fun i => K (.int i) hp
noncomputable def gIntB : WG := fun l hp K => w1 l fun v => wBo (look hp v) fun b => K (.int (if b then 1 else 0)) hp
noncomputable def gStr : WG := fun l hp K => w1 l fun v => wI (look hp v) fun i => (-1152921504606846976 ≤ i ∧ i ≤ 1152921504606846976) ∧ K (.str (Str.ofString (toString i))) hp
structure BiOK (C : Cx) (f : Value) (g : WG) : Prop where
  run : ∀ {F fm μ vs hp s l vals Q E K X}, FmOk F fm → Rel C fm μ vs hp s → VRs C s.heap μ (fm.D μ) l vals → g l hp K → KE C fm vs μ s K X Q E → wpAny C.M fm.A (call f vals) Q E s

section
variable {C : Cx} {F : Frm} {fm : Fm} {μ μ' μ₀ : Mu} {vs vs' : Vars} {hp hp' : List V} {s s' s₀ : Shared} {A : Around} {Q : Value → Shared → Prop} {QB : Bool → Shared → Prop} {QL : List Value → Shared → Prop} {E : Value → Shared → Prop} {n : Nat}

theorem rising_sorted : ∀ {l : List Int}, rising l = true → l.Pairwise (· ≤ ·)
  | [], _ => .nil
  | [a], _ => by simp
  | a :: b :: r, h => by
    simp only [rising, Bool.and_eq_true, decide_eq_true_eq] at h
    have ih := rising_sorted h.2
    refine List.pairwise_cons.mpr ⟨fun x hx => ?_, ih⟩
    rcases List.mem_cons.mp hx with rfl | hx
    · omega
    · have := (List.pairwise_cons.mp ih).1 x hx; omega

theorem sorted_unique : ∀ {a b : List Int}, a.Perm b → a.Pairwise (· ≤ ·) → b.Pairwise (· ≤ ·) → a = b
  | [], b, p, _, _ => (List.perm_nil.mp p.symm).symm ▸ rfl
  | x :: a, [], p, _, _ => by have := p.length_eq; simp at this
  | x :: a, y :: b, p, ha, hb => by
    have h1 : x ≤ y := by
      rcases List.mem_cons.mp (p.mem_iff.mpr (List.mem_cons_self (a := y) (l := b))) with e | e
      · omega
      · exact (List.pairwise_cons.mp ha).1 y e
    have h2 : y ≤ x := by
      rcases List.mem_cons.mp (p.mem_iff.mp (List.mem_cons_self (a := x) (l := a))) with e | e
      · omega
      · exact (List.pairwise_cons.mp hb).1 x e
    have e : x = y := by omega
    subst e
    rw [sorted_unique ((List.perm_cons x).mp p) (List.pairwise_cons.mp ha).2 (List.pairwise_cons.mp hb).2]

theorem sorted_ints_sound (ok : FmOk F fm) (R : Rel C fm μ vs hp s) {a : Addr} {xs : List Value} {n : Nat} {is : List Int} (e : s.heap.get? a = some ⟨.type "list", Option.none, .seq xs.toArray n, #[]⟩)
    (r : VRs C s.heap μ (fm.D μ) (is.map V.int) xs) (hr : rising is = true) (hl : is.length ≤ 63) (h : OK1 C fm vs μ s (.list (is.map V.int)) hp Q) : wpAny C.M A (call (.builtin "sorted") [.ref a]) Q E s := by
  obtain ⟨m, news, F', N, mem, back⟩ := R.bridge ok
  refine kso_sorted F' N ⟨_, e, rfl, _, rfl⟩ r.ints (by omega) fun ad vs' ns' c h' F2 N2 l1 hI hlen hp' ho _ => ?_
  have e2 := sorted_unique hp' ho (rising_sorted hr)
  subst e2
  obtain ⟨R2, S2⟩ := back h' s.toks F2 fun p hp => (N2 p (List.mem_cons_of_mem _ hp)).1
  refine h _ μ _ S2 R2 (.obj _ [ad] ad (.list _ _ _ c (N2 _ (List.mem_cons_self ..)).1 (ints_vrs hI) (ints_plain _)) (fresh_D R (N2 _ (List.mem_cons_self ..)).2.1 fun b o h1 h2 e => l1 _ (mem b o h1 h2 e)))

theorem IntsAre.of_index : ∀ {vs : List Value} {ns : List Int}, vs.length = ns.length → (∀ (j : Nat) (v : Value), vs[j]? = some v → ∃ k t, ns[j]? = some k ∧ v = .int k t) → IntsAre vs ns
  | [], [], _, _ => .nil
  | v :: vs, n :: ns, hl, h => by
    obtain ⟨k, t, e1, rfl⟩ := h 0 v rfl
    cases e1
    exact .cons _ _ (IntsAre.of_index (by simpa using hl) fun j v hv => h (j + 1) v (by simpa using hv))

theorem sorted_dict_sound (ok : FmOk F fm) (R : Rel C fm μ vs hp s) {a : Addr} {kvs : List (Int × Value)} {o : Obj} {l : List (Int × Int)} (ns : (a == sysModules) = false) (e : s.heap.get? a = some o) (d : o.IsDictOf (intKind C.prog C.w) kvs) (di : DictI kvs l)
    (hr : rising (l.map (·.1)) = true) (hl : l.length ≤ 63) (hh : A.handled = none) (h : OK1 C fm vs μ s (.list (l.map fun p => .int p.1)) hp Q) : wpAny C.M A (call (.builtin "sorted") [.ref a]) Q E s := by
  obtain ⟨m, news, F', N, mem, back⟩ := R.bridge ok
  obtain ⟨ep, hat⟩ := (Heap.dictOf_iff.mpr ⟨o, e, d⟩).dictAt
  have dlen : ∀ {kvs : List (Int × Value)} {l : List (Int × Int)}, DictI kvs l → kvs.length = l.length := fun d => by
    induction d with
    | nil => rfl
    | cons _ _ _ _ ih => simp [ih]
  have dget : ∀ {kvs : List (Int × Value)} {l : List (Int × Int)}, DictI kvs l → ∀ {j : Nat} {k : Int} {x : Value}, kvs[j]? = some (k, x) → (l.map (·.1))[j]? = some k := fun d => by
    induction d with
    | nil => intro j k x q; simp at q
    | cons k' i t d ih =>
      intro j k x q
      cases j with
      | zero => simp at q; simp [q.1]
      | succ j => simp at q; simpa using ih q
  have len := dlen di
  refine kdu_sorted (kdl_dict (knd := intKind C.prog C.w) (kvs := kvs) (ep := ep) ns) hh F' N hat (kdl_size (by omega)) fun B h' tk us F2 N2 l1 hlen hv => ?_
  have hI : IntsAre us (l.map (·.1)) := IntsAre.of_index (by simp; omega) fun j v hj => by
    obtain ⟨k, x, e1, e2⟩ := hv j v hj
    obtain ⟨t, rfl⟩ := Value.isInt_shape e2
    exact ⟨k, t, dget di e1, rfl⟩
  have hB := (N2 _ (List.mem_cons_self ..)).1
  refine wpAny_call_entry PyProof.Rows.slot_list_sort ⟨_, hB, rfl⟩ PyProof.Rows.entry_list_sort ?_ (PyProof.Rows.args_list_sort _)
  refine list_sort_tree (s := { s with heap := h', toks := tk }) hB hI (by omega) fun out ns' a1 a2 a3 => ?_
  refine ⟨.none, rfl, ?_⟩
  have e2 := sorted_unique a2 a3 (rising_sorted hr)
  subst e2
  have bL : B ≠ fm.env.locals := (N2 _ (List.mem_cons_self ..)).2.1
  have bB : C.base.get? B = none := (N2 _ (List.mem_cons_self ..)).2.2
  have old : ∀ b o, b ≠ B → h'.get? b = some o → (sortedHeap h' B us out).get? b = some o := fun b o hb eb => (sortedHeap_old hb (Heap.lt_size eb)).trans eb
  obtain ⟨e3, he3⟩ := sortedHeap_at (out := out) hB
  have F3 : Fr C.base fm.env.locals (sortedHeap h' B us out) m := ⟨F2.ns.at' fun o eo => old _ o bL.symm eo, fun b o eb => old b o (fun q => by rw [q, bB] at eb; cases eb) (F2.keep b o eb), F2.above⟩
  obtain ⟨R2, S2⟩ := back (sortedHeap h' B us out) tk F3 fun p hp => old _ _ (Nat.ne_of_lt (l1 p hp)) (N2 p (List.mem_cons_of_mem _ hp)).1
  refine h _ μ _ S2 R2 (.obj _ [B] B (.list _ out.toList _ e3 (by simpa using he3) (by have := ints_vrs (C := C) (h := (sortedHeap h' B us out)) (μ := μ) (D := fm.D μ) a1; rwa [List.map_map] at this) (by have := ints_plain (l.map (·.1)); rwa [List.map_map] at this)) (fresh_D R bL fun b o h1 h2 e => l1 _ (mem b o h1 h2 e)))

theorem rows_of {h : Heap} {D : List Addr} : ∀ {rs : List RowT} {xs : List Value}, VRs C h μ D (rs.map rowV) xs → ∀ h', (∀ b o, b ∉ D → h.get? b = some o → h'.get? b = some o) → RowsAre h' xs rs
  | [], xs, r, _, _ => have q : xs = [] := r.inv; q ▸ .nil
  | x :: rs, xs, r, h', hk => by
    obtain ⟨y, ys, q, a, r⟩ : ∃ y ys, xs = y :: ys ∧ VR C h μ D (rowV x) y ∧ VRs C h μ D (rs.map rowV) ys := r.inv
    obtain ⟨ad, fp, e, c, nD⟩ : ∃ a fp, y = .ref a ∧ CR C h μ D (rowV x) fp a ∧ ∀ b ∈ fp, b ∉ D := a.inv
    obtain ⟨ef, zs, n, he, rr, pl⟩ : fp = [ad] ∧ ∃ (zs : List Value) (n : Nat), h.get? ad = some ⟨.type "tuple", Option.none, .seq zs.toArray n, #[]⟩ ∧ VRs C h μ D [.int x.1, .int x.2.1, .bytes x.2.2] zs ∧ allPlain [.int x.1, .int x.2.1, .bytes x.2.2] = true := c.inv
    obtain ⟨y1, z1, q1, b1, rr⟩ : ∃ y ys, zs = y :: ys ∧ VR C h μ D (.int x.1) y ∧ VRs C h μ D [.int x.2.1, .bytes x.2.2] ys := rr.inv
    obtain ⟨y2, y3, q2, b2, b3⟩ := rr.two
    obtain ⟨t1, p1⟩ : ∃ t, y1 = .int x.1 t := b1.inv
    obtain ⟨t2, p2⟩ : ∃ t, y2 = .int x.2.1 t := b2.inv
    obtain ⟨t3, p3⟩ : ∃ t, y3 = .bytes x.2.2.toArray t := b3.inv
    rw [q1, q2, p1, p2, p3] at he
    rw [q]
    exact .cons _ _ ⟨ad, n, t1, t2, t3, e, hk _ _ (nD ad (ef ▸ List.mem_singleton.mpr rfl)) he⟩ (rows_of r h' hk)

theorem sorted_rows_sound (ok : FmOk F fm) (R : Rel C fm μ vs hp s) {a : Addr} {xs : List Value} {n : Nat} {rs : List RowT} (e : s.heap.get? a = some ⟨.type "list", Option.none, .seq xs.toArray n, #[]⟩)
    (r : VRs C s.heap μ (fm.D μ) (rs.map rowV) xs) (hap : apart rs = true) (h2 : 2 ≤ rs.length) (h3 : rs.length ≤ 3) (h : OK1 C fm vs μ s (.list ((rowSort rs).map rowV)) hp Q) : wpAny C.M A (call (.builtin "sorted") [.ref a]) Q E s := by
  obtain ⟨m, news, F', N, mem, back⟩ := R.bridge ok
  have k1 := rows_of r
  have keep : ∀ h', Fr C.base fm.env.locals h' m → News C.base fm.env.locals h' news → ∀ b o, b ∉ fm.D μ → s.heap.get? b = some o → h'.get? b = some o := fun h' F2 N2 b o nb eb => by
    have nl : b ≠ fm.env.locals := fun q => nb (q ▸ loc_D ok)
    cases q : C.base.get? b with
    | some o' => have := R.base b o' q; rw [eb] at this; cases this; exact F2.keep b _ q
    | none => exact (N2 (b, o) (mem b o nl q eb)).1
  refine sorted_rows F' N ⟨_, e, rfl, _, rfl⟩ h2 h3 hap (fun h' F2 N2 => k1 h' (keep h' F2 N2)) fun D c h' p F2 N2 l1 hp hs => ?_
  obtain ⟨R2, S2⟩ := back h' s.toks F2 fun q hq => (N2 q (List.mem_cons_of_mem _ hq)).1
  have hp' : ∀ q : List Nat, (∀ i ∈ q, i < rs.length) → VRs C s.heap μ (fm.D μ) ((q.map fun i => rs.getD i r0).map rowV) (q.map fun i => xs.getD i Value.none) := by
    intro q
    induction q with
    | nil => intro _; exact .nil
    | cons i q ih =>
      intro hq
      have hi' := hq i (List.mem_cons_self ..)
      obtain ⟨x, e1, r1⟩ := r.get i (by rw [List.length_map]; exact hi')
      have ex : xs.getD i Value.none = x := by simp [List.getD, e1]
      have el : (rs.map rowV).getD i .none = rowV (rs.getD i r0) := by
        simp [List.getD, List.getElem?_eq_getElem hi']
      rw [el] at r1
      simp only [List.map_cons]
      rw [ex]
      exact .cons _ _ _ _ r1 (ih fun j hj => hq j (List.mem_cons_of_mem _ hj))
  rw [hs] at h
  refine h _ μ _ S2 R2 (.obj _ [D] D (.list _ _ _ c (N2 _ (List.mem_cons_self ..)).1 (S2.vrs (hp' p hp)) (by simp [allPlain, isPlainV, rowV])) (fresh_D R (N2 _ (List.mem_cons_self ..)).2.1 fun b o h1 h2 e => l1 _ (mem b o h1 h2 e)))


theorem biLenB : BiOK C (.builtin "len") gLenB := ⟨fun {F fm μ vs hp s l vals Q E K X} ok R rs w k => by
  obtain ⟨v, rfl, w0⟩ := w.inv
  obtain ⟨x, rfl, r⟩ := rs.one
  obtain ⟨b, e, h1, w⟩ := w0.inv
  obtain ⟨t, rfl⟩ : ∃ t, x = .bytes b.toArray t := (e ▸ look_lv R r : LInv C s.heap μ (fm.D μ) (.bytes b) x)
  exact len_bytes (by simp only [List.size_toArray]; omega) (by simpa using (k.ok w).ok_toks R (.int _ _))⟩

theorem biLenL : BiOK C (.builtin "len") gLenL := ⟨fun {F fm μ vs hp s l vals Q E K X} ok R rs w k => by
  obtain ⟨v, rfl, w0⟩ := w.inv
  obtain ⟨x, rfl, r⟩ := rs.one
  obtain ⟨b, e, h1, w⟩ := w0.inv
  obtain ⟨ad, xs, n, rfl, e, r, _⟩ := LInv.list (e ▸ look_lv R r)
  have len := r.length
  refine len_list ⟨_, e, rfl, _, rfl⟩ (by simp only [List.size_toArray]; omega) ?_
  rw [List.size_toArray, ← len]
  exact (k.ok w).ok_toks R (.int _ _)⟩

theorem biMax : BiOK C (.builtin "max") gMax := ⟨fun {F fm μ vs hp s l vals Q E K X} ok R rs w k => by
  obtain ⟨v, u, rfl, w0⟩ := w.inv
  obtain ⟨x, y, rfl, rx, ry⟩ := rs.two
  obtain ⟨a, t, b, u, rfl, rfl, w⟩ := two_ints (look_lv R rx) (look_lv R ry) w0
  obtain ⟨m, news, F', N, mem, back⟩ := R.bridge ok
  refine max_two_N ok.handled F' N fun h' tk F2 N2 => ?_
  obtain ⟨R2, S2⟩ := back h' tk F2 fun p hp => (N2 p hp).1
  have e : (if b > a then b else a) = max a b := by rw [Int.max_def]; split <;> split <;> omega
  rw [e]
  exact k.ok w _ μ _ S2 R2 (.int _ _)⟩

theorem biSortD : BiOK C (.builtin "sorted") gSortD := ⟨fun {F fm μ vs hp s l vals Q E K X} ok R rs w k => by
  obtain ⟨v, rfl, w0⟩ := w.inv
  obtain ⟨x, rfl, r⟩ := rs.one
  obtain ⟨d, e, h1, w⟩ := w0.inv
  obtain ⟨ad, kvs, o, rfl, ns, e, d, di⟩ := LInv.dict (e ▸ look_lv R r)
  exact sorted_dict_sound ok R ns e d di h1.1 h1.2 ok.handled (k.ok w)⟩

theorem biSortI : BiOK C (.builtin "sorted") gSortI := ⟨fun {F fm μ vs hp s l vals Q E K X} ok R rs w k => by
  obtain ⟨v, rfl, w0⟩ := w.inv
  obtain ⟨x, rfl, r⟩ := rs.one
  obtain ⟨is, e, h1, w⟩ := w0
  obtain ⟨ad, xs, n, rfl, e, r, _⟩ := LInv.list (e ▸ look_lv R r)
  exact sorted_ints_sound ok R e r h1.1 h1.2 (k.ok w)⟩

theorem biSortR : BiOK C (.builtin "sorted") gSortR := ⟨fun {F fm μ vs hp s l vals Q E K X} ok R rs w k => by
  obtain ⟨v, rfl, w0⟩ := w.inv
  obtain ⟨x, rfl, r⟩ := rs.one
  obtain ⟨is, e, h1, w⟩ := w0
  obtain ⟨ad, xs, n, rfl, e, r, _⟩ := LInv.list (e ▸ look_lv R r)
  exact sorted_rows_sound ok R e r h1.1 h1.2.1 h1.2.2 (k.ok w)⟩

theorem biRange1 : BiOK C (.type "range") gRange1 := ⟨fun {F fm μ vs hp s l vals Q E K X} ok R rs w k => by
  obtain ⟨v, rfl, w0⟩ := w.inv
  obtain ⟨x, rfl, r⟩ := rs.one
  obtain ⟨b, e, w⟩ := w0.inv
  obtain ⟨t, rfl⟩ : ∃ t, x = .int b t := (e ▸ look_lv R r : LInv C s.heap μ (fm.D μ) (.int b) x)
  exact call_range_1 ((k.ok w).ok_push R (.rng _ _ _ _ _ _ (Heap.get?_push_size _ rfl)))⟩

theorem biRange2 : BiOK C (.type "range") gRange2 := ⟨fun {F fm μ vs hp s l vals Q E K X} ok R rs w k => by
  obtain ⟨v, u, rfl, w0⟩ := w.inv
  obtain ⟨x, y, rfl, rx, ry⟩ := rs.two
  obtain ⟨a, t, b, u, rfl, rfl, w⟩ := two_ints (look_lv R rx) (look_lv R ry) w0
  exact call_range_2 ((k.ok w).ok_push R (.rng _ _ _ _ _ _ (Heap.get?_push_size _ rfl)))⟩

theorem biBytesB : BiOK C (.type "bytes") gBytesB := ⟨fun {F fm μ vs hp s l vals Q E K X} ok R rs w k => by
  obtain ⟨v, rfl, w0⟩ := w.inv
  obtain ⟨x, rfl, r⟩ := rs.one
  obtain ⟨b, e, w⟩ := w0.inv
  obtain ⟨t, rfl⟩ : ∃ t, x = .bytes b.toArray t := (e ▸ look_lv R r : LInv C s.heap μ (fm.D μ) (.bytes b) x)
  exact call_bytes_bytes ((k.ok w).ok_here R (.bytes _ _))⟩

theorem biBytesI : BiOK C (.type "bytes") gBytesI := ⟨fun {F fm μ vs hp s l vals Q E K X} ok R rs w k => by
  obtain ⟨v, rfl, w0⟩ := w.inv
  obtain ⟨x, rfl, r⟩ := rs.one
  obtain ⟨b, e, h1, w⟩ := w0.inv
  obtain ⟨t, rfl⟩ : ∃ t, x = .int b t := (e ▸ look_lv R r : LInv C s.heap μ (fm.D μ) (.int b) x)
  refine call_bytes_int h1.1 h1.2 ?_
  have := (k.ok w).ok_toks (t := s.toks + 1) R (.bytes _ s.toks)
  rwa [List.toArray_replicate] at this⟩

theorem biBytesL : BiOK C (.type "bytes") gBytesL := ⟨fun {F fm μ vs hp s l vals Q E K X} ok R rs w k => by
  obtain ⟨v, rfl, w0⟩ := w.inv
  obtain ⟨x, rfl, r⟩ := rs.one
  obtain ⟨is, e, h1, w⟩ := w0
  obtain ⟨ad, xs, n, rfl, e, r, _⟩ := LInv.list (e ▸ look_lv R r)
  have len := r.length
  rw [List.length_map] at len
  obtain ⟨m, news, F', N, mem, back⟩ := R.bridge ok
  refine bytes_K F' N ⟨_, e, rfl, _, rfl⟩ r.ints h1.1 (by rw [sizeLine_eq]; have := h1.2; omega) ok.handled fun h' t k' F2 N2 _ => ?_
  obtain ⟨R2, S2⟩ := back h' k' F2 fun p hp => (N2 p hp).1
  exact k.ok w _ μ _ S2 R2 (.bytes _ _)⟩

theorem biInt : BiOK C (.type "int") gInt := ⟨fun {F fm μ vs hp s l vals Q E K X} ok R rs w k => by
  obtain ⟨v, rfl, w0⟩ := w.inv
  obtain ⟨x, rfl, r⟩ := rs.one
  obtain ⟨b, e, w⟩ := w0.inv
  obtain ⟨t, rfl⟩ : ∃ t, x = .int b t := (e ▸ look_lv R r : LInv C s.heap μ (fm.D μ) (.int b) x)
  exact call_int_int ((k.ok w).ok_here R (.int _ _))⟩

theorem biIntB : BiOK C (.type "int") gIntB := ⟨fun {F fm μ vs hp s l vals Q E K X} ok R rs w k => by
  obtain ⟨v, rfl, w0⟩ := w.inv
  obtain ⟨x, rfl, r⟩ := rs.one
  obtain ⟨b, e, w⟩ := w0.inv
  have q : x = .bool b := (e ▸ look_lv R r : LInv C s.heap μ (fm.D μ) (.bool b) x)
  rw [q]
  exact call_int_bool ((k.ok w).ok_toks R (.int _ _))⟩

theorem biStr : BiOK C (.type "str") gStr := ⟨fun {F fm μ vs hp s l vals Q E K X} ok R rs w k => by
  obtain ⟨v, rfl, w0⟩ := w.inv
  obtain ⟨x, rfl, r⟩ := rs.one
  obtain ⟨b, e, h1, w⟩ := w0.inv
  obtain ⟨t, rfl⟩ : ∃ t, x = .int b t := (e ▸ look_lv R r : LInv C s.heap μ (fm.D μ) (.int b) x)
  have h2 : b.natAbs.log2 < 1920 := by
    by_cases h0 : b.natAbs = 0
    · rw [h0]; decide
    · have := (Nat.log2_lt h0).mpr (show b.natAbs < 2 ^ 64 by have := h1.1; have := h1.2; omega)
      omega
  exact P.str_of_int h2 ((k.ok w).ok_toks R (.str _ _))⟩

end

structure FnIs (C : Cx) (f : Addr) (fi : FnInfo) : Prop where
  obj : ∃ o fd, C.K.lookup f = some o ∧ o.data = .func fd ∧ fd.params = ⟨[], fi.args, none, [], [], none, []⟩ ∧ fd.body = .stmts fi.body ∧ fd.scope.names = fi.names ∧ fd.scope.kind = .function ∧
    fd.scope.isGenerator = false ∧ fd.scope.isCoroutine = false ∧ fd.closure = [] ∧ fd.globals = mainGlobals ∧ fd.builtins = builtinsNs ∧ (∀ vals : List Value, vals.length = fi.args.length → bindArgs fd ⟨vals, []⟩ = pure ((fi.args.map (·.arg)).zip vals)) ∧ codeIn C.K fd.code fd.qualname = true
  keep : keepIn C.K (.ref f) = true
  fn : isFn C.K (.ref f) = true
  nodbg : fi.names.lookup ("__debug__" : Str) = none
  noclsd : fi.names.lookup ("__classdict__" : Str) = none
  cells : ((cellsFrom 0 fi.names []).map (·.1)).Nodup
  nodup : nodupS (fi.args.map (·.arg)) = true
  nofree : ∀ p ∈ fi.names, p.2 ≠ .free

structure ClsIs (C : Cx) (x : Str) (cl : Addr) : Prop where
  makes : makesIn C.K cl = true
  keep : keepIn C.K (.ref cl) = true
  init : ∃ f, findIn C.K (.ref cl) "__init__" = some (some (.ref f)) ∧ FnIs C f (methOf x "__init__")
  find : ∃ f, findIn C.K (.ref cl) "find" = some (some (.ref f)) ∧ FnIs C f (methOf x "find")
  plain : ∀ y, plainGet C.K cl y = true
  has : hasDictIn C.K cl = true
  set : findIn C.K (.ref cl) "__setattr__" = some (some (.builtin "object.__setattr__"))
  over : plainOver C.K cl = true
  attr : ∀ y, isField y = true → takerIn C.K cl y = some none ∧ findIn C.K (.ref cl) y = some none

structure GOK (C : Cx) : Prop where
  fn : ∀ x, isFnName x = true → ∃ f, nsIn C.K mainGlobals x = some (some (.ref f)) ∧ FnIs C f (defOf x)
  cls : ∀ x, isClsName x = true → ∃ cl, nsIn C.K mainGlobals x = some (some (.ref cl)) ∧ ClsIs C x cl
  last : ∃ t, nsIn C.K mainGlobals "LAST_CODE" = some (some (.int 65535 t))
  best : ∃ v, nsIn C.K mainGlobals "BEST" = some (some v) ∧ VR C C.base [] [] bestV v
  blt : ∀ x, x ∈ (["len", "max", "sorted", "range", "bytes", "int", "str"] : List String) → nsIn C.K mainGlobals (Str.ofString x) = some none

section
variable {C : Cx} {F : Frm} {fm : Fm} {μ μ' μ₀ : Mu} {vs vs' : Vars} {hp hp' : List V} {s s' s₀ : Shared} {A : Around} {Q : Value → Shared → Prop} {QB : Bool → Shared → Prop} {QL : List Value → Shared → Prop} {E : Value → Shared → Prop} {n : Nat}


noncomputable def isLoc : Option NameKind → Bool
  | some .local | some .cell | some .free => true
  | _ => false
theorem kind_of (a : FmOk F fm) (x : Str) : fm.env.kindOf x = F.names.lookup x := by show fm.env.scope.names.lookup x = _; rw [a.names]
theorem not_dbg (a : FmOk F fm) {x : Str} {k : NameKind} (h : F.names.lookup x = some k) : (x == ("__debug__" : Str)) = false := by
  cases q : x == ("__debug__" : Str) with
  | false => rfl
  | true => rw [eq_of_beq q, a.nodbg] at h; cases h
theorem not_clsd (a : FmOk F fm) {x : Str} {k : NameKind} (h : F.names.lookup x = some k) : (x == ("__classdict__" : Str)) = false := by
  cases q : x == ("__classdict__" : Str) with
  | false => rfl
  | true => rw [eq_of_beq q, a.noclsd] at h; cases h
theorem SE.name {x p v} (h : vs.lookup x = some v) (hk : isLoc (F.names.lookup x) = true) : SE C n F vs (.Name x p) (eV v) := ⟨fun {fm μ vs' hp s Q E K X} a w k => by
  have e := a.sub x v h
  have R := a.R
  have hk' := kind_of a.ok x
  cases q : F.names.lookup x with
  | none => rw [q] at hk; cases hk
  | some kd =>
    have dbg := not_dbg a.ok q
    rw [q] at hk'
    cases kd with
    | «local» =>
      obtain ⟨m, hn, hm⟩ := R.ns
      obtain ⟨val, b, r⟩ := hm x v e hk'
      exact wpAny_Name (wpAny_loadName_local a.ok.kind hk' hn b ((k.ok w).ok_here R r)) dbg
    | cell =>
      obtain ⟨c, o, e1, e2, _, e4⟩ := R.cel x (.inl hk')
      obtain ⟨val, rfl, r⟩ := e4 v e
      exact wpAny_Name (wpAny_loadName_cell a.ok.kind hk' e1 e2 ((k.ok w).ok_here R r)) dbg
    | free =>
      obtain ⟨c, o, e1, e2, _, e4⟩ := R.cel x (.inr hk')
      obtain ⟨val, rfl, r⟩ := e4 v e
      exact wpAny_Name (wpAny_loadName_free a.ok.kind hk' e1 e2 ((k.ok w).ok_here R r) (not_clsd a.ok q)) dbg
    | _ => rw [q] at hk; cases hk⟩

theorem glob_load {x p val} (ok : FmOk F fm) (R : Rel C fm μ vs hp s) (hk : F.names.lookup x = some .globalImplicit) (e : nsIn C.K mainGlobals x = some (some val)) (h : Q val s) : wpAny C.M fm.A (eval (.Name x p) fm.env) Q E s :=
  Calls.Name_function_global ok.kind ((kind_of ok x).trans hk) (Calls.loadGlobal_global (env := fm.env) (by rw [ok.glob]; exact C.top.g.keeps R.base) (mg_of C.inK C.top.g e) h) (not_dbg ok hk)
theorem blt_load {x p val} (ok : FmOk F fm) (R : Rel C fm μ vs hp s) (hk : F.names.lookup x = some .globalImplicit) (e : nsIn C.K mainGlobals x = some none) (e2 : bootBuiltins x = some val) (e3 : x ≠ "__name__") (h : Q val s) : wpAny C.M fm.A (eval (.Name x p) fm.env) Q E s :=
  Calls.Name_function_global ok.kind ((kind_of ok x).trans hk) (Calls.loadGlobal_builtin (env := fm.env) (by rw [ok.glob]; exact C.top.g.keeps R.base) (mg_none_of C.inK C.top.g e) (by rw [ok.blt]; exact C.top.b.keeps R.base) ((C.top.builtins x e3).trans e2) h) (not_dbg ok hk)
theorem SE.last {p} (G : GOK C) (hk : F.names.lookup ("LAST_CODE" : Str) = some .globalImplicit) : SE C n F vs (.Name ("LAST_CODE" : Str) p) (eV (.int 65535)) := ⟨fun a w k =>
  let ⟨t, e⟩ := G.last
  glob_load a.ok a.R hk e ((k.ok w).ok_here a.R (.int _ _))⟩

theorem SE.best {p} (G : GOK C) (hk : F.names.lookup ("BEST" : Str) = some .globalImplicit) : SE C n F vs (.Name ("BEST" : Str) p) (eV bestV) := ⟨fun a w k =>
  let ⟨v, e, r⟩ := G.best
  glob_load a.ok a.R hk e ((k.ok w).ok_here a.R (VR.mono (fun b o _ e => a.R.base b o e) (fun i x e => by simp at e) (fun b hb => .inr (a.R.fr b hb).1) r))⟩

noncomputable def KeepOK (C : Cx) (f : Value) : Prop := ∀ h, C.K.In h → ∃ k, (k = Keeper.frame ∨ k = Keeper.machine ∨ k = Keeper.boundFrame) ∧ Looks C.M h (keeperOf f) k
theorem keepOK_builtin (id : String) : KeepOK C (.builtin id) := fun _ _ => ⟨.machine, .inr (.inl rfl), Looks.of_pure rfl⟩
theorem keepOK_type (id : String) : KeepOK C (.type id) := fun _ _ => ⟨.machine, .inr (.inl rfl), Looks.of_pure rfl⟩
theorem keepOK_ref {f : Addr} (h : keepIn C.K (.ref f) = true) : KeepOK C (.ref f) := fun _ X => keeps_K h _ X
theorem evalArgs_sound {M : Model} {env : Env} {f : Value} {pos : Pos} {es : List Expr} {P : Args → Shared → Prop} (hn : noStar es = true) (h : wpAny M A (spliced (backTo pos (starEach es env))) (fun vs s' => P ⟨vs, []⟩ s') E s) :
    wpAny M A (evalArgs f true (backTo pos (starEach es env)) []) P E s := by
  cases es with
  | nil =>
    show wpAny M A (evalArgs f true [] []) P E s
    unfold evalArgs
    show wpAny M A (spliced [] >>= _) P E s
    refine wpAny_bind (wpAny_mono h (fun vs s' h' => ?_) fun _ _ x => x)
    first
      | (refine wpAny_holding ?_; exact wpAny_bind (wpAny_pure (wpAny_bind (wpAny_pure (wpAny_pure h')))))
      | (refine wpAny_bind (wpAny_pure ?_); refine wpAny_holding ?_; exact wpAny_bind (wpAny_pure (wpAny_bind (wpAny_pure (wpAny_pure h')))))
  | cons e r =>
    rw [starEach_cons (noStar_head hn).1] at h ⊢
    exact Calls.evalArgs_plain h
theorem callWith_run {es W K X f first pos} (hA : SA C n F vs es W) (a : At C n F vs fm μ vs' hp s) (hk : KeepOK C f) (w : W hp K X)
    (k : ∀ l hp' s' μ' vals, K l hp' → Step fm μ s μ' s' → Rel C fm μ' vs' hp' s' → VRs C s'.heap μ' (fm.D μ') l vals → wpAny C.M fm.A (call f (first ++ vals)) Q E s') (kx : X → ∀ x s', Fly C fm x s' → E x s') :
    wpAny C.M fm.A (callWith pos f first (backTo pos (starEach es fm.env)) []) Q E s :=
  callWith_of (P := C.K.In) (by rw [backTo_any hA.star]; rfl) hk (evalArgs_sound hA.star (hA.run pos a w ⟨fun {l hp'} w1 s' μ' vals st R' rs => ⟨C.inK.keeps R'.base, k l hp' s' μ' vals w1 st R' rs⟩, kx⟩))

noncomputable def eCallB (g : WG) (a : WL) : WP := fun hp K X => a hp (fun l hp1 => g l hp1 K) X
noncomputable def eCall (f : List V → List V → (V → List V → Prop) → Prop → Prop) (a : WL) : WP := fun hp K X => a hp (fun l hp1 => f l hp1 K X) X
noncomputable abbrev WF := List V → List V → (V → List V → Prop) → Prop → Prop

noncomputable def retR (Q : Value → Shared → Prop) (E : Value → Shared → Prop) (r : Result) (s' : Shared) : Prop := match r with
  | .ok (.ret v) => Q v s'
  | .ok _ => False
  | .error e => E e s'
/-- a function of the text is what W says -/
structure SF (C : Cx) (n : Nat) (fi : FnInfo) (W : WF) : Prop where
  run : ∀ {F fm μ vs hp s A f args vals Q E K X}, FmOk F fm → A.frames = some (fm.fenv :: fm.outer) → A.handled = none → Room A n → Rel C fm μ vs hp s → FnIs C f fi → VRs C s.heap μ (fm.D μ) args vals →
  W args hp K X → KE C fm vs μ s K X Q E → codeAny C.M A (.call (.ref f) ⟨vals, []⟩) (retR Q E) s

theorem SF.mono {m fi W} (h : SF C m fi W) (l : m ≤ n) : SF C n fi W := ⟨fun ok hA hh rm R fi rs w k => h.run ok hA hh (rm.mono l) R fi rs w k⟩

theorem SF.weaken {fi} {W W' : WF} (h : SF C n fi W) (i : ∀ args hp K X, W' args hp K X → W args hp K X) : SF C n fi W' := ⟨fun ok hA hh rm R fi rs w k => h.run ok hA hh rm R fi rs (i _ _ _ _ w) k⟩

theorem SF.go {fi W f} (h : SF C n fi W) (ok : FmOk F fm) (rm : Room fm.A n) (R : Rel C fm μ vs hp s) (hf : FnIs C f fi) {args vals K X} (rs : VRs C s.heap μ (fm.D μ) args vals) (w : W args hp K X) (k : KE C fm vs μ s K X Q E) : wpAny C.M fm.A (call (.ref f) vals) Q E s :=
  wpAny_call (codeAny_mono (h.run ok ok.frames ok.handled rm R hf rs w k) fun r s₂ hr => by
    cases r with
    | error e => exact hr
    | ok f => cases f <;> exact hr)

theorem SE.callF {x np args p WA Wf m} (G : GOK C) (hx : isFnName x = true) (hk : F.names.lookup x = some .globalImplicit) (hm : m ≤ n) (hF : SF C m (defOf x) Wf) (hA : SA C n F vs args WA) : SE C n F vs (.Call (.Name x np) args [] p) (eCall Wf WA) := ⟨fun {fm μ vs' hp s Q E K X} a w k => by
  obtain ⟨f, g, fi⟩ := G.fn x hx
  rw [arm_eval_Call_Name']
  exact wpAny_bind (glob_load a.ok a.R hk g (callWith_run (first := []) hA a (keepOK_ref fi.keep) w (fun l hp' s' μ' vals w1 st R' rs => hF.go a.ok (a.rm.mono hm) R' fi rs w1 (k.trans st)) k.ex))⟩

theorem SE.callB {x : String} {np args p WA g} {f : Value} (G : GOK C) (hx : x ∈ (["len", "max", "sorted", "range", "bytes", "int", "str"] : List String)) (hk : F.names.lookup (Str.ofString x) = some .globalImplicit) (e2 : bootBuiltins (Str.ofString x) = some f) (e3 : Str.ofString x ≠ "__name__") (hkp : KeepOK C f) (hB : BiOK C f g) (hA : SA C n F vs args WA) :
    SE C n F vs (.Call (.Name (Str.ofString x) np) args [] p) (eCallB g WA) := ⟨fun {fm μ vs' hp s Q E K X} a w k => by
  rw [arm_eval_Call_Name']
  exact wpAny_bind (blt_load a.ok a.R hk (G.blt x hx) e2 e3 (callWith_run (first := []) hA a hkp w (fun l hp' s' μ' vals w1 st R' rs => hB.run a.ok R' rs w1 (k.trans st)) k.ex))⟩

theorem Ents.get {h : Heap} {D : List Addr} {es : List DictEntry} {f : List (Str × V)} (e : Ents C h μ D es f) (x : Str) : (f.lookup x = none → getL x es = some none) ∧ ∀ v, f.lookup x = some v → ∃ val, getL x es = some (some val) ∧ VR C h μ D v val := by
  have key : ∀ {es : List DictEntry} {f : List (Str × V)}, Ents C h μ D es f → (f.lookup x = none → es.find? (·.key.isStr x) = none) ∧ (es.any (·.refKey) = false) ∧ ∀ v, f.lookup x = some v → ∃ en, es.find? (·.key.isStr x) = some en ∧ VR C h μ D v en.val := by
    intro es f e
    induction f generalizing es with
    | nil => cases e; exact ⟨fun _ => rfl, rfl, fun v q => by cases q⟩
    | cons p f ih =>
      cases e with
      | cons y t hs val v es _ a pl r =>
        obtain ⟨i1, i2, i3⟩ := ih r
        by_cases hxy : x = y
        · subst hxy
          refine ⟨fun q => by simp at q, by simpa [DictEntry.refKey] using i2, fun v' q => ?_⟩
          simp at q; subst q
          exact ⟨⟨hs, .str x t, val⟩, by simp [Value.isStr], a⟩
        · have h1 : (x == y) = false := by simpa using hxy
          have h2 : (y == x) = false := by simpa using fun q => hxy q.symm
          simp only [List.lookup_cons, h1]
          refine ⟨fun q => ?_, by simpa [DictEntry.refKey] using i2, fun v' q => ?_⟩
          · simp only [List.find?_cons, Value.isStr, h2]; exact i1 q
          · obtain ⟨en, q1, q2⟩ := i3 v' q
            exact ⟨en, by simp only [List.find?_cons, Value.isStr, h2]; exact q1, q2⟩
  obtain ⟨k1, k2, k3⟩ := key e
  refine ⟨fun q => ?_, fun v q => ?_⟩
  · unfold getL; rw [k1 q]; simp only [k2, Bool.false_eq_true, if_false]
  · obtain ⟨en, q1, q2⟩ := k3 v q
    exact ⟨en.val, by unfold getL; rw [q1], q2⟩


theorem VR.handed {h : Heap} {D : List Addr} {v : V} {val : Value} (r : VR C h μ D v val) : handedIn val = true :=
  VR.casesOn (motive_1 := fun _ val _ => handedIn val = true) r rfl (fun _ => rfl) (fun _ _ => rfl) (fun _ _ => rfl) (fun _ _ => rfl) (fun _ _ _ _ => rfl) (fun _ _ _ _ _ => rfl)
noncomputable def eAttr (y : Str) (a : WP) : WP := fun hp K X => a hp (fun v hp1 => wO (look hp1 v) fun c f => ∃ u, isClsName c = true ∧ f.lookup y = some u ∧ K u hp1) X
theorem instAt_of {h : Heap} {a d cl : Addr} {es : List DictEntry} {n : Nat} (e1 : h.get? a = some (instObj cl d)) (e2 : h.get? d = some (dictOf es n)) : InstAt h a (instObj cl d) cl (some (dictOf es n)) := ⟨e1, rfl, rfl, e2⟩
theorem attr_sound (G : GOK C) (ok : FmOk F fm) (R : Rel C fm μ vs hp s) {x : Value} {y c : Str} {f : List (Str × V)} {v : V} {b : Bool} (la : LInv C s.heap μ (fm.D μ) (.inst c f) x) (hc : isClsName c = true) (hy : isField y = true)
    (hf : f.lookup y = some v) (h : OK1 C fm vs μ s v hp Q) : wpAny C.M A (getAttr x y b) Q E s := by
  obtain ⟨ad, d, cl, es, m, rfl, g, e1, e2, en⟩ := la.inst
  obtain ⟨cl', g', CI⟩ := G.cls c hc
  rw [g] at g'; cases g'
  obtain ⟨val, gl, rv⟩ := (en.get y).2 v hf
  obtain ⟨mm, news, F', N, mem, back⟩ := R.bridge ok
  exact get_own F' C.inK (instAt_of e1 e2) (CI.plain y) CI.has (CI.attr y hy).2 rfl gl rv.handed (h.ok_toks R rv)
theorem SE.attr {x np y p A} (G : GOK C) (hy : isField y = true) (h : SE C n F vs (.Name x np) A) : SE C n F vs (.Attribute (.Name x np) y p) (eAttr y A) := ⟨fun {fm μ vs' hp s Q E K X} a w k => by
  rw [arm_eval_Attribute]
  show wpAny C.M fm.A (eval (.Name x np) fm.env >>= _) Q E s
  refine wpAny_bind (h.run a w (.of (fun _ _ _ _ val w1 st1 R1 r1 => ?_) k.ex))
  refine wpAny_bind (wpAny_standAt (wpAny_bind (wpAny_holding ?_)))
  obtain ⟨c, f, e, u, hc, hf, w2⟩ := w1.inv
  refine attr_sound G a.ok R1 (e ▸ look_lv R1 r1) hc hy hf fun s2 μ2 val2 st2 R2 rv2 => ?_
  exact wpAny_bind (wpAny_letTemporaryGo (wpAny_pure ((k.trans st1).ok w2 s2 μ2 val2 st2 R2 rv2)))⟩

noncomputable def litPairs : List (Option Expr) → List Expr → Option (List (Int × Int))
  | [], [] => some []
  | some (.Constant (.int k) _ _) :: ks, .Constant (.int v) _ _ :: es => (litPairs ks es).map ((k, v) :: ·)
  | _, _ => Option.none
inductive IsLit : List (Value × Value) → List (Int × Int) → Prop
  | nil : IsLit [] []
  | cons (k v : Int) (t u : Tok) {vs d} : IsLit vs d → IsLit ((.int k t, .int v u) :: vs) ((k, v) :: d)
/-- a display's pairs -/
structure SP (C : Cx) (ks : List (Option Expr)) (es : List Expr) (d : List (Int × Int)) : Prop where
  some : ks.all (·.isSome) = true
  len : ks.length = es.length
  len2 : ks.length = d.length
  run : ∀ {A env pos E} {s : Shared} {P : List (Value × Value) → Shared → Prop}, (∀ vs tk, IsLit vs d → P vs { s with toks := tk }) → wpAny C.M A (evalPairs (pairTrees ks es env pos)) P E s
theorem SP.nil : SP C [] [] [] := ⟨rfl, rfl, rfl, fun {A env pos E s P} h => wpAny_pure (h [] s.toks .nil)⟩
theorem SP.cons {k a b v c d ks es l} (h : SP C ks es l) : SP C (Option.some (.Constant (.int k) a b) :: ks) (.Constant (.int v) c d :: es) ((k, v) :: l) := ⟨h.some, congrArg Nat.succ h.len, congrArg Nat.succ h.len2, fun {A env pos E s P} hP => by
  show wpAny C.M A (mkInt k >>= fun kv => holding [kv] (mkInt v >>= fun x => standAt pos >>= fun _ => pure x) >>= fun vv => holding [kv, vv] (evalPairs (pairTrees ks es env pos)) >>= fun r => pure ((kv, vv) :: r)) P E s
  refine wpAny_bind (wpAny_mkInt (wpAny_bind (wpAny_holding (wpAny_bind (wpAny_mkInt (wpAny_bind (wpAny_standAt (wpAny_pure ?_))))))))
  refine wpAny_bind (wpAny_holding (h.run fun vs tk hl => ?_))
  exact wpAny_pure (hP _ _ (.cons _ _ _ _ hl))⟩
theorem IsLit.keys : ∀ {d : List (Int × Int)} {vs : List (Value × Value)}, IsLit vs d → allIntKeys vs = true ∧ (intKeyPairs vs).map (·.1) = d.map (·.1) ∧ DictI (intKeyPairs vs) d ∧ vs.length = d.length := by
  intro d vs h
  induction h with
  | nil => exact ⟨rfl, rfl, .nil, rfl⟩
  | cons k v t u r ih => exact ⟨ih.1, by simp [intKeyPairs, ih.2.1], .cons _ _ _ ih.2.2.1, by simp [ih.2.2.2]⟩

theorem nodupB_spec : ∀ {l : List Int}, nodupB l = true → l.Nodup
  | [], _ => .nil
  | a :: r, h => by
    simp only [nodupB, Bool.and_eq_true, Bool.not_eq_true', List.contains_eq_mem, decide_eq_false_iff_not] at h
    exact List.nodup_cons.mpr ⟨h.1, nodupB_spec h.2⟩

theorem not_modules (R : Rel C fm μ vs hp s) : (s.heap.objs.size == sysModules) = false := by
  have h1 := modules_low C.top.nolimit
  obtain ⟨m, hn, _⟩ := R.ns
  exact beq_eq_false_iff_ne.mpr (Nat.ne_of_gt (Nat.lt_trans h1 (Nat.lt_of_le_of_lt R.above hn.lt)))


theorem SE.dict {ks es d p} (h : SP C ks es d) (h1 : nodupB (d.map (·.1)) = true) (h2 : 0 < d.length) (h3 : d.length ≤ 10) : SE C n F vs (.Dict ks es p) (eV (.dict d)) := ⟨fun {fm μ vs' hp s Q E K X} a w k => by
  have R := a.R
  refine wpAny_Dict_walk (knd := intKind C.prog C.w) h.some h.len (by intro q; have := h.len2; rw [q] at this; simp at this; omega) (by have := h.len2; omega) (h.run fun vs' tk hl => ?_)
  obtain ⟨k1, k2, k3, k4⟩ := hl.keys
  refine display_done_int k1 (by rw [k2]; exact nodupB_spec h1) (Heap.DictOf.new s.heap) fun h' hm hs => ?_
  obtain ⟨o, ho, hd⟩ := Heap.dictOf_iff.mp hm
  obtain ⟨R1, S1⟩ := R.keeps (s' := { s with heap := h', toks := tk + vs'.length }) (fun b o e => (hs.2 b (Nat.ne_of_lt (Heap.lt_size e))).trans (Heap.get?_push_of_some _ e))
  exact (k.ok w) _ μ _ S1 R1 (.obj _ [s.heap.objs.size] _ (.dict _ _ _ _ (not_modules R) ho hd k3) fun b hb => List.mem_singleton.mp hb ▸ R.newNot (Nat.le_refl _))⟩

theorem call_meth {o x ap args p WA A X} {K : V → List V → List V → Prop} (a : At C n F vs fm μ vs' hp s) (ha : attributeBase o x fm.env (eval o fm.env) = eval o fm.env) (hl : ap.endLine = p.line) (h3 : args.length ≤ 3) (ho : SE C n F vs o A) (hA : SA C n F vs args WA) {K1 : V → List V → Prop} (w : A hp K1 X)
    (hm : ∀ v hp1 s1 μ1 val, K1 v hp1 → Step fm μ s μ1 s1 → Rel C fm μ1 vs' hp1 s1 → VR C s1.heap μ1 (fm.D μ1) v val → ∃ f, KeepOK C f ∧ (∀ {P : Value × List Value → Shared → Prop} {pl}, P (f, [val]) s1 → wpAny C.M fm.A (getMethod val x pl) P E s1) ∧ WA hp1 (K v) X ∧
      ∀ l hp2 s2 μ2 vals, K v l hp2 → Step fm μ1 s1 μ2 s2 → Rel C fm μ2 vs' hp2 s2 → VR C s2.heap μ2 (fm.D μ2) v val → VRs C s2.heap μ2 (fm.D μ2) l vals → wpAny C.M fm.A (call f (val :: vals)) Q E s2)
    (kx : X → ∀ x s', Fly C fm x s' → E x s') : wpAny C.M fm.A (eval (.Call (.Attribute o x ap) args [] p) fm.env) Q E s := by
  rw [arm_eval_Call, ha]
  refine wpAny_bind (ho.run a w (.of (fun v hp1 s1 μ1 val w1 st1 R1 rv => ?_) kx))
  refine wpAny_bind (wpAny_standAt ?_)
  obtain ⟨f, hk, hget, w2, hc⟩ := hm v hp1 s1 μ1 val w1 st1 R1 rv
  unfold methodCall
  have few : methodCallForm (args.length + ([] : List Keyword).length) (backTo p (starEach args fm.env)) (backToKw p (keywordEach [] fm.env)) = true := by
    have h1 := backTo_any (env := fm.env) (pos := p) hA.star
    have h2 : (backTo p (starEach args fm.env)).all (fun y => !y.1) = true := List.all_eq_true.mpr fun y hy => by
      cases q : y.1 with
      | false => rfl
      | true => exact absurd (List.any_eq_true.mpr ⟨y, hy, q⟩) (by rw [h1]; exact Bool.noConfusion)
    show ((backTo p (starEach args fm.env)).all (fun y => !y.1) && true && decide (args.length + 0 + 0 < 30)) = true
    rw [h2, decide_eq_true (by omega)]; rfl
  rw [few]
  refine wpAny_bind (wpAny_holding (hget ?_))
  dsimp only
  refine wpAny_bind ?_
  unfold methodCallPos
  rw [if_pos (by rw [hl]; exact beq_self_eq_true _)]
  refine wpAny_pure ?_
  exact callWith_run (first := [val]) hA (a.to R1) hk w2 (fun l hp2 s2 μ2 vals w3 st2 R2 rs => hc l hp2 s2 μ2 vals w3 st2 R2 (st2.vr rv) rs) kx
end


noncomputable def eGet (a : WP) (r : WL) : WP := fun hp K X => a hp (fun v hp1 => wD v fun d => r hp1 (fun l hp2 => w2 l fun x y => wI x fun i => wI y fun j => K (.int ((dget d i).getD j)) hp2) X) X
noncomputable def eJoin (a : WP) (r : WL) : WP := fun hp K X => a hp (fun v hp1 => wB v fun b => guard b.isEmpty (r hp1 (fun l hp2 => w1 l fun x => ∃ bs : List (List UInt8), look hp2 x = .list (bs.map V.bytes) ∧ (bs.flatten.length ≤ 1000000 ∧ bs.length ≤ 1000) ∧ K (.bytes bs.flatten) hp2) X)) X
/-- the last of the rows that may change is asked -/
noncomputable def wCell (hp : List V) (x : V) (k : List V → V → List V → Prop) : Prop := ∃ hp0 c hp2, hp = hp0 ++ c :: hp2 ∧ x = .ref hp0.length ∧ k hp0 c hp2
noncomputable def eApp (a : WP) (r : WL) : WP := fun hp K X => a hp (fun v hp1 => wCell hp1 v fun _ c _ => wL c fun _ => r hp1 (fun l hp2 => w1 l fun x => wCell hp2 v fun hp0 c h2 => wL c fun l => guard (isPlainV x) (l.length ≤ 1000 ∧ K .none (hp0 ++ V.list (l ++ [x]) :: h2))) X) X
noncomputable def eFind (f : Str → WF) (a : WP) (r : WL) : WP := fun hp K X => a hp (fun v hp1 => wO v fun c g => (isClsName c = true ∧ g.lookup ("find" : Str) = Option.none) ∧ r hp1 (fun l hp2 => f c (v :: l) hp2 K X) X) X
section
variable {C : Cx} {F : Frm} {fm : Fm} {μ μ' μ₀ : Mu} {vs vs' : Vars} {hp hp' : List V} {s s' s₀ : Shared} {A : Around} {Q : Value → Shared → Prop} {QB : Bool → Shared → Prop} {QL : List Value → Shared → Prop} {E : Value → Shared → Prop} {n : Nat}

theorem join_method {pl : Sem Bool} {Q : Value × List Value → Shared → Prop} {M : Model} {b : Array UInt8} {t : Tok} (h : Q (.builtin "bytes.join", [.bytes b t]) s) : wpAny M A (getMethod (.bytes b t) "join" pl) Q E s :=
  getMethod_builtin (typeIs_bytes _ _ _) FB.plainAttrs_bytes slot_bjoin type_bjoin (fun a e => by cases e) h


theorem SE.get {o ap args p A r} (ha : ∀ {env : Env}, attributeBase o "get" env (eval o env) = eval o env) (hl : ap.endLine = p.line) (h3 : args.length ≤ 3) (ho : SE C n F vs o A) (hA : SA C n F vs args r) : SE C n F vs (.Call (.Attribute o "get" ap) args [] p) (eGet A r) := ⟨fun {fm μ vs' hp s Q E K X} a w k => by
  refine call_meth (K1 := fun v hp1 => wD v fun d => r hp1 (fun l hp2 => w2 l fun x y => wI x fun i => wI y fun j => K (.int ((dget d i).getD j)) hp2) X) (K := fun v l hp2 => wD v fun d => w2 l fun x y => wI x fun i => wI y fun j => K (.int ((dget d i).getD j)) hp2) a ha hl h3 ho hA w (fun v hp1 s1 μ1 val w1 st1 R1 rv => ?_) k.ex
  obtain ⟨d, rfl, w2⟩ := w1.inv
  obtain ⟨ad, kvs, o, rfl, ns, e, dd, di⟩ := (look_lv R1 rv).dict
  have hmo := isDict_mapOf (prog := C.prog) (w := C.w) e dd
  refine ⟨.builtin "dict.get", keepOK_builtin _, fun hP => getMethod_builtin hmo.typeIs PySem.F.plainAttrs_dict PySem.F.slot_dict_get PySem.F.type_dict_get hmo.noDict hP, w2, fun l hp2 s2 μ2 vals w3 st2 R2 rv2 rs => ?_⟩
  obtain ⟨x, y, rfl, w4⟩ := Mine.w2.inv (w3 : Mine.w2 l fun x y => wI x fun i => wI y fun j => K (.int ((dget d i).getD j)) hp2)
  obtain ⟨vx, vy, rfl, rx, ry⟩ := rs.two
  obtain ⟨i, e1, w5⟩ := w4.inv
  obtain ⟨j, e2, w6⟩ := w5.inv
  rw [e1] at rx; rw [e2] at ry
  obtain ⟨t, rfl⟩ : ∃ t, vx = .int i t := rx.inv
  obtain ⟨u, rfl⟩ : ∃ t, vy = .int j t := ry.inv
  obtain ⟨ad', kvs, o, q, ns, e, dd, di⟩ := (look_lv R2 rv2).dict
  obtain rfl : ad = ad' := Value.ref.inj q
  have fin := (k.trans (st1.trans st2)).ok w6
  refine call_meetsIn PySem.F.slot_dict_get (isDict_mapOf e dd).typeIs PySem.F.entry_dict_get (PySem.F.args_dict_get_3 _ _ _) (meets_dict_get_default (intKind C.prog C.w) ad (intKind_is C.prog C.w i t) ns (.int j u)) ⟨_, isDict_mapOf e dd, ?_⟩
  obtain ⟨g1, g2⟩ := di.get i
  cases q : dget d i with
  | none => rw [q] at fin; rw [g1 q]; exact fin.ok_toks R2 (.int _ _)
  | some v =>
    rw [q] at fin
    obtain ⟨t', e'⟩ := g2 v q
    rw [e']
    exact fin.ok_toks R2 (.int _ _)⟩

theorem bytes_are {h : Heap} {D : List Addr} : ∀ {bs : List (List UInt8)} {xs : List Value}, VRs C h μ D (bs.map V.bytes) xs → BytesAre xs bs
  | [], xs, r => have q : xs = [] := r.inv; q ▸ .nil
  | b :: bs, xs, r =>
    let ⟨y, ys, q, a, r⟩ : ∃ y ys, xs = y :: ys ∧ VR C h μ D (.bytes b) y ∧ VRs C h μ D (bs.map V.bytes) ys := r.inv
    let ⟨t, e⟩ : ∃ t, y = .bytes b.toArray t := a.inv
    q ▸ e ▸ .cons _ _ (bytes_are r)
theorem SE.join {o ap args p A r} (ha : ∀ {env : Env}, attributeBase o "join" env (eval o env) = eval o env) (hl : ap.endLine = p.line) (h3 : args.length ≤ 3) (ho : SE C n F vs o A) (hA : SA C n F vs args r) : SE C n F vs (.Call (.Attribute o "join" ap) args [] p) (eJoin A r) := ⟨fun {fm μ vs' hp s Q E K X} a w k => by
  refine call_meth (K1 := fun v hp1 => wB v fun b => guard b.isEmpty (r hp1 (fun l hp2 => w1 l fun x => ∃ bs : List (List UInt8), look hp2 x = .list (bs.map V.bytes) ∧ (bs.flatten.length ≤ 1000000 ∧ bs.length ≤ 1000) ∧ K (.bytes bs.flatten) hp2) X)) (K := fun v l hp2 => w1 l fun x => ∃ bs : List (List UInt8), look hp2 x = .list (bs.map V.bytes) ∧ (bs.flatten.length ≤ 1000000 ∧ bs.length ≤ 1000) ∧ K (.bytes bs.flatten) hp2) a ha hl h3 ho hA w (fun v hp1 s1 μ1 val w1 st1 R1 rv => ?_) k.ex
  obtain ⟨b, rfl, w2⟩ := w1.inv
  obtain ⟨hb, w3⟩ := w2.inv
  have hb : b = [] := List.isEmpty_iff.mp hb
  rw [hb] at rv
  obtain ⟨t, rfl⟩ : ∃ t, val = .bytes ([] : List UInt8).toArray t := rv.inv
  refine ⟨.builtin "bytes.join", keepOK_builtin _, fun hP => join_method hP, w3, fun l hp2 s2 μ2 vals w4 st2 R2 rv2 rs => ?_⟩
  obtain ⟨x, rfl, bs, e, h1, w5⟩ := Mine.w1.inv w4
  obtain ⟨y, rfl, ry⟩ := rs.one
  obtain ⟨ad, xs, n, rfl, he, r, _⟩ := LInv.list (e ▸ look_lv R2 ry)
  exact join_run he (bytes_are r) h1.1 h1.2 fun t' kk => ((k.trans (st1.trans st2)).ok w5).ok_toks R2 (.bytes _ _)⟩

theorem last_ref (R : Rel C fm μ vs hp s) {hp0 hp2 : List V} {c v : V} {x : Value} (rv : VR C s.heap μ (fm.D μ) v x) (e : hp = hp0 ++ c :: hp2) (e2 : v = .ref hp0.length) : ∃ a fp, x = .ref a ∧ μ[hp0.length]? = some (a, fp) ∧ CR C s.heap μ (fm.D μ) c fp a ∧ (∀ u, setHp hp hp0.length u = hp0 ++ u :: hp2) := by
  rw [e2] at rv
  obtain ⟨a, fp, q, e3⟩ : ∃ a fp, x = .ref a ∧ μ[hp0.length]? = some (a, fp) := rv.inv
  obtain ⟨a', fp', e4, c', _⟩ := R.hps.2 hp0.length c (by rw [e, List.getElem?_append_right (Nat.le_refl _), Nat.sub_self]; rfl)
  rw [(some_pair e4 e3).1, (some_pair e4 e3).2] at c'
  exact ⟨a, fp, q, e3, c', fun u => by rw [e]; unfold setHp; rw [List.set_append_right _ _ (Nat.le_refl _), Nat.sub_self]; rfl⟩
theorem SE.app {o ap args p A r} (ha : ∀ {env : Env}, attributeBase o "append" env (eval o env) = eval o env) (hl : ap.endLine = p.line) (h3 : args.length ≤ 3) (ho : SE C n F vs o A) (hA : SA C n F vs args r) : SE C n F vs (.Call (.Attribute o "append" ap) args [] p) (eApp A r) := ⟨fun {fm μ vs' hp s Q E K X} a w k => by
  refine call_meth (K1 := fun v hp1 => wCell hp1 v fun _ c _ => wL c fun _ => r hp1 (fun l hp2 => w1 l fun x => wCell hp2 v fun hp0 c h2 => wL c fun l => guard (isPlainV x) (l.length ≤ 1000 ∧ K .none (hp0 ++ V.list (l ++ [x]) :: h2))) X) (K := fun v l hp2 => w1 l fun x => wCell hp2 v fun hp0 c h2 => wL c fun l => guard (isPlainV x) (l.length ≤ 1000 ∧ K .none (hp0 ++ V.list (l ++ [x]) :: h2))) a ha hl h3 ho hA w (fun v hp1 s1 μ1 val w1 st1 R1 rv => ?_) k.ex
  obtain ⟨hp0, c, _, e1, e2, w2⟩ := w1
  obtain ⟨l0, e3, w3⟩ := w2.inv
  obtain ⟨ad, fp, rfl, _, c0, _⟩ := last_ref R1 rv e1 e2
  rw [e3] at c0
  obtain ⟨_, xs, nn, he, _⟩ : fp = [ad] ∧ ∃ (xs : List Value) (n : Nat), s1.heap.get? ad = some ⟨.type "list", Option.none, .seq xs.toArray n, #[]⟩ ∧ VRs C s1.heap μ1 (fm.D μ1) l0 xs ∧ allPlain l0 = true := c0.inv
  refine ⟨.builtin "list.append", keepOK_builtin _, fun hP => Calls.getMethod_list_append he rfl rfl hP, w3, fun l hp2 s2 μ2 vals w4 st2 R2 rv2 rs => ?_⟩
  obtain ⟨x, rfl, hp3, c, _, e4, e5, w5⟩ := Mine.w1.inv w4
  obtain ⟨l, e6, w6⟩ := w5.inv
  obtain ⟨pl, hlen, w7⟩ := w6.inv
  obtain ⟨y, rfl, ry⟩ := rs.one
  obtain ⟨ad', fp, q, hμ, c0, hset⟩ := last_ref R2 rv2 e4 e5
  obtain rfl : ad = ad' := Value.ref.inj q
  rw [e6] at c0
  obtain ⟨hfp, xs, nn, he, r, pl2⟩ : fp = [ad] ∧ ∃ (xs : List Value) (n : Nat), s2.heap.get? ad = some ⟨.type "list", Option.none, .seq xs.toArray n, #[]⟩ ∧ VRs C s2.heap μ2 (fm.D μ2) l xs ∧ allPlain l = true := c0.inv
  have len := r.length
  refine append_at he (fun h' hs ho => ?_) (by rw [List.size_toArray, sizeLine_eq]; omega)
  rw [List.push_toArray] at ho
  have hx : ∀ b o, b ∉ fp → s2.heap.get? b = some o → h'.get? b = some o := fun b o n e => hs.extBut b o (fun q => n (by rw [q, hfp]; exact List.mem_singleton.mpr rfl)) e
  have vrk : ∀ {l : List V} {ys : List Value}, VRs C s2.heap μ2 (fm.D μ2) l ys → VRs C h' μ2 (fm.D μ2) l ys := fun r => VRs.mono (fun b o nb eb => hx b o (fun q => nb (mem_D.mpr (.inr (.inl (fp_mu hμ q))))) eb) (fun _ _ e => e) (fun b hb => .inl hb) r
  obtain ⟨R3, S3⟩ := Rel.mut (s' := { s2 with heap := h' }) a.ok R2 hμ hx (v := V.list (l ++ [x])) (by rw [hfp]; exact CR.list (l ++ [x]) (xs ++ [y]) ad _ ho (vrk (r.append (.cons _ _ _ _ ry .nil))) (by unfold allPlain at *; rw [List.all_append, pl2, List.all_cons, pl]; rfl)) rfl
  rw [hset] at R3
  exact (k.trans (st1.trans st2)).ok w7 _ μ2 _ S3 R3 .none⟩

theorem SE.find {o ap args p A r m} {f : Str → WF} (G : GOK C) (ha : ∀ {env : Env}, attributeBase o "find" env (eval o env) = eval o env) (hl : ap.endLine = p.line) (h3 : args.length ≤ 3) (hm : m ≤ n) (hf : ∀ c, isClsName c = true → SF C m (methOf c "find") (f c)) (ho : SE C n F vs o A) (hA : SA C n F vs args r) : SE C n F vs (.Call (.Attribute o "find" ap) args [] p) (eFind f A r) := ⟨fun {fm μ vs' hp s Q E K X} a w k => by
  refine call_meth (K1 := fun v hp1 => wO v fun c g => (isClsName c = true ∧ g.lookup ("find" : Str) = Option.none) ∧ r hp1 (fun l hp2 => f c (v :: l) hp2 K X) X) (K := fun v l hp2 => wO v fun c g => f c (v :: l) hp2 K X) a ha hl h3 ho hA w (fun v hp1 s1 μ1 val w1 st1 R1 rv => ?_) k.ex
  obtain ⟨c, g, rfl, ⟨hc, hn⟩, w2⟩ := w1.inv
  obtain ⟨ad, d, cl, es, m', rfl, gg, e1, e2, en⟩ := (look_lv R1 rv).inst
  obtain ⟨cl', g', CI⟩ := G.cls c hc
  rw [gg] at g'; cases g'
  obtain ⟨fa, ff, fi⟩ := CI.find
  obtain ⟨mm, news, F', N, mem, back⟩ := R1.bridge a.ok
  refine ⟨.ref fa, keepOK_ref fi.keep, fun hP => method_inst F' C.inK (instAt_of e1 e2) (CI.plain _) ff fi.fn ((en.get _).1 hn) hP, w2, fun l hp2 s2 μ2 vals w3 st2 R2 rv2 rs => ?_⟩
  exact SF.go (hf c hc) a.ok (a.rm.mono hm) R2 fi (.cons _ _ _ _ rv2 rs) w3 (k.trans (st1.trans st2))⟩

end


noncomputable abbrev WS (α : Type) := List V → (α → List V → Prop) → (V → List V → Prop) → Prop → Prop
/-- what follows statements: α is what the names hold that are handed on -/
structure KS (C : Cx) (fm : Fm) (M : List Addr) (μ₀ : Mu) (s₀ : Shared) {α : Type} (st : α → Vars) (Kn : α → List V → Prop) (Kr : V → List V → Prop) (X : Prop) (QF : Flow → Shared → Prop) (E : Value → Shared → Prop) : Prop where
  nx : ∀ {a hp' s' μ' vs'}, Kn a hp' → SStep fm M μ₀ s₀ μ' s' → Rel C fm μ' vs' hp' s' → Sub (st a) vs' → QF .next s'
  rt : ∀ {v hp' s' μ' vs' val}, Kr v hp' → SStep fm M μ₀ s₀ μ' s' → Rel C fm μ' vs' hp' s' → VR C s'.heap μ' (fm.D μ') v val → QF (.ret val) s'
  ex : X → ∀ x s', (Fly C fm x s' ∨ Raw C fm x s') → E x s'
structure SS (C : Cx) (n : Nat) (F : Frm) {α : Type} (st : α → Vars) (vs : Vars) (ss : List Stmt) (W : WS α) : Prop where
  run : ∀ {fm M μ₀ s₀ μ vs' hp s QF E Kn Kr X}, At C n F vs fm μ vs' hp s → FnFm fm → μ₀.length ≤ F.low → SStep fm M μ₀ s₀ μ s → W hp Kn Kr X → KS C fm M μ₀ s₀ st Kn Kr X QF E → wpAny C.M fm.A (PySem.execs ss fm.env) QF E s

noncomputable def Rt (keep : Bool) (k : Nat) (v : V) (hp2 : List V) (K : V → List V → Prop) : Prop := match keep with
  | true => K v hp2
  | false => K (frzV k hp2 v) (hp2.take k)

theorem nodupS_spec : ∀ {l : List Str}, nodupS l = true → l.Nodup
  | [], _ => .nil
  | a :: r, h => by
    simp only [nodupS, Bool.and_eq_true, Bool.not_eq_true', List.contains_eq_mem, decide_eq_false_iff_not] at h
    exact List.nodup_cons.mpr ⟨h.1, nodupS_spec h.2⟩

theorem zip_lookup_none {α : Type} {x : Str} : ∀ {ps : List Str} {vals : List α}, x ∉ ps → (ps.zip vals).lookup x = none
  | [], _, _ => by simp
  | p :: ps, [], _ => by simp
  | p :: ps, v :: vals, h => by
    have h1 : x ≠ p := fun e => h (e ▸ List.mem_cons_self ..)
    have h2 : (x == p) = false := by simpa using h1
    simp only [List.zip_cons_cons, List.lookup_cons, h2]
    exact zip_lookup_none fun e => h (List.mem_cons_of_mem _ e)

theorem bind_lookup {x : Str} (P : Str → Prop) [∀ y, Decidable (P y)] (hx : P x) (f : List (Str × Value) → (Str → Option Value) → Str → Option Value) (f0 : ∀ m, f [] m = m) (f1 : ∀ p v r m, f ((p, v) :: r) m = f r (if P p then (fun y => if y = p then some v else m y) else m)) : ∀ {ps : List Str} {vals : List Value}, ps.Nodup → ∀ m, f (ps.zip vals) m x = match (ps.zip vals).lookup x with | some v => some v | none => m x
  | [], _, _, m => by rw [List.zip_nil_left, f0]; rfl
  | p :: ps, [], _, m => by rw [List.zip_nil_right, f0]; rfl
  | p :: ps, v :: vals, h, m => by
    obtain ⟨h1, h2⟩ := List.nodup_cons.mp h
    rw [List.zip_cons_cons, f1, bind_lookup P hx f f0 f1 h2, List.lookup_cons]
    by_cases q : x = p
    · subst q; rw [zip_lookup_none h1, beq_self_eq_true, if_pos hx]; exact if_pos rfl
    · rw [beq_false_of_ne q]
      cases (ps.zip vals).lookup x with
      | some v => rfl
      | none => by_cases hp : P p
                · rw [if_pos hp]; exact if_neg q
                · rw [if_neg hp]
theorem bindL_lookup {kindOf : Str → Option NameKind} {x : Str} (hk : kindOf x = some .local) {ps : List Str} {vals : List Value} (h : ps.Nodup) (m) : bindL kindOf (ps.zip vals) m x = match (ps.zip vals).lookup x with | some v => some v | none => m x :=
  bind_lookup (fun y => kindOf y = some .local) hk (bindL kindOf) (fun _ => rfl) (fun _ _ _ _ => rfl) h m
theorem bindC_lookup {kindOf : Str → Option NameKind} {x : Str} (hk : kindOf x ≠ some .local) {ps : List Str} {vals : List Value} (h : ps.Nodup) (m) : bindC kindOf (ps.zip vals) m x = match (ps.zip vals).lookup x with | some v => some v | none => m x :=
  bind_lookup (fun y => ¬ kindOf y = some .local) hk (bindC kindOf) (fun _ => rfl) (fun p v r m => by show bindC kindOf r _ = _; congr 1; by_cases h : kindOf p = some .local <;> simp [h]) h m

section
variable {C : Cx} {F : Frm} {fm : Fm} {μ μ' μ₀ : Mu} {vs vs' : Vars} {hp hp' : List V} {s s' s₀ : Shared} {A : Around} {Q : Value → Shared → Prop} {QB : Bool → Shared → Prop} {QL : List Value → Shared → Prop} {QF : Flow → Shared → Prop} {E : Value → Shared → Prop} {n : Nat} {M : List Addr}

/-- what the leaving of a frame makes of an exception -/
theorem leave_sound {fm' : Fm} (hA : fm'.A.frames = some (fm'.fenv :: fm'.outer)) (hself : fm'.fenv = fm'.env) (ho : fm'.outer = fm.fenv :: fm.outer) (hf : fm'.env.frame = some fm'.L) (hn : fm'.nss = fm.nss) {x : Value} (h : Fly C fm' x s ∨ Raw C fm' x s)
    (k : ∀ s', Fly C fm x s' → E x s') : wpAny C.M fm'.A (leaving fm'.env x) (fun _ s' => E x s') (fun e s' => E e s') s := by
  have nsk : ∀ {h₁ h₂ : Heap}, (∀ b o, h₁.get? b = some o → (∀ vs, o.data ≠ .fields vs) → ∃ sl, h₂.get? b = some { o with slots := sl }) → (∀ a ∈ fm'.nss, ∃ m, h₁.Ns a m) → ∀ a ∈ fm.nss, ∃ m, h₂.Ns a m := fun u z a ha => by
    obtain ⟨m, n⟩ := z a (by rw [hn]; exact ha)
    exact ⟨m, Heap.UpToSlots.ns u n⟩
  rcases h with ⟨e, cls, rfl, hc, ⟨f1, f2, f3, oe, vs, T, oT, ts, t3, g1, g2, g3, g4, g5, g6, g7, g8, g9, g10⟩, z1, z2, z3⟩ | ⟨e, cls, oe, vs, rfl, hc, f1, f2, f3, g1, g2, g3, g4, z1, z2, z3⟩
  · rw [hself] at f3 hA
    rcases g10 with rfl | rfl
    · refine wpAny_leaving_next hA f3 hf ⟨oe, vs, T, oT, ts, g1, g2, g3, g4, g5, g6, g7, g8, g9⟩ f1 f2 fun h' ⟨k1, k2, k3, k4⟩ => k _ ?_
      obtain ⟨oe', vs', T', oT', ts', y1, y2, y3, y4, y5, y6, y7, y8, y9⟩ := k3
      exact ⟨e, cls, rfl, hc, ⟨k1, f2, ho ▸ k2.2.2, oe', vs', T', oT', ts', _, y1, y2, y3, y4, y5, y6, y7, y8, y9, .inl rfl⟩, z1, z2, nsk k4 z3⟩
    · unfold leaving
      refine wpAny_bind (wpAny_noteFrame_inFlight hf g1 g3 g4 g7 g8 g9 ?_)
      have hsz3 : 3 < ts.size := (Array.getElem?_eq_some_iff.mp g9).1
      refine wpAny_setFlight_none g1 g3 g4 g7 g8 hsz3 (k _ ?_)
      have other : ∀ b, b ≠ T → (s.heap.update T (Obj.mapFields (·.setIfInBounds 3 .none))).get? b = s.heap.get? b := fun b hb => Heap.get?_update_other _ _ (Ne.symm hb)
      have noRecord : ∀ b o, s.heap.get? b = some o → (∀ vs, o.data ≠ .fields vs) → b ≠ T := fun b o hb hnf q => by
        rw [q, g7] at hb; injection hb with hb; subst hb; exact hnf ts g8
      refine ⟨e, cls, rfl, hc, ⟨fun b o hbo => (other b fun q => by rw [q, g5] at hbo; cases hbo).trans (f1 b o hbo), f2, ho ▸ (f3.2.2.of_keeps fun b o hb hnf => ⟨o, (other b (noRecord b o hb hnf)).trans hb, rfl⟩), ?_⟩, z1, z2,
        nsk (fun b o hb hnf => ⟨o.slots, (other b (noRecord b o hb hnf)).trans hb⟩) z3⟩
      exact ⟨oe, vs, T, _, _, _, (other e (Ne.symm g6)).trans g1, g2, g3, g4, g5, g6, Heap.get?_update_self _ g7 (Obj.isFreed_of_fields (Obj.data_mapFields g8 _)), Obj.data_mapFields g8 _, by simp [hsz3], .inl rfl⟩
  · rw [hself] at f3 hA
    refine wpAny_leaving_first hA f3 hf g1 f1 f2 g3 g4 fun h' ⟨k1, k2, k3, k4⟩ => k _ ?_
    obtain ⟨oe', vs', T', oT', ts', y1, y2, y3, y4, y5, y6, y7, y8, y9⟩ := k3
    exact ⟨e, cls, rfl, hc, ⟨k1, f2, ho ▸ k2.2.2, oe', vs', T', oT', ts', _, y1, y2.trans g2, y3, y4, y5, y6, y7, y8, y9, .inl rfl⟩, z1, z2, nsk k4 z3⟩

noncomputable def parOK (fi : FnInfo) : Bool := fi.args.all fun a => fi.names.lookup a.arg == some .local || fi.names.lookup a.arg == some .cell
theorem SF.of {fi : FnInfo} {W : Nat → List V → WS Unit} (hpar : parOK fi = true) (hss : ∀ low args, SS C n ⟨fi.names, fi.keep, low⟩ (fun _ => []) ((fi.args.map (·.arg)).zip args) fi.body (W low args)) :
    SF C (n + 1) fi (fun args hp K X => args.length = fi.args.length ∧ W hp.length args hp (fun _ hp2 => Rt fi.keep hp.length .none hp2 K) (fun v hp2 => Rt fi.keep hp.length v hp2 K) X) := by
  refine ⟨fun {F fm μ vs hp s A f args vals Q E K X} ok hA hh rm R fi_is rv w kk => ?_⟩
  obtain ⟨o, fd, ho, hdat, hpar0, hbody, hnames, hkind, hgen, hco, hclo, hglob, hblt, hbind, hcode⟩ := fi_is.obj
  obtain ⟨hlen, w⟩ := w
  have lenv : vals.length = fi.args.length := by rw [← rv.length]; exact hlen
  have hoh : s.heap.get? f = some o := R.base f o (C.inK f o ho)
  have K0 : ∀ b o, C.base.get? b = some o → s.heap.get? b = some o := R.base
  have nd := nodupS_spec fi_is.nodup
  refine codeAny_call_function (by have := rm.1; omega) hoh hdat hco hgen hbody (codeRec_of (C.inK.keeps K0) hcode) ?_
  rw [hbind vals lenv, hclo, hglob, hblt]
  refine wpAny_pure ?_
  -- every parameter is a name or a cell
  have hk : ∀ m, ∀ x ∈ (fi.args.map (·.arg)).zip vals, fd.scope.names.lookup x.1 = some .local ∨ (fd.scope.names.lookup x.1 = some .cell ∧ ((cellsFrom m fd.scope.names []).lookup x.1).isSome = true) := by
    refine kindsX (List.all_eq_true.mpr fun x hx => ?_)
    have h1 := (List.of_mem_zip (a := x.1) (b := x.2) hx).1
    obtain ⟨a, ha, e⟩ := List.mem_map.mp h1
    have h2 := List.all_eq_true.mp hpar a ha
    rw [e] at h2
    rw [hnames]
    exact h2
  refine wpAny_newFunctionEnv_cells hkind (hk _) fun env he s₁ x => ?_
  have hLim : s₁.heap.NoLimit := (C.top.nolimit.keeps K0).keeps x.toInCall.keep
  refine ⟨hLim, codeAny_func ?_⟩
  have eL : env.locals = s.heap.objs.size := by subst he; rfl
  have eC : env.cells = cellsFrom (s.heap.objs.size + 1) fd.scope.names [] := by subst he; rfl
  have eS : env.scope = fd.scope := by subst he; rfl
  have eF : env.frame = some s.heap.objs.size := by subst he; rfl
  have eG : env.globals = mainGlobals := by subst he; rfl
  have eB : env.builtins = builtinsNs := by subst he; rfl
  clear he
  -- the new frame
  have hcs : ∀ y c, (y, c) ∈ env.cells → s.heap.objs.size < c := fun y c hm => by have := x.above y c hm; rw [eL] at this; exact this
  have hcnd : (env.cells.map (·.1)).Nodup := by rw [eC, cellsFrom_names fd.scope.names (s.heap.objs.size + 1) 0 [] [] rfl, hnames]; exact fi_is.cells
  let fm' : Fm := { env := env, A := A.deeper env, fenv := env, outer := fm.fenv :: fm.outer, L := s.heap.objs.size, own := s.heap.objs.size :: env.cells.map (·.2), prot := fm.own ++ fm.prot, nss := fm.nss }
  let F' : Frm := ⟨fi.names, fi.keep, hp.length⟩
  have ownge : ∀ b ∈ fm'.own, s.heap.objs.size ≤ b := fun b hb => by
    rcases List.mem_cons.mp hb with q | q
    · exact Nat.le_of_eq q.symm
    · obtain ⟨p, hp1, hp2⟩ := List.mem_map.mp q
      have := hcs p.1 p.2 hp1
      exact Nat.le_of_lt (hp2 ▸ this)
  have oldlt : ∀ b ∈ fm.D μ, b < s.heap.objs.size := fun b hb => let ⟨_, o, e⟩ := R.fr b hb; Heap.lt_size e
  have Dsub : ∀ b ∈ fm'.D μ, b ∈ fm'.own ∨ b ∈ fm.D μ := fun b hb => by
    rcases mem_D.mp hb with q | q | q
    · exact .inl q
    · exact .inr (mem_D.mpr (.inr (.inl q)))
    · rcases List.mem_append.mp (show b ∈ fm.own ++ fm.prot from q) with q | q
      · exact .inr (mem_D.mpr (.inl q))
      · exact .inr (mem_D.mpr (.inr (.inr q)))
  have ok' : FmOk F' fm' := {
    kind := by show env.scope.kind = _; rw [eS]; exact hkind
    names := by show env.scope.names = _; rw [eS]; exact hnames
    fkind := by show env.scope.kind = _; rw [eS]; exact hkind
    frames := Around.frames_deeper hA
    handled := hh
    frame := eF
    fframe := eF
    glob := eG
    blt := eB
    loc := by show env.locals ∈ _; rw [eL]; exact List.mem_cons_self ..
    fin := fun e he L hL => by
      rcases List.mem_cons.mp he with q | q
      · subst q; rw [show fm'.fenv.frame = some s.heap.objs.size from eF] at hL; cases hL; exact List.mem_append_left _ (List.mem_cons_self ..)
      · exact List.mem_append_right _ (ok.fin e q L hL)
    nodbg := fi_is.nodbg
    noclsd := fi_is.noclsd }
  have fn' : FnFm fm' := ⟨rfl, eL, fun y c e => List.mem_cons_of_mem _ (List.mem_map.mpr ⟨(y, c), mem_of_lookup e, rfl⟩), fun y z c e1 e2 => name_of_addr x.apart (mem_of_lookup e1) (mem_of_lookup e2)⟩
  have rm' : Room fm'.A n := ⟨by have := rm.1; show A.depth + 1 + _ < _; omega, by have := rm.2; show A.units + 3 + _ + _ < _; omega⟩
  have st0 : SStep fm' (muA μ) μ s₁ μ s₁ := SStep.refl ⟨[], by simp⟩
  obtain ⟨hq, tq, es1, hkeep⟩ := x.done
  have mono : ∀ {v : V} {val : Value}, VR C s.heap μ (fm.D μ) v val → VR C s₁.heap μ (fm'.D μ) v val := fun r => VR.mono (fun b o _ e => x.toInCall.keep b o e) (fun _ _ e => e) (fun b hb => by
      rcases Dsub b hb with q | q
      · exact .inr (heap_none (ownge b q))
      · exact .inl q) r
  have nd' : (fm'.D μ).Nodup := by
    obtain ⟨nm, no, np, nop⟩ := D_parts R
    have := R.nd
    rw [Fm.D, List.append_assoc, List.nodup_append] at this
    have nown := this.1
    have this2 := this.2.1
    rw [List.nodup_append] at this2
    have nprot := this2.2.1
    rw [Fm.D, List.nodup_append, List.nodup_append]
    refine ⟨⟨?_, nm, fun b hb c hc e => ?_⟩, ?_, fun b hb c hc e => ?_⟩
    · show (s.heap.objs.size :: env.cells.map (·.2)).Nodup
      refine List.nodup_cons.mpr ⟨fun hm => ?_, ?_⟩
      · obtain ⟨p, hp1, hp2⟩ := List.mem_map.mp hm
        have := hcs p.1 p.2 hp1
        rw [hp2] at this; exact Nat.lt_irrefl _ this
      · rw [List.Nodup, List.pairwise_map]; exact x.apart
    · subst e; exact absurd (oldlt b (mem_D.mpr (.inr (.inl hc)))) (Nat.not_lt.mpr (ownge b hb))
    · show (fm.own ++ fm.prot).Nodup
      rw [List.nodup_append]
      exact ⟨nown, nprot, fun b hb c hc e => nop b hb (e ▸ hc)⟩
    · subst e
      rcases List.mem_append.mp (show b ∈ fm.own ++ fm.prot from hc) with q | q
      · rcases List.mem_append.mp hb with hb | hb
        · exact absurd (oldlt b (mem_D.mpr (.inl q))) (Nat.not_lt.mpr (ownge b hb))
        · exact no b q hb
      · rcases List.mem_append.mp hb with hb | hb
        · exact absurd (oldlt b (mem_D.mpr (.inr (.inr q)))) (Nat.not_lt.mpr (ownge b hb))
        · exact np b q hb
  have R' : Rel C fm' μ ((fi.args.map (·.arg)).zip args) hp s₁ := by
    refine ⟨fun b o e => x.toInCall.keep b o (R.base b o e), ?_, nd', fun b hb => ?_, ⟨_, x.toInCall.ns, fun y v e k => ?_⟩, fun y hy => ?_, ⟨R.hps.1, fun i v e => ?_⟩, ?_, ?_, ?_, fun a ha => let ⟨y, m, n⟩ := R.nss a ha; ⟨List.mem_append_right _ y, m, n.at' fun o e => x.toInCall.keep a o e⟩⟩
    · exact .cons (by rw [eS, hkind]; decide) eF (by have := x.toInCall.ns; rw [eL] at this; exact this) (base_none R (Nat.le_refl _)) (R.ff.of_keeps fun b o e _ => ⟨o, x.toInCall.keep b o e, rfl⟩)
    · rcases Dsub b hb with q | q
      · refine ⟨base_none R (ownge b q), ?_⟩
        rcases List.mem_cons.mp q with q | q
        · subst q
          obtain ⟨ob, _, _, e, _⟩ := x.toInCall.ns
          rw [eL] at e; exact ⟨ob, e⟩
        · obtain ⟨p, hp1, hp2⟩ := List.mem_map.mp q
          obtain ⟨ob, e, _⟩ := x.cell p.1 p.2 (lookup_of_mem_nodup hcnd hp1)
          exact ⟨ob, hp2 ▸ e⟩
      · obtain ⟨a1, o, a2⟩ := R.fr b q; exact ⟨a1, o, x.toInCall.keep b o a2⟩
    · obtain ⟨val, e1, r1⟩ := zip_lookup_vr rv e
      refine ⟨val, ?_, mono r1⟩
      rw [bindL_lookup k nd, e1]
    · have kc : env.kindOf y = some .cell := by
        rcases hy with q | q
        · exact q
        · have : env.scope.names.lookup y = some .free := q
          rw [eS, hnames] at this
          exact absurd rfl (fi_is.nofree _ (mem_of_lookup this))
      have hs : (env.cells.lookup y).isSome = true := by
        rw [eC]
        refine cellsFrom_some _ _ _ (.inl ?_)
        have : env.scope.names.lookup y = some .cell := kc
        rw [eS] at this; exact this
      obtain ⟨c, hc⟩ := Option.isSome_iff_exists.mp hs
      refine ⟨c, _, hc, x.cell y c hc, ⟨List.mem_append_left _ (fn'.cown y c hc), ?_⟩, fun v e => ?_⟩
      · show c ≠ env.locals
        rw [eL]; exact Nat.ne_of_gt (hcs y c (mem_of_lookup hc))
      · obtain ⟨val, e1, r1⟩ := zip_lookup_vr rv e
        refine ⟨val, ?_, mono r1⟩
        rw [bindC_lookup (by rw [kc]; decide) nd, e1]
    · obtain ⟨a, fp, e1, e2, e3⟩ := R.hps.2 i v e
      exact ⟨a, fp, e1, CR.mono (fun b o _ e => x.toInCall.keep b o e) (fun _ _ e => e) (fun b hb => by
        rcases Dsub b hb with q | q
        · exact .inr (heap_none (ownge b q))
        · exact .inl q) e2 (fun b _ o e => x.toInCall.keep b o e), e3⟩
    · rw [es1]; exact R.gens
    · rw [es1]; exact R.os
    · show C.base.objs.size ≤ env.locals
      rw [eL]
      obtain ⟨m, hn, _⟩ := R.ns
      exact Nat.le_trans R.above (Nat.le_of_lt hn.lt)
  -- coming back
  have back : ∀ (v : V) (vs₂ : Vars) (hp₂ : List V) (s₂ : Shared) (μ₂ : Mu) (val : Value), Step fm' μ s₁ μ₂ s₂ → Rel C fm' μ₂ vs₂ hp₂ s₂ → VR C s₂.heap μ₂ (fm'.D μ₂) v val →
      Rt fi.keep hp.length v hp₂ K → Q val s₂ := by
    intro v vs₂ hp₂ s₂ μ₂ val st R₂ r₂ hf
    obtain ⟨sk, ⟨ν, rfl, hν⟩, slive⟩ := st
    have keepAll : ∀ b o, b ∉ muA μ → s.heap.get? b = some o → s₂.heap.get? b = some o := fun b o nb e =>
      sk b o (fun hb => absurd (Heap.lt_size e) (Nat.not_lt.mpr (ownge b hb))) nb (x.toInCall.keep b o e)
    have hν' : ∀ b ∈ muA ν, s.heap.get? b = none := fun b hb => by
      cases q : s.heap.get? b with
      | none => rfl
      | some o => have := hν b hb; rw [x.toInCall.keep b o q] at this; cases this
    obtain ⟨nm, no, np, nop⟩ := D_parts R
    have stB : ∀ ν', (∀ b ∈ muA ν', s.heap.get? b = none) → Step fm μ s (μ ++ ν') s₂ := fun ν' h' => ⟨fun b o _ n2 e => keepAll b o n2 e, ⟨ν', rfl, h'⟩, fun b o e => by
      obtain ⟨o1, e1⟩ : ∃ o1, s₁.heap.get? b = some o1 := ⟨o, x.toInCall.keep b o e⟩
      exact slive b o1 e1⟩
    have ff₂ : s₂.heap.FunFrames C.base (fm.fenv :: fm.outer) := R₂.ff.2.2
    obtain ⟨nm₂, no₂, np₂, _⟩ := D_parts R₂
    have subD : ∀ k b, b ∈ fm.D ((μ ++ ν).take k) → b ∈ fm'.D (μ ++ ν) := fun k b hb => by
      rcases mem_D.mp hb with q | q | q
      · exact mem_D.mpr (.inr (.inr (List.mem_append_left _ q)))
      · exact mem_D.mpr (.inr (.inl (muA_take q)))
      · exact mem_D.mpr (.inr (.inr (List.mem_append_right _ q)))
    have ndk : ∀ k, (fm.D ((μ ++ ν).take k)).Nodup := fun k => by
      have := R.nd
      rw [Fm.D, List.append_assoc, List.nodup_append] at this
      have nown := this.1
      have this2 := this.2.1
      rw [List.nodup_append] at this2
      have nprot := this2.2.1
      rw [Fm.D, List.nodup_append, List.nodup_append]
      refine ⟨⟨nown, (muA_take_sub k).nodup nm₂, fun b hb c hc e => ?_⟩, nprot, fun b hb c hc e => ?_⟩
      · subst e; exact np₂ b (List.mem_append_left _ hb) (muA_take hc)
      · subst e
        rcases List.mem_append.mp hb with q | q
        · exact nop b q hc
        · exact np₂ b (List.mem_append_right _ hc) (muA_take q)
    have frk : ∀ k, ∀ a ∈ muA ((μ ++ ν).take k), C.base.get? a = none ∧ ∃ o, s₂.heap.get? a = some o := fun k a ha => R₂.fr a (mem_D.mpr (.inr (.inl (muA_take ha))))
    have hpk : ∀ k, (hp₂.take k).length = ((μ ++ ν).take k).length ∧ ∀ (i : Nat) v, (hp₂.take k)[i]? = some v → ∃ a fp, ((μ ++ ν).take k)[i]? = some (a, fp) ∧ CR C s₂.heap ((μ ++ ν).take k) (fm.D ((μ ++ ν).take k)) v fp a ∧ isPlainV v = true := fun k => by
      refine ⟨by rw [List.length_take, List.length_take, R₂.hps.1], fun i v e => ?_⟩
      have hi : i < k := by
        have := (List.getElem?_eq_some_iff.mp e).1
        rw [List.length_take] at this; omega
      rw [List.getElem?_take_of_lt hi] at e
      obtain ⟨a, fp, e1, e2, e3⟩ := R₂.hps.2 i v e
      exact ⟨a, fp, by rw [List.getElem?_take_of_lt hi]; exact e1, e2.less (subD k), e3⟩
    have ownk : ∀ b o, b ∈ fm.own → s.heap.get? b = some o → s₂.heap.get? b = some o := fun b o hb e => keepAll b o (no b hb) e
    have protk : ∀ b o, b ∈ fm.prot → s.heap.get? b = some o → s₂.heap.get? b = some o := fun b o hb e => keepAll b o (np b hb) e
    revert hf
    cases fi.keep with
    | true =>
      intro hf
      have e0 : (μ ++ ν).take (μ ++ ν).length = μ ++ ν := List.take_length
      have e1 : hp₂.take (μ ++ ν).length = hp₂ := by rw [← R₂.hps.1]; exact List.take_length
      have h1 := ndk (μ ++ ν).length
      have h2 := frk (μ ++ ν).length
      have h3 := hpk (μ ++ ν).length
      have h4 := subD (μ ++ ν).length
      rw [e0] at h1 h2 h3 h4
      rw [e1] at h3
      have Rb := Rel.back R (stB ν hν') ownk R₂.base ff₂ h1 h2 protk h3 ok R₂.gens R₂.os
      exact kk.ok hf s₂ _ val (stB ν hν') Rb (VR.mono (fun _ _ _ e => e) (fun _ _ e => e) (fun b hb => .inl (h4 b hb)) r₂)
    | false =>
      intro hf
      have lk : hp.length = μ.length := R.hps.1
      have e0 : (μ ++ ν).take hp.length = μ := by rw [lk]; exact List.take_left
      have h1 := ndk hp.length
      have h2 := frk hp.length
      have h3 := hpk hp.length
      have h4 := subD hp.length
      rw [e0] at h1 h2 h3 h4
      have stm : Step fm μ s μ s₂ := by
        have := stB [] (by simp [muA])
        rwa [List.append_nil] at this
      have Rb := Rel.back R stm ownk R₂.base ff₂ h1 h2 protk h3 ok R₂.gens R₂.os
      have fz := frz_vr R₂ (k := hp.length) r₂
      rw [e0] at fz
      have fz' : VR C s₂.heap μ (fm.D μ) (frzV hp.length hp₂ v) val := VR.mono (fun _ _ _ e => e) (fun _ _ e => e) (fun b hb => .inl (by
        rcases mem_D.mp hb with q | q | q
        · exact mem_D.mpr (.inr (.inr (List.mem_append_left _ q)))
        · exact mem_D.mpr (.inr (.inl q))
        · exact mem_D.mpr (.inr (.inr (List.mem_append_right _ q))))) fz
      exact kk.ok hf s₂ μ val stm Rb fz'
  -- the body
  refine (hss hp.length args).run (QF := fun fl s' => retR Q E (.ok (.ret (match fl with | .ret v => v | _ => .none))) s') (E := fun e s' => wpAny C.M fm'.A (leaving fm'.env e) (fun _ s'' => E e s'') (fun e' s'' => E e' s'') s')
    ⟨ok', rm', fun _ _ e => e, R'⟩ fn' (Nat.le_of_eq R.hps.1.symm) st0 w ⟨fun {a hp₂ s₂ μ₂ vs₂} w2 st R₂ _ => ?_, fun {v hp₂ s₂ μ₂ vs₂ val} w2 st R₂ r₂ => ?_, fun hx y s₂ hy => ?_⟩
  · exact back .none vs₂ hp₂ s₂ μ₂ .none (st.toStep (D_parts R₂).1) R₂ .none w2
  · exact back v vs₂ hp₂ s₂ μ₂ val (st.toStep (D_parts R₂).1) R₂ r₂ w2
  · exact leave_sound (fm := fm) ok'.frames rfl rfl eF rfl hy fun s₃ hf => kk.ex hx y s₃ hf

noncomputable def eInit (x : Str) (W : WF) (args : List V) (hp : List V) (K : V → List V → Prop) (X : Prop) : Prop := W (.ref hp.length :: args) (hp ++ [.inst x []]) (fun v hp2 => wN v (K (hp2.getD hp.length .none) (hp2.take hp.length))) X
theorem make_sound {W : WF} {K : V → List V → Prop} {X : Prop} {x : Str} (G : GOK C) (hF : SF C n (methOf x (Str.ofString "__init__")) W) (ok : FmOk F fm) (rm : Room fm.A (n + 1)) (R : Rel C fm μ vs hp s) (hc : isClsName x = true) {args : List V} {vals : List Value} {fv : Value} (hv : nsIn C.K mainGlobals x = some (some fv))
    (rv : VRs C s.heap μ (fm.D μ) args vals)
    (k : KE C fm vs μ s K X Q E) (w : eInit x W args hp K X) : wpAny C.M fm.A (call fv vals) Q E s := by
  obtain ⟨cl, g, CI⟩ := G.cls x hc
  rw [g] at hv; cases hv
  obtain ⟨fI, hi, fii⟩ := CI.init
  have K0 : ∀ b o, C.base.get? b = some o → s.heap.get? b = some o := R.base
  have X := C.inK.keeps K0
  refine wpAny_call ?_
  obtain ⟨hh, gg, dd, tt, oo⟩ := s
  refine make_core (makes_of X CI.makes) (looks_findIn X hi) (fun self => bind_fn X self (beq_iff_eq.mp fii.fn)) (.inl rfl) ?_
  -- the new object
  have keep : ∀ b o, hh.get? b = some o → ((hh.push emptyDict).push (instObj cl hh.objs.size)).get? b = some o := fun b o e => Heap.get?_push_of_some _ (Heap.get?_push_of_some _ e)
  have e1 : ((hh.push emptyDict).push (instObj cl hh.objs.size)).get? (hh.objs.size + 1) = some (instObj cl hh.objs.size) := by
    have := Heap.get?_push_size (hh.push emptyDict) (o := instObj cl hh.objs.size) rfl
    rwa [Heap.size_push] at this
  have e2 : ((hh.push emptyDict).push (instObj cl hh.objs.size)).get? hh.objs.size = some (dictOf [] 0) := Heap.get?_push_of_some _ (Heap.get?_push_size _ rfl)
  obtain ⟨R1, S1⟩ := Rel.alloc (s' := ⟨(hh.push emptyDict).push (instObj cl hh.objs.size), gg, dd, tt, oo⟩) ok R (a := hh.objs.size + 1) (fp := [hh.objs.size + 1, hh.objs.size]) (v := .inst x []) keep
    (fun b hb => by simp at hb; rcases hb with rfl | rfl; exact Nat.le_succ _; exact Nat.le_refl _) (by simp) (.inst x [] _ _ cl [] 0 g e1 e2 .nil) rfl
  have lk : hp.length = μ.length := R.hps.1
  refine codeAny_mono (hF.run (vs := vs) (Q := fun v s' => v = .none ∧ Q (.ref (hh.objs.size + 1)) s') (E := E) ok (by simp [Around.under, Code.envs, Code.isFrame, pushEnvs, ok.frames]) ok.handled ?_ R1 fii (.cons _ _ _ _ (.ref _ _ [hh.objs.size + 1, hh.objs.size] (by rw [lk, List.getElem?_append_right (Nat.le_refl _)]; simp)) (S1.vrs rv)) w ⟨fun {v hp₂} w2 s₂ μ₂ val st r2 rv2 => ?_, k.ex⟩) ?_
  · refine ⟨?_, ?_⟩
    · show fm.A.depth + Code.weight (.builtin "type.__call__" ⟨.ref cl :: vals, []⟩) + 3 * n < _
      have : Code.weight (.builtin "type.__call__" ⟨.ref cl :: vals, []⟩) = 1 := rfl
      rw [this]; have := rm.1; omega
    · show fm.A.units + Code.cUnits (.builtin "type.__call__" ⟨.ref cl :: vals, []⟩) + 10 * n + 100 < _
      have : Code.cUnits (.builtin "type.__call__" ⟨.ref cl :: vals, []⟩) = 1 := rfl
      rw [this]; have := rm.2; omega
  · obtain ⟨rfl, w3⟩ := w2.inv
    refine ⟨rv2.inv, ?_⟩
    obtain ⟨ν, hν, hfr⟩ := st.pre
    have et : μ₂.take μ.length = μ := by rw [hν, List.append_assoc, List.take_left]
    have Rs := Rel.shrink R r2 et
    have fz := frz_vr r2 (k := hp.length) (v := .ref hp.length) (x := .ref (hh.objs.size + 1)) (.ref _ _ [hh.objs.size + 1, hh.objs.size] (by rw [hν, lk, List.append_assoc, List.getElem?_append_right (Nat.le_refl _)]; simp))
    rw [show frzV hp.length hp₂ (.ref hp.length) = hp₂.getD hp.length .none from if_neg (Nat.lt_irrefl _), lk, et] at fz
    rw [lk] at w3 Rs
    have := S1.trans st
    exact k.ok w3 s₂ μ (.ref (hh.objs.size + 1)) ⟨this.keep, ⟨[], by simp, by simp [muA]⟩, this.live⟩ Rs fz
  · intro r s₂ hr
    cases r with
    | error e => exact hr
    | ok f => cases f <;> exact hr

noncomputable def eMake (x : Str) (W : WF) (a : WL) : WP := fun hp K X => a hp (fun l hp1 => eInit x W l hp1 K X) X
theorem SE.make {x np args p WA W m} (G : GOK C) (hx : isClsName x = true) (hk : F.names.lookup x = some .globalImplicit) (hm : m + 1 ≤ n) (hF : SF C m (methOf x (Str.ofString "__init__")) W) (hA : SA C n F vs args WA) : SE C n F vs (.Call (.Name x np) args [] p) (eMake x W WA) := ⟨fun {fm μ vs' hp s Q E K X} a w k => by
  obtain ⟨cl, g, CI⟩ := G.cls x hx
  rw [arm_eval_Call_Name']
  exact wpAny_bind (glob_load a.ok a.R hk g (callWith_run (first := []) hA a (keepOK_ref CI.keep) w (fun l hp' s' μ' vals w1 st R' rs => make_sound G hF a.ok (a.rm.mono hm) R' hx g rs (k.trans st) w1) k.ex))⟩

end

noncomputable def iterT (T : String) : Bool := ["list_iterator", "tuple_iterator", "range_iterator", "dict_keyiterator"].contains T

noncomputable def Itr (C : Cx) (A : Around) (fm : Fm) (μ : Mu) (s : Shared) (items : List V) (I : Addr) : Prop :=
  ∃ fp Pk St, Walks C.prog C.w A I fp [I] items.length Pk St ∧ St 0 s.heap ∧ (∀ b ∈ fp, b = I ∨ (b ∉ fm.D μ ∧ ∃ o, s.heap.get? b = some o)) ∧
    (∀ i v, Pk i v → i < items.length → VR C s.heap μ (I :: fm.D μ) (items.getD i .none) v) ∧ (∀ i h, St i h → ∃ o T, h.get? I = some o ∧ o.cls = .type T ∧ iterT T = true) ∧ allPlain items = true

section
variable {C : Cx} {F : Frm} {fm : Fm} {μ μ' μ₀ : Mu} {vs vs' : Vars} {hp hp' : List V} {s s' s₀ : Shared} {A : Around} {Q : Value → Shared → Prop} {QB : Bool → Shared → Prop} {QL : List Value → Shared → Prop} {QF : Flow → Shared → Prop} {E : Value → Shared → Prop} {n : Nat} {M : List Addr}

theorem DictI.length {kvs : List (Int × Value)} {l : List (Int × Int)} (d : DictI kvs l) : kvs.length = l.length := by
  induction d with
  | nil => rfl
  | cons _ _ _ _ ih => simp [ih]


theorem range_small {a b : Int} (ha : -1152921504606846976 ≤ a ∧ a ≤ 1152921504606846976) (hb : -1152921504606846976 ≤ b ∧ b ≤ 1152921504606846976) : Builtin.Range.small a b 1 = true ∧ Builtin.Range.rangeSize a b 1 = (((b - a).toNat : Nat) : Int) := by
  have e : Builtin.Range.rangeSize a b 1 = (((b - a).toNat : Nat) : Int) := by
    unfold Builtin.Range.rangeSize
    rw [if_pos (by decide)]
    split
    · rw [Int.ediv_one]; omega
    · omega
  refine ⟨?_, e⟩
  unfold Builtin.Range.small
  rw [e]
  simp only [Builtin.Range.rangeFitsLong, Bool.and_eq_true, decide_eq_true_eq, Bool.or_eq_true, beq_iff_eq]
  refine ⟨⟨⟨⟨by omega, by omega⟩, by decide⟩, by omega⟩, ?_⟩
  right
  rw [if_pos (by decide)]
  simp only [Bool.and_eq_true, decide_eq_true_eq]
  omega

theorem rngItems_len (a b : Int) : (rngItems a b).length = (b - a).toNat := by simp [rngItems]
theorem rngItems_get {a b : Int} {i : Nat} (h : i < (rngItems a b).length) : (rngItems a b).getD i .none = .int (a + i) := by
  rw [rngItems_len] at h
  simp [rngItems, List.getD, h]


noncomputable def wItems (iv : V) (k : List V → Prop) : Prop := match iv with
  | .rng a b => (((-1152921504606846976 ≤ a ∧ a ≤ 1152921504606846976) ∧ (-1152921504606846976 ≤ b ∧ b ≤ 1152921504606846976)) ∧ (b - a).toNat ≤ 1000000) ∧ k (rngItems a b)
  | .list l => l.length ≤ 1000000 ∧ k l
  | .tup l => l.length ≤ 1000000 ∧ k l
  | .dict l => l.length ≤ 1000000 ∧ k (l.map fun p => .int p.1)
  | _ => False

theorem iter_sound (R : Rel C fm μ vs hp s) {iv : V} {x : Value} {kk : List V → Prop} (rv : VR C s.heap μ (fm.D μ) iv x) (e : wItems iv kk) (hh : A.handled = none) : ∃ items, kk items ∧ ∀ {P : Value → Shared → Prop},
    (∀ o, o.isFreed = false → Itr C A fm μ { s with heap := s.heap.push o } items s.heap.objs.size → P (.ref s.heap.objs.size) { s with heap := s.heap.push o }) → wpAny C.M A (pyIter x) P E s := by
  have old : ∀ {b : Addr} {o : Obj}, s.heap.get? b = some o → b ≠ s.heap.objs.size := fun e => Nat.ne_of_lt (Heap.lt_size e)
  have push : ∀ (o : Obj), ∀ {v : V} {val : Value}, VR C s.heap μ (fm.D μ) v val → VR C (s.heap.push o) μ (s.heap.objs.size :: fm.D μ) v val := fun o => fun r => VR.mono (fun b x _ e => Heap.get?_push_of_some _ e) (fun _ _ e => e) (fun b hb => by
    rcases List.mem_cons.mp hb with q | q
    · exact .inr (heap_none (Nat.le_of_eq q.symm))
    · exact .inl q) r
  cases iv with
  | rng a b =>
    obtain ⟨ad, fp, rfl, c, nD⟩ : ∃ a' fp, x = .ref a' ∧ CR C s.heap μ (fm.D μ) (.rng a b) fp a' ∧ ∀ b ∈ fp, b ∉ fm.D μ := rv.inv
    obtain ⟨rfl, t, u, v, hr⟩ : fp = [ad] ∧ ∃ t u v, IsRange s.heap ad a b 1 t u v := c.inv
    refine ⟨_, e.2, fun {P} k => ?_⟩
    have hc := e.1

    obtain ⟨hs, hz⟩ := range_small hc.1.1 hc.1.2
    refine wpAny_pyIter_range hr hs (k _ rfl ?_)
    refine ⟨[s.heap.objs.size], _, _, by rw [rngItems_len]; exact Walks.range hh s.heap.objs.size a 1 (b - a).toNat, ?_, fun b hb => .inl (by simpa using hb), fun i v hv hi => ?_, fun i h st => ⟨_, "range_iterator", st, rfl, rfl⟩, by simp [allPlain, rngItems, isPlainV]⟩
    · show IsRangeIter _ _ _ _ _
      rw [hz]
      simpa using Heap.get?_push_size _ rfl
    · obtain ⟨t, rfl⟩ := hv
      rw [rngItems_get hi, Int.mul_one]
      exact .int _ _
  | list l =>
    obtain ⟨ad, fp, rfl, c, nD⟩ : ∃ a' fp, x = .ref a' ∧ CR C s.heap μ (fm.D μ) (.list l) fp a' ∧ ∀ b ∈ fp, b ∉ fm.D μ := rv.inv
    obtain ⟨rfl, xs, n, he, r, pl⟩ : fp = [ad] ∧ ∃ (xs : List Value) (n : Nat), s.heap.get? ad = some ⟨.type "list", Option.none, .seq xs.toArray n, #[]⟩ ∧ VRs C s.heap μ (fm.D μ) l xs ∧ allPlain l = true := c.inv
    refine ⟨l, e.2, fun {P} k => ?_⟩

    have len := r.length
    have hL : s.heap.IsList ad xs.toArray := ⟨_, he, rfl, _, rfl⟩
    refine wpAny_pyIter_list hL (k _ rfl ?_)
    have W := Walks.list (prog := C.prog) (w := C.w) hh s.heap.objs.size ad (old he) xs.toArray
    have hsz : xs.toArray.size = l.length := by rw [List.size_toArray]; exact len.symm
    rw [hsz] at W
    refine ⟨_, _, _, W, ⟨⟨_, Heap.get?_push_size _ rfl, rfl, rfl⟩, hL.push _⟩, fun b hb => ?_, fun i v hv hi => ?_, fun i h st => let ⟨o, e, c, _⟩ := st.1; ⟨o, _, e, c, rfl⟩, pl⟩
    · rcases List.mem_cons.mp hb with q | q
      · exact .inl q
      · rw [List.mem_singleton] at q; subst q; exact .inr ⟨nD b (by simp), _, Heap.get?_push_of_some _ he⟩
    · obtain ⟨y, e1, r1⟩ := r.get i hi
      have : y = v := by
        have hv' : xs.toArray[i]? = some v := hv
        rw [List.getElem?_toArray, e1] at hv'; cases hv'; rfl
      subst this
      exact push _ r1
  | tup l =>
    obtain ⟨ad, fp, rfl, c, nD⟩ : ∃ a' fp, x = .ref a' ∧ CR C s.heap μ (fm.D μ) (.tup l) fp a' ∧ ∀ b ∈ fp, b ∉ fm.D μ := rv.inv
    obtain ⟨rfl, xs, n, he, r, pl⟩ : fp = [ad] ∧ ∃ (xs : List Value) (n : Nat), s.heap.get? ad = some ⟨.type "tuple", Option.none, .seq xs.toArray n, #[]⟩ ∧ VRs C s.heap μ (fm.D μ) l xs ∧ allPlain l = true := c.inv
    refine ⟨l, e.2, fun {P} k => ?_⟩

    have len := r.length
    have hL : s.heap.IsTuple ad xs.toArray := ⟨_, he, rfl, _, rfl⟩
    refine wpAny_pyIter_tuple hL (k _ rfl ?_)
    have W := Walks.tuple (prog := C.prog) (w := C.w) hh s.heap.objs.size ad (old he) xs.toArray
    have hsz : xs.toArray.size = l.length := by rw [List.size_toArray]; exact len.symm
    rw [hsz] at W
    refine ⟨_, _, _, W, ⟨⟨_, Heap.get?_push_size _ rfl, rfl, rfl⟩, let ⟨o, e, r⟩ := hL; ⟨o, Heap.get?_push_of_some _ e, r⟩⟩, fun b hb => ?_, fun i v hv hi => ?_, fun i h st => let ⟨o, e, c, _⟩ := st.1; ⟨o, _, e, c, rfl⟩, pl⟩
    · rcases List.mem_cons.mp hb with q | q
      · exact .inl q
      · rw [List.mem_singleton] at q; subst q; exact .inr ⟨nD b (by simp), _, Heap.get?_push_of_some _ he⟩
    · obtain ⟨y, e1, r1⟩ := r.get i hi
      have : y = v := by
        have hv' : xs.toArray[i]? = some v := hv
        rw [List.getElem?_toArray, e1] at hv'; cases hv'; rfl
      subst this
      exact push _ r1
  | dict l =>
    obtain ⟨ad, fp, rfl, c, nD⟩ : ∃ a' fp, x = .ref a' ∧ CR C s.heap μ (fm.D μ) (.dict l) fp a' ∧ ∀ b ∈ fp, b ∉ fm.D μ := rv.inv
    obtain ⟨rfl, kvs, o, ns, he, d, di⟩ : fp = [ad] ∧ ∃ kvs o, (ad == sysModules) = false ∧ s.heap.get? ad = some o ∧ o.IsDictOf (intKind C.prog C.w) kvs ∧ DictI kvs l := c.inv
    refine ⟨_, e.2, fun {P} k => ?_⟩

    have hD : s.heap.DictOf (intKind C.prog C.w) ad kvs := Heap.dictOf_iff.mpr ⟨o, he, d⟩
    obtain ⟨ep, hat⟩ := hD.dictAt
    have len : kvs.length = l.length := di.length
    refine wpAny_pyIter_dict ns hat (k _ rfl ?_)
    have W := Walks.dictKeys (prog := C.prog) (w := C.w) (knd := intKind C.prog C.w) hh s.heap.objs.size ad (old he) kvs ep
    have hl : (l.map fun p => V.int p.1).length = kvs.length := by rw [List.length_map, len]
    have hl' := hl
    refine ⟨[s.heap.objs.size, ad], fun i v => ∃ k x, kvs[i]? = some (k, x) ∧ (intKind C.prog C.w).is k v = true, fun i h => h.IsKeyIter s.heap.objs.size ad i kvs.length ep ∧ h.DictAt (intKind C.prog C.w) ad kvs ep, by rw [hl']; exact W, ⟨⟨_, Heap.get?_push_size _ rfl, rfl, rfl⟩, hat.at' fun o e => Heap.get?_push_of_some _ e⟩, fun b hb => ?_, fun i v hv hi => ?_, fun i h st => let ⟨o, e, c, _⟩ := st.1; ⟨o, _, e, c, rfl⟩, by simp [allPlain, isPlainV]⟩
    · rcases List.mem_cons.mp hb with q | q
      · exact .inl q
      · rw [List.mem_singleton] at q; subst q; exact .inr ⟨nD b (by simp), _, Heap.get?_push_of_some _ he⟩
    · obtain ⟨kk, xx, e1, e2⟩ := hv
      obtain ⟨t, rfl⟩ := Value.isInt_shape e2
      have key : ∀ {kvs : List (Int × Value)} {l : List (Int × Int)}, DictI kvs l → ∀ {i : Nat} {kk : Int} {xx : Value}, kvs[i]? = some (kk, xx) → (l.map fun p => V.int p.1).getD i .none = .int kk := by
        intro kvs l d
        induction d with
        | nil => intro i kk xx h; simp at h
        | cons k j t d ih =>
          intro i kk xx h
          cases i with
          | zero => simp at h; simp [h.1]
          | succ i => simp at h; simpa using ih h
      rw [key di e1]
      exact .int _ _
  | _ => exact e.elim

end
noncomputable def Fm.withP (fm : Fm) (Is : List Addr) : Fm := { fm with prot := Is ++ fm.prot }

section
variable {C : Cx} {F : Frm} {fm : Fm} {μ μ' μ₀ : Mu} {vs vs' : Vars} {hp hp' : List V} {s s' s₀ : Shared} {A : Around} {Q : Value → Shared → Prop} {QB : Bool → Shared → Prop} {QL : List Value → Shared → Prop} {QF : Flow → Shared → Prop} {E : Value → Shared → Prop} {n : Nat} {M : List Addr}

noncomputable def CellsIn (fm : Fm) : Prop := (∀ x, (fm.env.kindOf x = some .cell ∨ fm.env.kindOf x = some .free) → ∀ c, fm.env.cells.lookup x = some c → c ∈ fm.own ++ fm.prot) ∧ ∀ a ∈ fm.nss, a ∈ fm.own ++ fm.prot
theorem Rel.cellsIn (R : Rel C fm μ vs hp s) : CellsIn fm := ⟨fun x hx c hc => by
  obtain ⟨c', o, e, _, d, _⟩ := R.cel x hx
  rw [hc] at e; cases e; exact d.1, fun a ha => (R.nss a ha).1⟩

theorem FmOk.withP (ok : FmOk F fm) (Is : List Addr) : FmOk F (fm.withP Is) := { ok with
  fin := fun e he L hL => by
    rcases List.mem_append.mp (ok.fin e he L hL) with q | q
    · exact List.mem_append_left _ q
    · exact List.mem_append_right _ (List.mem_append_right _ q) }

theorem mem_DP {Is : List Addr} {b : Addr} : b ∈ (fm.withP Is).D μ ↔ b ∈ Is ∨ b ∈ fm.D μ := by
  simp only [mem_D]
  show (b ∈ fm.own ∨ b ∈ muA μ ∨ b ∈ Is ++ fm.prot) ↔ _
  rw [List.mem_append]
  constructor
  · rintro (q | q | q | q)
    · exact .inr (.inl q)
    · exact .inr (.inr (.inl q))
    · exact .inl q
    · exact .inr (.inr (.inr q))
  · rintro (q | q | q | q)
    · exact .inr (.inr (.inl q))
    · exact .inl q
    · exact .inr (.inl q)
    · exact .inr (.inr (.inr q))

theorem ndP {Is : List Addr} : ((fm.withP Is).D μ).Nodup ↔ (Is.Nodup ∧ (fm.D μ).Nodup ∧ ∀ b ∈ Is, b ∉ fm.D μ) := by
  have e : (fm.withP Is).D μ = (fm.own ++ muA μ) ++ (Is ++ fm.prot) := rfl
  have e2 : fm.D μ = (fm.own ++ muA μ) ++ fm.prot := rfl
  rw [e, e2]
  constructor
  · intro h
    rw [List.nodup_append] at h
    obtain ⟨h1, h2, h3⟩ := h
    rw [List.nodup_append] at h2
    refine ⟨h2.1, ?_, fun b hb hm => ?_⟩
    · rw [List.nodup_append]
      exact ⟨h1, h2.2.1, fun a ha b hb => h3 a ha b (List.mem_append_right _ hb)⟩
    · rcases List.mem_append.mp hm with q | q
      · exact h3 b q b (List.mem_append_left _ hb) rfl
      · exact h2.2.2 b hb b q rfl
  · rintro ⟨h1, h2, h3⟩
    rw [List.nodup_append] at h2
    rw [List.nodup_append (l₁ := fm.own ++ muA μ), List.nodup_append (l₁ := Is)]
    refine ⟨h2.1, ⟨h1, h2.2.1, fun a ha b hb e => h3 a ha (e ▸ List.mem_append_right _ hb)⟩, fun a ha b hb e => ?_⟩
    rcases List.mem_append.mp hb with q | q
    · exact h3 b q (e ▸ List.mem_append_left _ ha)
    · exact h2.2.2 a ha b q e

/-- new things of the machine are set apart -/
theorem Rel.guard (R : Rel C fm μ vs hp s) {Is : List Addr} (k : ∀ b o, s.heap.get? b = some o → s'.heap.get? b = some o) (fresh : ∀ b ∈ Is, s.heap.objs.size ≤ b ∧ ∃ o, s'.heap.get? b = some o) (nd : Is.Nodup)
    (hg : s'.gens = s.gens := by rfl) (ho : s'.os = s.os := by rfl) : Rel C (fm.withP Is) μ vs hp s' := by
  have notD : ∀ b ∈ Is, b ∉ fm.D μ := fun b hb => R.newNot (fresh b hb).1
  have vr : ∀ {v : V} {x : Value}, VR C s.heap μ (fm.D μ) v x → VR C s'.heap μ ((fm.withP Is).D μ) v x := fun r => VR.mono (fun b o _ e => k b o e) (fun _ _ e => e) (fun b hb => by
    rcases mem_DP.mp hb with q | q
    · exact .inr (heap_none (fresh b q).1)
    · exact .inl q) r
  refine ⟨fun b o e => k b o (R.base b o e), R.ff.of_keeps fun b o e _ => ⟨o, k b o e, rfl⟩, ndP.mpr ⟨nd, R.nd, notD⟩, fun b hb => ?_, ?_, fun x hx => ?_, ⟨R.hps.1, fun i v e => ?_⟩, hg.trans R.gens, ho.trans R.os, R.above, fun a ha => ?_⟩
  · rcases mem_DP.mp hb with q | q
    · exact ⟨base_none R (fresh b q).1, (fresh b q).2⟩
    · obtain ⟨r1, o, r2⟩ := R.fr b q; exact ⟨r1, o, k b o r2⟩
  · obtain ⟨m, hn, hm⟩ := R.ns
    exact ⟨m, hn.keeps k, fun x v e hk => let ⟨val, a, b⟩ := hm x v e hk; ⟨val, a, vr b⟩⟩
  · obtain ⟨c, o, a, b, d, e⟩ := R.cel x hx
    refine ⟨c, o, a, b.keeps k, ⟨?_, d.2⟩, fun v hv => let ⟨val, p, q⟩ := e v hv; ⟨val, p, vr q⟩⟩
    rcases List.mem_append.mp d.1 with q | q
    · exact List.mem_append_left _ q
    · exact List.mem_append_right _ (List.mem_append_right _ q)
  · obtain ⟨a, fp, e1, e2, e3⟩ := R.hps.2 i v e
    exact ⟨a, fp, e1, CR.mono (fun b o _ e => k b o e) (fun _ _ e => e) (fun b hb => by
      rcases mem_DP.mp hb with q | q
      · exact .inr (heap_none (fresh b q).1)
      · exact .inl q) e2 (fun b _ o e => k b o e), e3⟩
  · obtain ⟨x, m, n⟩ := R.nss a ha
    refine ⟨?_, m, n.keeps k⟩
    rcases List.mem_append.mp x with q | q
    · exact List.mem_append_left _ q
    · exact List.mem_append_right _ (List.mem_append_right _ q)

theorem Rel.unguard {Is : List Addr} (R : Rel C (fm.withP Is) μ vs hp s) (hc : CellsIn fm) : Rel C fm μ vs hp s := by
  have sub : ∀ b ∈ fm.D μ, b ∈ (fm.withP Is).D μ := fun b hb => mem_DP.mpr (.inr hb)
  have vr : ∀ {v : V} {x : Value}, VR C s.heap μ ((fm.withP Is).D μ) v x → VR C s.heap μ (fm.D μ) v x := fun r => VR.mono (fun b o _ e => e) (fun _ _ e => e) (fun b hb => .inl (sub b hb)) r
  refine ⟨R.base, R.ff, (ndP.mp R.nd).2.1, fun b hb => R.fr b (sub b hb), ?_, fun x hx => ?_, ⟨R.hps.1, fun i v e => ?_⟩, R.gens, R.os, R.above, fun a ha => ⟨hc.2 a ha, (R.nss a ha).2⟩⟩
  · obtain ⟨m, hn, hm⟩ := R.ns
    exact ⟨m, hn, fun x v e hk => let ⟨val, a, b⟩ := hm x v e hk; ⟨val, a, vr b⟩⟩
  · obtain ⟨c, o, a, b, d, e⟩ := R.cel x hx
    exact ⟨c, o, a, b, ⟨hc.1 x hx c a, d.2⟩, fun v hv => let ⟨val, p, q⟩ := e v hv; ⟨val, p, vr q⟩⟩
  · obtain ⟨a, fp, e1, e2, e3⟩ := R.hps.2 i v e
    exact ⟨a, fp, e1, CR.mono (fun b o _ e => e) (fun _ _ e => e) (fun b hb => .inl (sub b hb)) e2 (fun b _ o e => e), e3⟩

/-- one of the machine's own things is rewritten -/
theorem Rel.touch {Is : List Addr} (ok : FmOk F fm) (hc : CellsIn fm) (R : Rel C (fm.withP Is) μ vs hp s) {I : Addr} (hI : I ∈ Is) (hx : ∀ b o, b ≠ I → s.heap.get? b = some o → s'.heap.get? b = some o) (lv : ∃ o, s'.heap.get? I = some o)
    (hg : s'.gens = s.gens := by rfl) (ho : s'.os = s.os := by rfl) : Rel C (fm.withP Is) μ vs hp s' := by
  obtain ⟨_, _, nI⟩ := ndP.mp R.nd
  have nD : ∀ b, b ∈ fm.D μ → b ≠ I := fun b hb q => nI I hI (q ▸ hb)
  have inD : I ∈ (fm.withP Is).D μ := mem_DP.mpr (.inl hI)
  have vr : ∀ {v : V} {x : Value}, VR C s.heap μ ((fm.withP Is).D μ) v x → VR C s'.heap μ ((fm.withP Is).D μ) v x := fun r => VR.mono (fun b o n e => hx b o (fun q => n (q ▸ inD)) e) (fun _ _ e => e) (fun b hb => .inl hb) r
  refine ⟨fun b o e => hx b o (fun q => by have := (R.fr I inD).1; rw [← q, e] at this; cases this) (R.base b o e), ?_, R.nd, fun b hb => ⟨(R.fr b hb).1, ?_⟩, ?_, fun x hx' => ?_, ⟨R.hps.1, fun i v e => ?_⟩, hg.trans R.gens, ho.trans R.os, R.above, fun a ha => let ⟨x, m, n⟩ := R.nss a ha; ⟨x, m, n.at' fun o e => hx a o (nD a ((List.mem_append.mp (hc.2 a ha)).elim (fun q => mem_D.mpr (.inl q)) (fun q => mem_D.mpr (.inr (.inr q))))) e⟩⟩
  · refine FunFrames.change R.ff fun L ⟨e, he, hf⟩ o e1 n => ⟨o, hx L o (nD L ?_) e1, n⟩
    rcases List.mem_append.mp (ok.fin e he L hf) with q | q
    · exact mem_D.mpr (.inl q)
    · exact mem_D.mpr (.inr (.inr q))
  · by_cases q : b = I
    · subst q; exact lv
    · obtain ⟨_, o, e⟩ := R.fr b hb; exact ⟨o, hx b o q e⟩
  · obtain ⟨m, hn, hm⟩ := R.ns
    exact ⟨m, hn.at' fun o e => hx _ o (nD _ (mem_D.mpr (.inl ok.loc))) e, fun x v e k => let ⟨val, p, r⟩ := hm x v e k; ⟨val, p, vr r⟩⟩
  · obtain ⟨c, o, p, q, d, e⟩ := R.cel x hx'
    obtain ⟨ob, e1, e2⟩ := q
    refine ⟨c, o, p, ⟨ob, hx c ob (nD c ?_) e1, e2⟩, d, fun v hv => let ⟨val, x1, x2⟩ := e v hv; ⟨val, x1, vr x2⟩⟩
    rcases List.mem_append.mp (hc.1 x hx' c p) with q | q
    · exact mem_D.mpr (.inl q)
    · exact mem_D.mpr (.inr (.inr q))
  · obtain ⟨a, fp, e1, e2, e3⟩ := R.hps.2 i v e
    exact ⟨a, fp, e1, CR.mono (fun b o n e => hx b o (fun q => n (q ▸ inD)) e) (fun _ _ e => e) (fun b hb => .inl hb) e2 (fun b hb o e => hx b o (nD b (mem_D.mpr (.inr (.inl (fp_mu e1 hb))))) e), e3⟩

theorem codeAny_for {prog : Program} {w : World} {R : Result → Shared → Prop} {target it body env} (I : Nat → Shared → Prop)
    (turn : ∀ n s, I n s → wpAny (model prog w) A (pyNext it) (fun r s₁ => match r with
      | none => R (.ok .next) s₁
      | some v => wpAny (model prog w) A (letOwnedTupleGo target it v) (fun _ s₁' => wpAny (model prog w) A (assign target env v) (fun _ s₂ => wpAny (model prog w) A (PySem.execs body env) (fun f s₃ => match f with
          | .next | .cont => ∃ m, m < n ∧ I m s₃
          | .brk => R (.ok .next) s₃
          | .ret v => R (.ok (.ret v)) s₃) (notedBy (model prog w) A env fun e s' => R (.error e) s') s₂) (notedBy (model prog w) A env fun e s' => R (.error e) s') s₁') (notedBy (model prog w) A env fun e s' => R (.error e) s') s₁) (notedBy (model prog w) A env fun e s' => R (.error e) s') s)
    (n : Nat) (h : I n s) : codeAny (model prog w) A (.forLoop target it body [] env) R s := by
  refine codeAny_loop' rfl I (fun n s hI => ?_) n h
  show wpAny _ _ ((forTurn target it body [] env).onRaise (fun x => do noteFrame x env; theTreesLotGoes x)) _ _ s
  refine wpAny_noted ?_
  simp only [forTurn]
  refine wpAny_bind (wpAny_standAt (wpAny_bind (wpAny_onRaise (wpAny_mono (turn n s hI) (fun r s₁ h₁ => ?_) fun _ _ h' => wpAny_standAt h'))))
  cases r with
  | none => exact wpAny_pure (.inr ⟨rfl, codeAny_block (wpAny_execs_nil h₁)⟩)
  | some v =>
    refine wpAny_bind (wpAny_mono h₁ (fun _ s₁' h₁' => ?_) fun _ _ h' => h')
    refine wpAny_bind (wpAny_mono h₁' (fun _ s₂ h₂ => wpAny_bind (wpAny_mono h₂ (fun f s₃ h₃ => ?_) fun _ _ h' => h')) fun _ _ h' => h')
    cases f with
    | next => exact wpAny_pure (.inl ⟨rfl, h₃⟩)
    | cont => exact wpAny_pure (.inl ⟨rfl, h₃⟩)
    | brk => exact wpAny_pure h₃
    | ret v => exact wpAny_pure h₃

/-- the machine's own things are let go -/
theorem Rel.drop {Is : List Addr} (ok : FmOk F fm) (hc : CellsIn fm) (R : Rel C (fm.withP Is) μ vs hp s) (hx : ∀ b o, b ∉ Is → s.heap.get? b = some o → s'.heap.get? b = some o) (hg : s'.gens = s.gens := by rfl) (ho : s'.os = s.os := by rfl) : Rel C fm μ vs hp s' := by
  obtain ⟨_, ndD, nI⟩ := ndP.mp R.nd
  have nD : ∀ b, b ∈ fm.D μ → b ∉ Is := fun b hb q => nI b q hb
  have sub : ∀ b ∈ fm.D μ, b ∈ (fm.withP Is).D μ := fun b hb => mem_DP.mpr (.inr hb)
  have vr : ∀ {v : V} {x : Value}, VR C s.heap μ ((fm.withP Is).D μ) v x → VR C s'.heap μ (fm.D μ) v x := fun r => VR.mono (fun b o n e => hx b o (fun q => n (mem_DP.mpr (.inl q))) e) (fun _ _ e => e) (fun b hb => .inl (sub b hb)) r
  refine ⟨fun b o e => hx b o (fun q => by have := (R.fr b (mem_DP.mpr (.inl q))).1; rw [e] at this; cases this) (R.base b o e), ?_, ndD, fun b hb => ⟨(R.fr b (sub b hb)).1, let ⟨_, o, e⟩ := R.fr b (sub b hb); ⟨o, hx b o (nD b hb) e⟩⟩, ?_, fun x hx' => ?_, ⟨R.hps.1, fun i v e => ?_⟩, hg.trans R.gens, ho.trans R.os, R.above, fun a ha => let ⟨x, m, n⟩ := R.nss a ha; ⟨hc.2 a ha, m, n.at' fun o e => hx a o (nD a ((List.mem_append.mp (hc.2 a ha)).elim (fun q => mem_D.mpr (.inl q)) (fun q => mem_D.mpr (.inr (.inr q))))) e⟩⟩
  · refine FunFrames.change R.ff fun L ⟨e, he, hf⟩ o e1 n => ⟨o, hx L o (nD L ?_) e1, n⟩
    rcases List.mem_append.mp (ok.fin e he L hf) with q | q
    · exact mem_D.mpr (.inl q)
    · exact mem_D.mpr (.inr (.inr q))
  · obtain ⟨m, hn, hm⟩ := R.ns
    exact ⟨m, hn.at' fun o e => hx _ o (nD _ (mem_D.mpr (.inl ok.loc))) e, fun x v e k => let ⟨val, p, r⟩ := hm x v e k; ⟨val, p, vr r⟩⟩
  · obtain ⟨c, o, p, q, d, e⟩ := R.cel x hx'
    obtain ⟨ob, e1, e2⟩ := q
    have hcm := hc.1 x hx' c p
    refine ⟨c, o, p, ⟨ob, hx c ob (nD c ?_) e1, e2⟩, ⟨hcm, d.2⟩, fun v hv => let ⟨val, x1, x2⟩ := e v hv; ⟨val, x1, vr x2⟩⟩
    rcases List.mem_append.mp hcm with q | q
    · exact mem_D.mpr (.inl q)
    · exact mem_D.mpr (.inr (.inr q))
  · obtain ⟨a, fp, e1, e2, e3⟩ := R.hps.2 i v e
    exact ⟨a, fp, e1, CR.mono (fun b o n e => hx b o (fun q => n (mem_DP.mpr (.inl q))) e) (fun _ _ e => e) (fun b hb => .inl (sub b hb)) e2 (fun b hb o e => hx b o (nD b (mem_D.mpr (.inr (.inl (fp_mu e1 hb))))) e), e3⟩

theorem SStep.touch (x : SStep fm M μ₀ s₀ μ s) {I : Addr} (hx : ∀ b o, b ≠ I → s.heap.get? b = some o → s'.heap.get? b = some o) (hI : s₀.heap.get? I = none) (lv : ∃ o, s'.heap.get? I = some o) : SStep fm M μ₀ s₀ μ s' := by
  refine ⟨fun b o h1 h2 e => hx b o (fun q => by rw [q, hI] at e; cases e) (x.keep b o h1 h2 e), x.pre, x.new, fun b o e => ?_⟩
  by_cases q : b = I
  · subst q; exact lv
  · obtain ⟨o', e'⟩ := x.live b o e; exact ⟨o', hx b o' q e'⟩

theorem frzVars_lookup (k : Nat) (hp : List V) : ∀ (vs : Vars) (x : Str), (frzVars k hp vs).lookup x = (vs.lookup x).map (frzV k hp)
  | [], x => rfl
  | (y, v) :: vs, x => by
    show List.lookup x ((y, frzV k hp v) :: frzVars k hp vs) = _
    simp only [List.lookup_cons]
    cases x == y with
    | true => rfl
    | false => exact frzVars_lookup k hp vs x

theorem Rel.frz (R : Rel C fm μ vs hp s) (k : Nat) : Rel C fm (μ.take k) (frzVars k hp vs) (hp.take k) s := by
  have sub : ∀ b ∈ fm.D (μ.take k), b ∈ fm.D μ := fun b hb => by
    rcases mem_D.mp hb with q | q | q
    · exact mem_D.mpr (.inl q)
    · exact mem_D.mpr (.inr (.inl (muA_take q)))
    · exact mem_D.mpr (.inr (.inr q))
  refine ⟨R.base, R.ff, ?_, fun b hb => R.fr b (sub b hb), ?_, fun x hx => ?_, ⟨by rw [List.length_take, List.length_take, R.hps.1], fun i v e => ?_⟩, R.gens, R.os, R.above, R.nss⟩
  · have := R.nd
    refine List.Sublist.nodup ?_ this
    exact ((List.Sublist.refl fm.own).append (muA_take_sub k)).append (List.Sublist.refl fm.prot)
  · obtain ⟨m, hn, hm⟩ := R.ns
    refine ⟨m, hn, fun x v e hk => ?_⟩
    rw [frzVars_lookup] at e
    cases q : vs.lookup x with
    | none => rw [q] at e; cases e
    | some u => rw [q] at e; cases e; obtain ⟨val, a, b⟩ := hm x u q hk; exact ⟨val, a, frz_vr R b⟩
  · obtain ⟨c, o, a, b, d, e⟩ := R.cel x hx
    refine ⟨c, o, a, b, d, fun v hv => ?_⟩
    rw [frzVars_lookup] at hv
    cases q : vs.lookup x with
    | none => rw [q] at hv; cases hv
    | some u => rw [q] at hv; cases hv; obtain ⟨val, p, q⟩ := e u q; exact ⟨val, p, frz_vr R q⟩
  · have hi : i < k := by
      have := (List.getElem?_eq_some_iff.mp e).1
      rw [List.length_take] at this; omega
    rw [List.getElem?_take_of_lt hi] at e
    obtain ⟨a, fp, x1, x2, x3⟩ := R.hps.2 i v e
    exact ⟨a, fp, by rw [List.getElem?_take_of_lt hi]; exact x1, x2.less sub, x3⟩

theorem SStep.frz (x : SStep fm M μ₀ s₀ μ s) {k : Nat} (hk : μ₀.length ≤ k) : SStep fm M μ₀ s₀ (μ.take k) s := by
  obtain ⟨kp, ⟨ν, rfl⟩, nw, lv⟩ := x
  refine ⟨kp, ⟨ν.take (k - μ₀.length), ?_⟩, fun b hb => nw b (muA_take hb), lv⟩
  rw [List.take_append, List.take_of_length_le hk]

theorem SStep.vr (x : SStep fm (muA μ) μ₀ s μ' s') {v : V} {val : Value} (pl : isPlainV v = true) (r : VR C s.heap μ (fm.D μ) v val) : VR C s'.heap μ' (fm.D μ') v val := by
  refine VR.mono (μ := μ') (D := fm.D μ) (fun b o n e => x.keep b o (fun q => n (mem_D.mpr (.inl q))) (fun q => n (mem_D.mpr (.inr (.inl q)))) e) (fun _ _ e => e) (fun b hb => ?_) (r.anyμ pl)
  rcases mem_D.mp hb with q | q | q
  · exact .inl (mem_D.mpr (.inl q))
  · rcases x.new b q with q | q
    · exact .inl (mem_D.mpr (.inr (.inl q)))
    · exact .inr q
  · exact .inl (mem_D.mpr (.inr (.inr q)))

theorem letOwned_sound {t : Expr} {I : Addr} {v : Value} (hI : ∃ o T, s.heap.get? I = some o ∧ o.cls = .type T ∧ iterT T = true) {P : Unit → Shared → Prop} (h : P () s) : wpAny C.M A (letOwnedTupleGo t (.ref I) v) P E s := by
  obtain ⟨o, T, e, c, hT⟩ := hI
  have key : ∀ a, wpAny C.M A (load I >>= fun o => match o.cls, o.data with
      | .type n, .fields vs =>
        if ["enumerate", "zip", "dict_itemiterator", "dict_reverseitemiterator", "odict_iterator", "itertools.zip_longest", "itertools.pairwise"].contains n && vs[0]? == some (rawInt a) then do
          rule "for.unpacks-the-owned-tuple"
          updateField I 0 .none
        else pure ()
      | _, _ => pure ()) P E s := fun a => by
    refine wpAny_bind (wpAny_load e ?_)
    rw [c]
    have hn : ["enumerate", "zip", "dict_itemiterator", "dict_reverseitemiterator", "odict_iterator", "itertools.zip_longest", "itertools.pairwise"].contains T = false := by
      unfold iterT at hT
      simp only [List.contains_cons, List.contains_nil, Bool.or_false, Bool.or_eq_true, beq_iff_eq] at hT
      rcases hT with rfl | rfl | rfl | rfl <;> decide
    cases o.data with
    | fields vs => dsimp only; rw [hn]; exact wpAny_pure h
    | _ => exact wpAny_pure h
  cases t <;> first | exact wpAny_pure h | (cases v <;> first | exact wpAny_pure h | exact key _)

/-- a name is stored -/
structure Sto (C : Cx) (F : Frm) (x : Str) (f : Env → Value → Sem Unit) : Prop where
  run : ∀ {fm μ vs hp s A v val P E}, FmOk F fm → Rel C fm μ vs hp s → VR C s.heap μ (fm.D μ) v val → (∀ s', Rel C fm μ (setV vs x v) hp s' → Step fm μ s μ s' → P () s') → wpAny C.M A (f fm.env val) P E s

theorem store_local {x : Str} (hx : F.names.lookup x = some .local) : Sto C F x (fun env v => storeName env x v) := ⟨fun {fm μ vs hp s A v val P E} ok R rv k => by
  have hk : fm.env.kindOf x = some .local := (kind_of ok x).trans hx
  obtain ⟨m, hn, hm⟩ := R.ns
  refine wpAny_storeName_local hk hn (fun h' hn' hs => ?_) (by rw [ok.kind]; rfl)
  have st : ∀ {v : V} {y : Value}, VR C s.heap μ (fm.D μ) v y → VR C h' μ (fm.D μ) v y := fun r => VR.mono (fun b o n e => hs.extBut b o (fun q => n (q ▸ loc_D ok)) e) (fun _ _ e => e) (fun b hb => .inl hb) r
  obtain ⟨R', S'⟩ := Rel.names (s' := { s with heap := h', toks := s.toks + 1 }) (vs' := setV vs x v) ok R hs.extBut hn' rfl rfl (fun y u e k => by
    rw [lookup_setV] at e
    dsimp only
    split at e
    · rename_i q; cases e; exact ⟨val, by rw [if_pos q], st rv⟩
    · rename_i q; rw [if_neg q]; obtain ⟨val', a, b⟩ := hm y u e k; exact ⟨val', a, st b⟩) (fun y hy => by
    have q : ¬ y = x := fun q => hy (q ▸ hk)
    rw [lookup_setV, if_neg q])
  exact k _ R' S'⟩

theorem sto_assign {x : Str} {p : Pos} (h : Sto C F x (fun env v => storeName env x v)) : Sto C F x (fun env v => assign (.Name x p) env v) := ⟨fun ok R rv k => wpAny_assign_Name (h.run ok R rv k)⟩

theorem sto_bind {x : Str} (h : Sto C F x (fun env v => storeName env x v)) : Sto C F x (fun env v => bindName env x v) := ⟨fun ok R rv k => wpAny_bindName (h.run ok R rv k)⟩

theorem lookup_app (y : Str) (B B' : Vars) (h : B.lookup y = B'.lookup y) : ∀ A : Vars, (A ++ B).lookup y = (A ++ B').lookup y
  | [] => h
  | (z, u) :: A => by
    rw [List.cons_append, List.cons_append, List.lookup_cons, List.lookup_cons]
    cases y == z with
    | true => rfl
    | false => exact lookup_app y B B' h A
theorem lookup_set_cons (vs : Vars) (x y : Str) (v : V) : (setV vs x v).lookup y = ((x, v) :: vs).lookup y := by
  rw [lookup_setV, List.lookup_cons]
  by_cases h : y = x
  · subst h; rw [if_pos rfl, beq_self_eq_true]
  · rw [if_neg h, beq_false_of_ne h]
/-- names are stored in the order of a row -/
theorem stores (ok : FmOk F fm) : ∀ (fs : List (Str × (Env → Value → Sem Unit))), (∀ p ∈ fs, Sto C F p.1 p.2) → ∀ {l : List V} {vals : List Value} {vs : Vars} {s : Shared} {P : Unit → Shared → Prop}, l.length = fs.length → VRs C s.heap μ (fm.D μ) l vals → Rel C fm μ vs hp s →
    (∀ s' vs2, Rel C fm μ vs2 hp s' → Step fm μ s μ s' → (∀ y, vs2.lookup y = (((fs.map (·.1)).zip l).reverse ++ vs).lookup y) → P () s') → wpAny C.M A (assignInOrder (fs.map fun p => p.2 fm.env) vals) P E s := by
  intro fs
  induction fs with
  | nil =>
    intro _ l vals vs s P hl r R k
    have q : l = [] := List.length_eq_zero_iff.mp hl
    exact wpAny_pure (k s vs R (Step.refl ..) fun _ => by rw [q]; rfl)
  | cons p fs ih =>
    intro hf l vals vs s P hl r R k
    cases l with
    | nil => exact Nat.noConfusion hl
    | cons v l =>
      obtain ⟨y, ys, q, a, r⟩ : ∃ y ys, vals = y :: ys ∧ VR C s.heap μ (fm.D μ) v y ∧ VRs C s.heap μ (fm.D μ) l ys := r.inv
      rw [q]
      show wpAny C.M A (holding ys (p.2 fm.env y) >>= fun _ => assignInOrder (fs.map fun p => p.2 fm.env) ys) P E s
      refine wpAny_bind (wpAny_holding ((hf p (List.mem_cons_self ..)).run ok R a fun s' R' S' => ?_))
      refine ih (fun p hp => hf p (List.mem_cons_of_mem _ hp)) (Nat.succ.inj hl) (S'.vrs r) R' fun s2 vs2 R2 S2 e2 => k s2 vs2 R2 (S'.trans S2) fun z => (e2 z).trans ?_
      show _ = (((p.1, v) :: (fs.map (·.1)).zip l).reverse ++ vs).lookup z
      rw [List.reverse_cons, List.append_assoc]
      exact lookup_app z _ _ (lookup_set_cons vs p.1 z v) _

/-- a target -/
structure TG (C : Cx) (F : Frm) {β : Type} (t : Expr) (tv : β → Vars) (sp : V → (β → Prop) → Prop) : Prop where
  loc : ∀ b, ∀ p ∈ tv b, F.names.lookup p.1 = some .local
  run : ∀ {fm μ vs hp s A v val k}, FmOk F fm → A.handled = none → Rel C fm μ vs hp s → VR C s.heap μ (fm.D μ) v val → sp v k → ∃ b, k b ∧ ∀ {P : Unit → Shared → Prop} {E}, (∀ s' vs2, Rel C fm μ vs2 hp s' → Step fm μ s μ s' → (∀ y, vs2.lookup y = (tv b ++ vs).lookup y) → P () s') → wpAny C.M A (assign t fm.env val) P E s
noncomputable def sp1 (v : V) (k : V → Prop) : Prop := k v
noncomputable def sp2 (v : V) (k : V × V → Prop) : Prop := wT v fun l => match l with | [a, b] => k (a, b) | _ => False
noncomputable def sp3 (v : V) (k : V × V × V → Prop) : Prop := wT v fun l => match l with | [a, b, c] => k (a, b, c) | _ => False
theorem TG.name {x p} (h : F.names.lookup x = some .local) : TG C F (.Name x p) (fun v => [(x, v)]) sp1 := ⟨fun b p hp => by rw [List.mem_singleton.mp hp]; exact h, fun {fm μ vs hp s A v val k} ok hh R rv w =>
  ⟨v, w, fun {P E} kk => wpAny_assign_Name ((store_local h).run ok R rv fun s' R' S' => kk s' _ R' S' fun y => lookup_set_cons vs x y v)⟩⟩
theorem TG.tup {ts c p} (fs : List (Str × (Env → Value → Sem Unit))) (he : ∀ env, assignEach ts env = fs.map fun p => (false, p.2 env)) (hs : ∀ p ∈ fs, Sto C F p.1 p.2) {fm μ vs hp s A l val} (ok : FmOk F fm) (hh : A.handled = none) (R : Rel C fm μ vs hp s) (rv : VR C s.heap μ (fm.D μ) (.tup l) val) (hl : l.length = fs.length)
    {P : Unit → Shared → Prop} {E} (k : ∀ s' vs2, Rel C fm μ vs2 hp s' → Step fm μ s μ s' → (∀ y, vs2.lookup y = (((fs.map (·.1)).zip l).reverse ++ vs).lookup y) → P () s') : wpAny C.M A (assign (.Tuple ts c p) fm.env val) P E s := by
  obtain ⟨a, fp, rfl, cr, _⟩ : ∃ a' fp, val = .ref a' ∧ CR C s.heap μ (fm.D μ) (.tup l) fp a' ∧ ∀ b ∈ fp, b ∉ fm.D μ := rv.inv
  obtain ⟨_, ys, m, hg, r, pl⟩ : fp = [a] ∧ ∃ (xs : List Value) (n : Nat), s.heap.get? a = some ⟨.type "tuple", Option.none, .seq xs.toArray n, #[]⟩ ∧ VRs C s.heap μ (fm.D μ) l xs ∧ allPlain l = true := cr.inv
  have len := r.length
  show wpAny C.M A (standAt p >>= fun _ => unpack (.ref a) (assignEach ts fm.env)) P E s
  rw [he]
  have nostar : (fs.map fun p => (false, p.2 fm.env)).findIdx? (·.1) = none := by
    clear he hs hl k
    induction fs with
    | nil => rfl
    | cons p fs ih => rw [List.map_cons, List.findIdx?_cons, ih]; rfl
  refine wpAny_bind (wpAny_standAt (wpAny_unpack_tuple hh ⟨_, hg, rfl, _, rfl⟩ (by rw [List.length_map, List.size_toArray]; omega) nostar fun h' hx => ?_))
  obtain ⟨R', S'⟩ := R.keeps (s' := { s with heap := h' }) fun b o e => hx b o (Nat.ne_of_lt (Heap.lt_size e)) e
  rw [List.map_map]
  exact stores ok fs hs hl (S'.vrs r) R' fun s2 vs2 R2 S2 => k s2 vs2 R2 (S'.trans S2)
theorem TG.two {x y px py c p} (hx : F.names.lookup x = some .local) (hy : F.names.lookup y = some .local) : TG C F (.Tuple [.Name x px, .Name y py] c p) (fun b : V × V => [(y, b.2), (x, b.1)]) sp2 := ⟨fun b => by simp only [List.forall_mem_cons]; exact ⟨hy, hx, by simp⟩, fun {fm μ vs hp s A v val k} ok hh R rv w => by
  obtain ⟨l, rfl, w⟩ := w.inv
  match l, w with
  | [a, b], w => exact ⟨(a, b), w, fun {P E} kk => TG.tup [(x, fun env v => assign (.Name x px) env v), (y, fun env v => assign (.Name y py) env v)] (fun _ => rfl) (by simp only [List.forall_mem_cons]; exact ⟨sto_assign (store_local hx), sto_assign (store_local hy), by simp⟩) ok hh R rv rfl kk⟩⟩
theorem TG.three {x y z px py pz c p} (hx : F.names.lookup x = some .local) (hy : F.names.lookup y = some .local) (hz : F.names.lookup z = some .local) : TG C F (.Tuple [.Name x px, .Name y py, .Name z pz] c p) (fun b : V × V × V => [(z, b.2.2), (y, b.2.1), (x, b.1)]) sp3 := ⟨fun b => by simp only [List.forall_mem_cons]; exact ⟨hz, hy, hx, by simp⟩, fun {fm μ vs hp s A v val k} ok hh R rv w => by
  obtain ⟨l, rfl, w⟩ := w.inv
  match l, w with
  | [a, b, d], w => exact ⟨(a, b, d), w, fun {P E} kk => TG.tup [(x, fun env v => assign (.Name x px) env v), (y, fun env v => assign (.Name y py) env v), (z, fun env v => assign (.Name z pz) env v)] (fun _ => rfl) (by simp only [List.forall_mem_cons]; exact ⟨sto_assign (store_local hx), sto_assign (store_local hy), sto_assign (store_local hz), by simp⟩) ok hh R rv rfl kk⟩⟩

structure S1 (C : Cx) (n : Nat) (F : Frm) {α : Type} (st : α → Vars) (vs : Vars) (b : Stmt) (W : WS α) : Prop where
  run : ∀ {fm M μ₀ s₀ μ vs' hp s QF E Kn Kr X}, At C n F vs fm μ vs' hp s → FnFm fm → μ₀.length ≤ F.low → SStep fm M μ₀ s₀ μ s → W hp Kn Kr X → KS C fm M μ₀ s₀ st Kn Kr X QF E → wpAny C.M fm.A (PySem.exec b fm.env) QF E s

noncomputable def sSeq {α β : Type} (W : WS β) (R : β → WS α) : WS α := fun hp Kn Kr X => W hp (fun b hp1 => R b hp1 Kn Kr X) Kr X
noncomputable def sEnd {α : Type} (a : α) : WS α := fun hp Kn _ _ => Kn a hp
theorem Sub.refl : Sub vs vs := fun _ _ e => e
theorem Sub.trans {vs₁ vs₂ vs₃ : Vars} (a : Sub vs₁ vs₂) (b : Sub vs₂ vs₃) : Sub vs₁ vs₃ := fun x v e => b x v (a x v e)
theorem Sub.nil : Sub [] vs := fun x v e => by cases e
theorem Sub.cons {x v r} (h : vs.lookup x = some v) (hr : Sub r vs) : Sub ((x, v) :: r) vs := fun y u e => by
  rw [List.lookup_cons] at e
  cases q : y == x with
  | true => rw [q] at e; cases e; rw [eq_of_beq q]; exact h
  | false => rw [q] at e; exact hr y u e
theorem Sub.app {A vs₂ : Vars} (h : Sub vs vs') (e : ∀ y, vs₂.lookup y = (A ++ vs').lookup y) : Sub (A ++ vs) vs₂ := fun x v q => by
  rw [e]
  clear e
  induction A with
  | nil => exact h x v q
  | cons p A ih =>
    obtain ⟨z, u⟩ := p
    rw [List.cons_append, List.lookup_cons] at q ⊢
    cases hz : x == z with
    | true => rw [hz] at q; exact q
    | false => rw [hz] at q; exact ih q
theorem SS.nil {α} {st : α → Vars} (a : α) (h : Sub (st a) vs) : SS C n F st vs [] (sEnd a) := ⟨fun at_ fn hlow sst w k => wpAny_execs_nil (k.nx w sst at_.R (h.trans at_.sub))⟩

theorem SS.cons {α β} {st : α → Vars} {st1 : β → Vars} {b r W R} (h : S1 C n F st1 vs b W) (hr : ∀ x, SS C n F st (st1 x) r (R x)) : SS C n F st vs (b :: r) (sSeq W R) := ⟨fun at_ fn hlow sst w k =>
  wpAny_execs_cons (h.run at_ fn hlow sst w ⟨fun {x hp1 s1 μ1 vs1} w1 st1 R1 sub => (hr x).run ⟨at_.ok, at_.rm, sub, R1⟩ fn hlow st1 w1 k, fun w1 st1 R1 r1 => k.rt w1 st1 R1 r1, k.ex⟩)⟩

theorem SS.one {α} {st : α → Vars} {b W} (h : S1 C n F st vs b W) : SS C n F st vs [b] W := ⟨fun at_ fn hlow sst w k =>
  wpAny_execs_cons (h.run at_ fn hlow sst w ⟨fun w1 st1 R1 sub => wpAny_execs_nil (k.nx w1 st1 R1 sub), fun w1 st1 R1 r1 => k.rt w1 st1 R1 r1, k.ex⟩)⟩

theorem SS.weaken {α} {st : α → Vars} {vs0 ss W} (sub : Sub vs0 vs) (h : SS C n F st vs0 ss W) : SS C n F st vs ss W := ⟨fun at_ => h.run ⟨at_.ok, at_.rm, sub.trans at_.sub, at_.R⟩⟩

/-- what follows an expression in a statement -/
theorem KS.e {α : Type} {st : α → Vars} {Kn Kr X} {K : V → List V → Prop} {P : Value → Shared → Prop} (k : KS C fm M μ₀ s₀ st Kn Kr X QF E) (sst : SStep fm M μ₀ s₀ μ s) (f : ∀ {v hp' s' μ' val}, K v hp' → Step fm μ s μ' s' → SStep fm M μ₀ s₀ μ' s' → Rel C fm μ' vs hp' s' → VR C s'.heap μ' (fm.D μ') v val → P val s') : KE C fm vs μ s K X P E :=
  .of (fun _ _ _ _ _ w st R r => f w st (sst.step st) R r) fun hx x s' hf => k.ex hx x s' (.inl hf)
noncomputable def sSet (a : WP) : WS V := fun hp Kn _ X => a hp Kn X
noncomputable def sExpr (a : WP) : WS Unit := fun hp Kn _ X => a hp (fun v hp1 => wN v (Kn () hp1)) X
noncomputable def sRet {α : Type} (a : WP) : WS α := fun hp _ Kr X => a hp Kr X
noncomputable def sIf {α : Type} (t : WB) (a b : WS α) : WS α := fun hp Kn Kr X => t hp (fun c hp1 => br c (a hp1 Kn Kr X) (b hp1 Kn Kr X)) X
noncomputable def sUn {β : Type} (a : WP) (sp : V → (β → Prop) → Prop) : WS β := fun hp Kn _ X => a hp (fun v hp1 => sp v fun b => Kn b hp1) X
theorem S1.set {x np e p W} (hx : F.names.lookup x = some .local) (hsw : ∀ env, swapsWith e (some (.Name x np)) p.line env = pure false) (h : SE C n F vs e W) : S1 C n F (fun v => (x, v) :: vs) vs (.Assign [.Name x np] e p) (sSet W) := ⟨fun {fm M μ₀ s₀ μ vs' hp s QF E Kn Kr X} a fn hlow sst w k =>
  wpAny_Assign_Name (h.run a w (k.e sst fun w1 st1 sst1 R1 r1 => (store_local hx).run a.ok R1 r1 fun s2 R2 S2 => k.nx w1 (sst1.step S2) R2 (Sub.app (A := [(x, _)]) a.sub fun y => lookup_set_cons _ x y _))) (hsw _)⟩

theorem S1.expr {f as ks p p2 W} (h : SE C n F vs (.Call f as ks p) W) : S1 C n F (fun _ : Unit => vs) vs (.Expr (.Call f as ks p) p2) (sExpr W) := ⟨fun {fm M μ₀ s₀ μ vs' hp s QF E Kn Kr X} a fn hlow sst w k =>
  wpAny_Expr_any (h.run a w (k.e sst fun w1 st1 sst1 R1 r1 => k.nx w1.inv.2 sst1 R1 a.sub)) (by unfold interactive; rw [a.ok.kind]; rfl)⟩

theorem S1.ret {α} {st : α → Vars} {e p W} (h : SE C n F vs e W) : S1 C n F st vs (.Return (some e) p) (sRet W) := ⟨fun a fn hlow sst w k =>
  wpAny_Return_some (h.run a w (k.e sst fun w1 st1 sst1 R1 r1 => k.rt w1 sst1 R1 r1))⟩

theorem S1.if {α} {st : α → Vars} {t b o p T W U} (ht : ST C n F vs t T) (hb : SS C n F st vs b W) (ho : SS C n F st vs o U) : S1 C n F st vs (.If t b o p) (sIf T W U) := ⟨fun {fm M μ₀ s₀ μ vs' hp s QF E Kn Kr X} a fn hlow sst w k =>
  wpAny_If (ht.run a w ⟨fun {c hp1} w1 s1 μ1 st1 R1 => by
    cases c with
    | true => exact hb.run (a.to R1) fn hlow (sst.step st1) (w1.1 rfl) k
    | false => exact ho.run (a.to R1) fn hlow (sst.step st1) (w1.2 rfl) k, fun hx x s' hf => k.ex hx x s' (.inl hf)⟩)⟩

theorem S1.un {β : Type} {tv : β → Vars} {sp ts c tp oo i q p W} (ht : TG C F (.Tuple ts c tp) tv sp) (h : SE C n F vs (.Subscript oo i q) W) : S1 C n F (fun b => tv b ++ vs) vs (.Assign [.Tuple ts c tp] (.Subscript oo i q) p) (sUn W sp) := ⟨fun {fm M μ₀ s₀ μ vs' hp s QF E Kn Kr X} a fn hlow sst w k =>
  Assign_Tuple (h.run a w (k.e sst fun w1 st1 sst1 R1 r1 =>
    let ⟨_, w2, hk⟩ := ht.run a.ok a.ok.handled R1 r1 w1
    hk fun s2 vs2 R2 S2 e2 => k.nx w2 (sst1.step S2) R2 (Sub.app a.sub e2)))⟩

end

section
variable {C : Cx} {F : Frm} {fm : Fm} {μ μ' μ₀ : Mu} {vs vs' : Vars} {hp hp' : List V} {s s' s₀ : Shared} {A : Around} {Q : Value → Shared → Prop} {QB : Bool → Shared → Prop} {QL : List Value → Shared → Prop} {QF : Flow → Shared → Prop} {E : Value → Shared → Prop} {n : Nat} {M : List Addr}


noncomputable def sFor {α β : Type} (it : WP) (a0 : α) (sp : V → (β → Prop) → Prop) (W : α → β → WS α) : WS α := fun hp Kn Kr X => it hp (fun iv hp1 => wItems iv fun items => ∃ I : List V → α → List V → Prop, I [] a0 hp1 ∧
  (∀ done x rest a hp2, items = done ++ x :: rest → I done a hp2 → sp x fun b => W a b hp2 (fun a' hp3 => I (done ++ [x]) a' hp3) Kr False) ∧ ∀ a hp2, I items a hp2 → Kn a hp2) X
noncomputable def sWhile {α : Type} (a0 : α) (T : α → WB) (W : α → WS α) : WS α := fun hp Kn Kr X => ∃ I : Nat → α → List V → Prop, (∃ k, I k a0 hp) ∧ ∀ k a hp1, I k a hp1 → T a hp1 (fun c hp2 => br c (W a hp2 (fun a' hp3 => ∃ k', k' < k ∧ I k' a' hp3) Kr False) (Kn a hp2)) False

theorem forLoop_sound {α β : Type} {st : α → Vars} {tv : β → Vars} {sp : V → (β → Prop) → Prop} {W : α → β → WS α} {Kn : α → List V → Prop} {Kr : V → List V → Prop} {X : Prop} {t : Expr} {b : List Stmt} (ht : TG C F t tv sp) (hb : ∀ a x, SS C n F st (tv x ++ st a) b (W a x))
    (ok : FmOk F fm) (fn : FnFm fm) (hlow : μ₀.length ≤ F.low) (rm : Room fm.A n) {items : List V} {I : Addr} (sst : SStep fm M μ₀ s₀ μ s) (R : Rel C (fm.withP [I]) μ vs hp s) (hc : CellsIn fm)
    (it : Itr C fm.A (fm.withP [I]) μ s items I) (hI : s₀.heap.get? I = none) (a0 : α) (h0 : Sub (st a0) vs) (J : List V → α → List V → Prop) (j0 : J [] a0 hp) (jn : ∀ done x rest a hp2, items = done ++ x :: rest → J done a hp2 → sp x fun b => W a b hp2 (fun a' hp3 => J (done ++ [x]) a' hp3) Kr False)
    (je : ∀ a hp2, J items a hp2 → Kn a hp2) (kk : KS C fm M μ₀ s₀ st Kn Kr X QF E) {R0 : Result → Shared → Prop} (hR : ∀ f s', QF f s' → R0 (.ok f) s') :
    codeAny C.M fm.A (.forLoop t (.ref I) b [] fm.env) R0 s := by
  obtain ⟨fp, Pk, St, Wk, hst, hfp, hvr', hcls, hpl⟩ := it
  have hvr : ∀ i v, Pk i v → i < items.length → VR C s.heap μ ((fm.withP [I]).D μ) (items.getD i .none) v := fun i v a b => VR.mono (fun _ _ _ e => e) (fun _ _ e => e) (fun b hb => .inl (List.mem_cons_of_mem _ hb)) (hvr' i v a b)
  have ok' := ok.withP [I]
  have fn' : FnFm (fm.withP [I]) := ⟨fn.self, fn.lf, fn.cown, fn.cap⟩
  have plj : ∀ j, j < items.length → isPlainV (items.getD j .none) = true := fun j hj => by
    have e : items.getD j .none = items[j] := by simp [List.getD, List.getElem?_eq_getElem hj]
    rw [e]; exact List.all_eq_true.mp hpl _ (List.getElem_mem hj)
  let Inv : Nat → Shared → Prop := fun k s => ∃ i μ vs hp, i + k = items.length ∧ SStep (fm.withP [I]) M μ₀ s₀ μ s ∧ Rel C (fm.withP [I]) μ vs hp s ∧ St i s.heap ∧ (∀ b ∈ fp, b ≠ I → b ∉ (fm.withP [I]).D μ ∧ ∃ o, s.heap.get? b = some o) ∧
    (∀ j v, Pk j v → j < items.length → VR C s.heap μ ((fm.withP [I]).D μ) (items.getD j .none) v) ∧ ∃ a, Sub (st a) vs ∧ J (items.take i) a hp
  refine codeAny_for Inv ?_ items.length ⟨0, μ, vs, hp, Nat.zero_add _, ⟨sst.keep, sst.pre, sst.new, sst.live⟩, R, hst, fun b hb hne => (hfp b hb).resolve_left hne, hvr, a0, h0, j0⟩
  rintro k s ⟨i, μ, vs, hp, hik, sst, R, hst, hfp, hvr, a, sub, ja⟩
  have IinP : I ∈ [I] := List.mem_singleton.mpr rfl
  have IinD : I ∈ (fm.withP [I]).D μ := mem_DP.mpr (.inl IinP)
  by_cases hi : i < items.length
  · -- one more turn
    have hdrop : items = items.take i ++ items.getD i .none :: items.drop (i + 1) := by
      have e : items.getD i .none = items[i] := by simp [List.getD, List.getElem?_eq_getElem hi]
      rw [e, ← List.drop_eq_getElem_cons hi, List.take_append_drop]
    have htake : items.take (i + 1) = items.take i ++ [items.getD i .none] := by
      have e : items.getD i .none = items[i] := by simp [List.getD, List.getElem?_eq_getElem hi]
      rw [e, List.take_append_getElem]
    refine Wk.item i s _ _ hi hst fun v h' tk hv hst' hx => ?_
    dsimp only
    obtain ⟨o, T, e1, e2, e3⟩ := hcls _ _ hst'
    have hx' : ∀ b o, b ≠ I → s.heap.get? b = some o → h'.get? b = some o := fun b o hb e => hx b o (fun q => hb (List.mem_singleton.mp q)) e
    have R1 : Rel C (fm.withP [I]) μ vs hp { s with heap := h', toks := tk } := Rel.touch ok hc R IinP hx' ⟨o, e1⟩
    have ss1 : SStep (fm.withP [I]) M μ₀ s₀ μ { s with heap := h', toks := tk } := SStep.touch sst hx' hI ⟨o, e1⟩
    have vr1 : ∀ j v, Pk j v → j < items.length → VR C h' μ ((fm.withP [I]).D μ) (items.getD j .none) v := fun j v p hj => VR.mono (fun b o n e => hx' b o (fun q => n (q ▸ IinD)) e) (fun _ _ e => e) (fun b hb => .inl hb) (hvr j v p hj)
    refine letOwned_sound (C := C) ⟨o, T, e1, e2, e3⟩ ?_
    obtain ⟨bb, wb, hassign⟩ := ht.run ok' ok.handled R1 (vr1 i v hv hi) (jn _ _ _ a hp hdrop ja)
    · refine hassign fun s2 vs1 R2 S2 e2 => ?_
      have ss2 := ss1.step S2
      have fp2 : ∀ b ∈ fp, b ≠ I → b ∉ (fm.withP [I]).D μ ∧ ∃ o, s2.heap.get? b = some o := fun b hb hne => by
        obtain ⟨a1, o, a2⟩ := hfp b hb hne
        refine ⟨a1, S2.live b o (hx' b o hne a2)⟩
      -- the frame's statements keep the row that is walked
      have stI : St (i + 1) s2.heap := Wk.frame _ _ _ hst' fun b hb o e => by
        by_cases hbI : b = I
        · subst hbI
          refine S2.keep b o (fun hm => ?_) (fun hm => ?_) e
          · exact (ndP.mp R1.nd).2.2 b IinP (mem_D.mpr (.inl hm))
          · exact (ndP.mp R1.nd).2.2 b IinP (mem_D.mpr (.inr (.inl hm)))
        · exact S2.keep b o (fun hm => (hfp b hb hbI).1 (mem_D.mpr (.inl hm))) (fun hm => (hfp b hb hbI).1 (mem_D.mpr (.inr (.inl hm)))) e
      have vr2 : ∀ j v, Pk j v → j < items.length → VR C s2.heap μ ((fm.withP [I]).D μ) (items.getD j .none) v := fun j v p hj => S2.vr (vr1 j v p hj)
      obtain ⟨ν, hν⟩ := ss2.pre
      refine (hb a bb).run (fm := fm.withP [I]) ⟨ok', rm, Sub.app sub e2, R2⟩ fn' hlow (SStep.refl ⟨ν, hν⟩) wb ⟨fun {a' hp3 s3 μ3 vs3} w3 st3 R3 sub3 => ?_, fun {v2 hp3 s3 μ3 vs3 val} w3 st3 R3 r3 => ?_, fun hx => hx.elim⟩
      · refine ⟨k - 1, by omega, i + 1, μ3, vs3, hp3, by omega, ss2.comp st3, R3, ?_, fun b hb hne => ?_, fun j v p hj => st3.vr (plj j hj) (vr2 j v p hj), a', sub3, by rw [htake]; exact w3⟩
        · refine Wk.frame _ _ _ stI fun b hb o e => ?_
          by_cases hbI : b = I
          · subst hbI
            refine st3.keep b o (fun hm => ?_) (fun hm => ?_) e
            · exact (ndP.mp R2.nd).2.2 b IinP (mem_D.mpr (.inl hm))
            · exact (ndP.mp R2.nd).2.2 b IinP (mem_D.mpr (.inr (.inl hm)))
          · exact st3.keep b o (fun hm => (fp2 b hb hbI).1 (mem_D.mpr (.inl hm))) (fun hm => (fp2 b hb hbI).1 (mem_D.mpr (.inr (.inl hm)))) e
        · obtain ⟨a1, o, a2⟩ := fp2 b hb hne
          refine ⟨fun hm => ?_, st3.live b o a2⟩
          rcases mem_D.mp hm with q | q | q
          · exact a1 (mem_D.mpr (.inl q))
          · rcases st3.new b q with q | q
            · exact a1 (mem_D.mpr (.inr (.inl q)))
            · rw [a2] at q; cases q
          · exact a1 (mem_D.mpr (.inr (.inr q)))
      · let c := ss2.comp st3
        exact hR _ _ <| kk.rt w3 (SStep.mk c.keep c.pre c.new c.live : SStep fm M μ₀ s₀ μ3 s3) (R3.unguard hc) (VR.mono (fun _ _ _ e => e) (fun _ _ e => e) (fun b hb => .inl (mem_DP.mpr (.inr hb))) r3)
  · -- the end
    have hi' : i = items.length := by omega
    have hd : items.take i = items := List.take_of_length_le (by omega)
    rw [hd] at ja
    subst hi'
    refine Wk.done s _ _ hst fun h' tk hx => ?_
    dsimp only
    have hx' : ∀ b o, b ≠ I → s.heap.get? b = some o → h'.get? b = some o := fun b o hb e => hx b o (fun q => hb (List.mem_singleton.mp q)) e
    refine hR _ _ <| kk.nx (je _ _ ja) (SStep.mk (fun b o h1 h2 e => hx' b o (fun q => by rw [q, hI] at e; cases e) (sst.keep b o h1 h2 e)) sst.pre sst.new (fun b o e => ?_) : SStep fm M μ₀ s₀ μ _) (Rel.drop ok hc R hx) sub
    obtain ⟨o', e'⟩ := sst.live b o e
    exact ⟨o', hx' b o' (fun q => by rw [q, hI] at e; cases e) e'⟩

theorem S1.for {α β : Type} {st : α → Vars} {tv : β → Vars} {sp t it b p Wi} {W : α → β → WS α} (a0 : α) (h0 : Sub (st a0) vs) (hi : SE C n F vs it Wi) (hset : ∀ env x, foldedSetIterable it env x = pure x) (ht : TG C F t tv sp) (hb : ∀ a x, SS C n F st (tv x ++ st a) b (W a x)) : S1 C n F st vs (.For t it b [] p) (sFor Wi a0 sp W) := ⟨fun {fm M μ₀ s₀ μ vs' hp s QF E Kn Kr X} a fn hlow st w k => by
  have hc := a.R.cellsIn
  refine wpAny_For (hi.run a w (k.e st fun {iv hp1 s1 μ1 val} w1 _ st1 R1 rv => ?_)) (hset _)
  obtain ⟨items, ⟨J, j0, jn, je⟩, hit⟩ := iter_sound (A := fm.A) (E := E) R1 rv w1 a.ok.handled
  refine hit fun o ho itr => ?_
  have keep : ∀ b x, s1.heap.get? b = some x → (s1.heap.push o).get? b = some x := fun b x e => Heap.get?_push_of_some _ e
  have Rg : Rel C (fm.withP [s1.heap.objs.size]) μ1 vs' hp1 { s1 with heap := s1.heap.push o } := R1.guard keep (fun b hb => by
    rw [List.mem_singleton.mp hb]; exact ⟨Nat.le_refl _, o, Heap.get?_push_size _ ho⟩) (by simp)
  have I0 : s₀.heap.get? s1.heap.objs.size = none := by
    cases q : s₀.heap.get? s1.heap.objs.size with
    | none => rfl
    | some x => obtain ⟨x', e'⟩ := st1.live _ x q; exact absurd (Heap.lt_size e') (Nat.lt_irrefl _)
  have sg : SStep fm M μ₀ s₀ μ1 { s1 with heap := s1.heap.push o } := st1.step (R1.push o).2
  refine forLoop_sound ht hb a.ok fn hlow a.rm sg Rg hc ?_ I0 a0 (h0.trans a.sub) J j0 jn je k fun _ _ h => h
  obtain ⟨fp, Pk, St, Wk, a1, a2, a3, a4, a5⟩ := itr
  refine ⟨fp, Pk, St, Wk, a1, fun b hb => ?_, fun i v hv hi => ?_, a4, a5⟩
  · rcases a2 b hb with q | q
    · exact .inl q
    · by_cases hbI : b = s1.heap.objs.size
      · exact .inl hbI
      · refine .inr ⟨fun hm => ?_, q.2⟩
        rcases mem_DP.mp hm with z | z
        · exact hbI (List.mem_singleton.mp z)
        · exact q.1 z
  · refine VR.mono (fun _ _ _ e => e) (fun _ _ e => e) (fun b hb => .inl ?_) (a3 i v hv hi)
    rcases List.mem_cons.mp hb with q | q
    · exact q ▸ List.mem_cons_self ..
    · rcases mem_DP.mp q with z | z
      · rw [List.mem_singleton.mp z]; exact List.mem_cons_self ..
      · exact List.mem_cons_of_mem _ z⟩

theorem S1.while {α : Type} {st : α → Vars} {t b p T} {W : α → WS α} (a0 : α) (h0 : Sub (st a0) vs) (ht : ∀ a, ST C n F (st a) t (T a)) (hb : ∀ a, SS C n F st (st a) b (W a)) : S1 C n F st vs (.While t b [] p) (sWhile a0 T W) := ⟨fun {fm M μ₀ s₀ μ vs' hp s QF E Kn Kr X} a fn hlow sst w k => by
  obtain ⟨I, ⟨k0, i0⟩, hI⟩ := w
  refine wpAny_While (codeAny_whileLoop (fun k s => ∃ x μ vs hp, SStep fm M μ₀ s₀ μ s ∧ Rel C fm μ vs hp s ∧ Sub (st x) vs ∧ I k x hp) ?_ k0 ⟨a0, μ, vs', hp, sst, a.R, h0.trans a.sub, i0⟩)
  rintro j s ⟨x, μ, vs, hp, sst, R, sub, ij⟩
  have at1 : At C n F (st x) fm μ vs hp s := ⟨a.ok, a.rm, sub, R⟩
  refine (ht x).run at1 (hI j x hp ij) ⟨fun {c hp1} w1 s1 μ1 st1 R1 => ?_, fun hx => hx.elim⟩
  have sst1 := sst.step st1
  cases c with
  | false =>
    rw [if_neg (by decide)]
    exact wpAny_execs_nil (k.nx (w1.2 rfl) sst1 R1 sub)
  | true =>
    rw [if_pos rfl]
    exact (hb x).run (at1.to R1) fn hlow sst1 (w1.1 rfl) ⟨fun {y hp2 s2 μ2 vs2} w2 st2 R2 sub2 => let ⟨k', lt, ik⟩ := w2; ⟨k', lt, y, μ2, vs2, hp2, st2, R2, sub2, ik⟩, fun w2 st2 R2 r2 => k.rt w2 st2 R2 r2, fun hx => hx.elim⟩⟩

end

section
variable {C : Cx} {F : Frm} {fm : Fm} {μ μ' μ₀ : Mu} {vs vs' : Vars} {hp hp' : List V} {s s' s₀ : Shared} {A : Around} {Q : Value → Shared → Prop} {QB : Bool → Shared → Prop} {QL : List Value → Shared → Prop} {QF : Flow → Shared → Prop} {E : Value → Shared → Prop} {n : Nat} {M : List Addr}

theorem Rel.congr (R : Rel C fm μ vs hp s) (h : ∀ x, vs'.lookup x = vs.lookup x) : Rel C fm μ vs' hp s := by
  refine ⟨R.base, R.ff, R.nd, R.fr, ?_, fun x hx => ?_, R.hps, R.gens, R.os, R.above, R.nss⟩
  · obtain ⟨m, hn, hm⟩ := R.ns
    exact ⟨m, hn, fun x v e hk => hm x v (by rw [← h x]; exact e) hk⟩
  · obtain ⟨c, o, a, b, d, e⟩ := R.cel x hx
    exact ⟨c, o, a, b, d, fun v hv => e v (by rw [← h x]; exact hv)⟩


theorem Ents.invc {h : Heap} {D : List Addr} {es : List DictEntry} {f : List (Str × V)} (e : Ents C h μ D es f) : match f with
    | [] => es = []
    | (x, v) :: f => ∃ t hs val es', es = ⟨hs, .str x t, val⟩ :: es' ∧ VR C h μ D v val ∧ isPlainV v = true ∧ Ents C h μ D es' f :=
  Ents.casesOn (motive_4 := fun es f _ => match f with
    | [] => es = []
    | (x, v) :: f => ∃ t hs val es', es = ⟨hs, .str x t, val⟩ :: es' ∧ VR C h μ D v val ∧ isPlainV v = true ∧ Ents C h μ D es' f) e rfl (fun x t hs val v es f a p r => ⟨t, hs, val, es, rfl, a, p, r⟩)
theorem Ents.put {h : Heap} {D : List Addr} {x : Str} {v : V} {val : Value} {hs : Int} {t : Tok} (r : VR C h μ D v val) (pl : isPlainV v = true) {f : List (Str × V)} : ∀ {es : List DictEntry}, Ents C h μ D es f →
    Ents C h μ D (putL x hs (.str x t) val es) (setV f x v) ∧ (putL x hs (.str x t) val es).length ≤ es.length + 1 ∧ es.length = f.length := by
  induction f with
  | nil => intro es e; have q : es = [] := e.invc; rw [q]; exact ⟨.cons _ _ _ _ _ _ _ r pl .nil, Nat.le_refl _, rfl⟩
  | cons p f ih =>
    intro es e
    obtain ⟨y, u⟩ := p
    obtain ⟨t', hs', val', es', q0, a, pl', rr⟩ : ∃ t hs val es', es = ⟨hs, .str y t, val⟩ :: es' ∧ VR C h μ D u val ∧ isPlainV u = true ∧ Ents C h μ D es' f := e.invc
    rw [q0]
    obtain ⟨i1, i2, i3⟩ := ih rr
    by_cases q : y = x
    · have : putL x hs (.str x t) val (⟨hs', .str y t', val'⟩ :: es') = ⟨hs', .str y t', val⟩ :: es' := if_pos (by show (y == x) = true; rw [q, beq_self_eq_true])
      rw [this, show setV ((y, u) :: f) x v = (y, v) :: f from if_pos q]
      exact ⟨.cons _ _ _ _ _ _ _ r pl rr, Nat.le_succ _, congrArg Nat.succ i3⟩
    · have : putL x hs (.str x t) val (⟨hs', .str y t', val'⟩ :: es') = ⟨hs', .str y t', val'⟩ :: putL x hs (.str x t) val es' := if_neg (by show ¬ (y == x) = true; rw [beq_false_of_ne q]; exact Bool.noConfusion)
      rw [this, show setV ((y, u) :: f) x v = (y, u) :: setV f x v from if_neg q]
      exact ⟨.cons _ _ _ _ _ _ _ a pl' i1, Nat.succ_le_succ i2, congrArg Nat.succ i3⟩
noncomputable def sAttr (y : Str) (e u : WP) : WS Unit := fun hp Kn _ X => e hp (fun v hp1 => u hp1 (fun x hp2 => wCell hp2 x fun hp0 c h2 => wO c fun cn f => guard (isPlainV v) ((isClsName cn = true ∧ f.length ≤ 100) ∧ Kn () (hp0 ++ V.inst cn (setV f y v) :: h2))) X) X
noncomputable def sItemL (e u i : WP) : WS Unit := fun hp Kn _ X => e hp (fun v hp1 => u hp1 (fun x hp2 => i hp2 (fun k hp3 => wCell hp3 x fun hp0 c h2 => wL c fun l => wI k fun k => guard (isPlainV v) (l.length ≤ 1000 ∧ ∃ j, idx l.length k = some j ∧ Kn () (hp0 ++ V.list (l.set j v) :: h2))) X) X) X
noncomputable def sItemD (e u i : WP) : WS Unit := fun hp Kn _ X => e hp (fun v hp1 => u hp1 (fun x hp2 => i hp2 (fun k hp3 => wCell hp3 x fun hp0 c h2 => wD c fun d => wI k fun k => wI v fun v => d.length ≤ 1000 ∧ Kn () (hp0 ++ V.dict (dput d k v) :: h2)) X) X) X

theorem setAttr_sound (G : GOK C) (ok : FmOk F fm) (R : Rel C fm μ vs hp s) {i : Nat} {a : Addr} {fp : List Addr} {c x : Str} {f : List (Str × V)} {v : V} {val : Value} {hp2 : List V} (e : μ[i]? = some (a, fp)) (cr : CR C s.heap μ (fm.D μ) (.inst c f) fp a) (hset : setHp hp i (.inst c (setV f x v)) = hp2) (hc : isClsName c = true) (hy : isField x = true) (hf : f.length ≤ 100)
    (rv : VR C s.heap μ (fm.D μ) v val) (pl : isPlainV v = true) {P : Unit → Shared → Prop} (k : ∀ s', Rel C fm μ vs hp2 s' → Step fm μ s μ s' → P () s') : wpAny C.M A (setAttr (.ref a) x val) P E s := by
  obtain ⟨d, cl, es, nn, rfl, g, h1, h2, en⟩ : ∃ d cl es n, fp = [a, d] ∧ nsIn C.K mainGlobals c = some (some (.ref cl)) ∧ s.heap.get? a = some (instObj cl d) ∧ s.heap.get? d = some (dictOf es n) ∧ Ents C s.heap μ (fm.D μ) es f := cr.inv
  obtain ⟨cl', g', CI⟩ := G.cls c hc
  rw [g] at g'; cases g'
  obtain ⟨m, hn, hm⟩ := R.ns
  obtain ⟨nm, no, np, _⟩ := D_parts R
  have dmu : d ∈ muA μ := fp_mu e (by simp)
  have amu : a ∈ muA μ := fp_mu e (by simp)
  have dL : d ≠ fm.env.locals := fun q => no d (q ▸ ok.loc) dmu
  have aL : a ≠ fm.env.locals := fun q => no a (q ▸ ok.loc) amu
  have aN : C.base.get? a = none := (R.fr a (mem_D.mpr (.inr (.inl amu)))).1
  have dN : C.base.get? d = none := (R.fr d (mem_D.mpr (.inr (.inl dmu)))).1
  have ad : a ≠ d := by
    have key : ∀ {μ : Mu}, (muA μ).Nodup → ∀ {i : Nat}, μ[i]? = some (a, [a, d]) → a ≠ d := by
      intro μ
      induction μ with
      | nil => intro _ i e; simp at e
      | cons p μ ih =>
        intro nd i e
        have nd' : (p.2 ++ muA μ).Nodup := nd
        rw [List.nodup_append] at nd'
        cases i with
        | zero => simp at e; subst e; have := nd'.1; simp at this; exact this
        | succ i => simp at e; exact ih nd'.2.1 e
    exact key nm e
  let rest : List (Addr × Obj) := (List.range s.heap.objs.size).filterMap fun b => if b = fm.env.locals ∨ (C.base.get? b).isSome ∨ b = d then none else (s.heap.get? b).map fun o => (b, o)
  have rest_spec : ∀ p ∈ rest, s.heap.get? p.1 = some p.2 ∧ p.1 ≠ fm.env.locals ∧ C.base.get? p.1 = none ∧ p.1 ≠ d := fun p hp => by
    obtain ⟨b, _, hb⟩ := List.mem_filterMap.mp hp
    split at hb
    · cases hb
    · rename_i hne
      cases q : s.heap.get? b with
      | none => rw [q] at hb; cases hb
      | some o =>
        rw [q] at hb; cases hb
        refine ⟨q, fun z => hne (.inl z), ?_, fun z => hne (.inr (.inr z))⟩
        cases q' : C.base.get? b with
        | none => rfl
        | some o' => exact absurd (.inr (.inl (by rw [q']; rfl))) hne
  have rest_mem : ∀ b o, b ≠ fm.env.locals → C.base.get? b = none → b ≠ d → s.heap.get? b = some o → (b, o) ∈ rest := fun b o n1 n2 n3 e =>
    List.mem_filterMap.mpr ⟨b, List.mem_range.mpr (Heap.lt_size e), by rw [if_neg (by rw [n2]; simp [n1, n3]), e]; rfl⟩
  have F' : Fr C.base fm.env.locals s.heap m := ⟨hn, R.base, R.above⟩
  have N : News C.base fm.env.locals s.heap ((d, dictOf es nn) :: rest) := fun p hp => by
    rcases List.mem_cons.mp hp with q | q
    · subst q; exact ⟨h2, dL, dN⟩
    · obtain ⟨q1, q2, q3, _⟩ := rest_spec p q; exact ⟨q1, q2, q3⟩
  have put := fun (h : Heap) (en : Ents C h μ (fm.D μ) es f) (r : VR C h μ (fm.D μ) v val) => Ents.put (x := x) (hs := PyData.keyHash C.w.params x) (t := s.toks + 1) r pl en
  obtain ⟨_, plen, elen⟩ := put s.heap en rv
  refine set_dict (es' := putL x (PyData.keyHash C.w.params x) (.str x (s.toks + 1)) val es) (n' := putN x es nn) (news := (d, dictOf es nn) :: rest)
    (news' := (d, dictOf (putL x (PyData.keyHash C.w.params x) (.str x (s.toks + 1)) val es) (putN x es nn)) :: rest) F' C.inK N (instAt_of h1 h2) rfl CI.set CI.over (CI.attr x hy).1 CI.has ?_ rfl
    (.head fun p hp => (rest_spec p hp).2.2.2) (by omega) fun h' F2 N2 => ?_
  · cases q : f.lookup x with
    | none => rw [(en.get x).1 q]; rfl
    | some u => obtain ⟨val', q1, _⟩ := (en.get x).2 u q; rw [q1]; rfl
  · have hx : ∀ b o, b ∉ [a, d] → b ≠ fm.env.locals → s.heap.get? b = some o → h'.get? b = some o := fun b o n1 n2 eb => by
      cases q : C.base.get? b with
      | some o' => have := R.base b o' q; rw [eb] at this; cases this; exact F2.keep b _ q
      | none => exact (N2 (b, o) (List.mem_cons_of_mem _ (rest_mem b o n2 q (fun z => n1 (by rw [z]; simp)) eb))).1
    have vrk : ∀ {v : V} {y : Value}, VR C s.heap μ (fm.D μ) v y → VR C h' μ (fm.D μ) v y := fun r => VR.mono (fun b o nb eb => hx b o (fun q => nb (mem_D.mpr (.inr (.inl (by rcases List.mem_cons.mp q with z | z; exact z ▸ amu; exact List.mem_singleton.mp z ▸ dmu))))) (fun q => nb (q ▸ loc_D ok)) eb) (fun _ _ e => e) (fun b hb => .inl hb) r
    have enk : Ents C h' μ (fm.D μ) es f := Ents.mono (fun b o nb eb => hx b o (fun q => nb (mem_D.mpr (.inr (.inl (by rcases List.mem_cons.mp q with z | z; exact z ▸ amu; exact List.mem_singleton.mp z ▸ dmu))))) (fun q => nb (q ▸ loc_D ok)) eb) (fun _ _ e => e) (fun b hb => .inl hb) en
    obtain ⟨R2, S2⟩ := Rel.mutF (s' := { s with heap := h', toks := s.toks + 2 }) ok R e hx F2.ns hm
      (.inst c (setV f x v) a d cl _ _ g (N2 (a, instObj cl d) (List.mem_cons_of_mem _ (rest_mem a _ aL aN ad h1))).1 (N2 _ (List.mem_cons_self ..)).1 (put h' enk (vrk rv)).1) rfl
    exact k _ (hset ▸ R2) S2

theorem VRs.set {h : Heap} {D : List Addr} {v : V} {y : Value} (b : VR C h μ D v y) {l : List V} : ∀ {xs : List Value} (j : Nat), VRs C h μ D l xs → VRs C h μ D (l.set j v) (xs.set j y) := by
  induction l with
  | nil => intro xs j r; have q : xs = [] := r.inv; rw [q]; exact .nil
  | cons u l ih =>
    intro xs j r
    obtain ⟨z, ys, q, a, r⟩ : ∃ y ys, xs = y :: ys ∧ VR C h μ D u y ∧ VRs C h μ D l ys := r.inv
    rw [q]
    cases j with
    | zero => exact .cons _ _ _ _ b r
    | succ j => exact .cons _ _ _ _ a (ih j r)

theorem allPlain_set {l : List V} {v : V} (h : allPlain l = true) (hv : isPlainV v = true) (j : Nat) : allPlain (l.set j v) = true := by
  unfold allPlain at *
  rw [List.all_eq_true] at *
  intro x hx
  rcases List.mem_or_eq_of_mem_set hx with q | q
  · exact h x q
  · exact q ▸ hv

theorem setList_sound (ok : FmOk F fm) (R : Rel C fm μ vs hp s) {i j : Nat} {a : Addr} {fp : List Addr} {k : Int} {t : Tok} {l : List V} {v : V} {val : Value} {hp2 : List V} (e : μ[i]? = some (a, fp)) (cr : CR C s.heap μ (fm.D μ) (.list l) fp a) (hset : setHp hp i (.list (l.set j v)) = hp2) (hl : l.length ≤ 1000) (hj : idx l.length k = some j)
    (rv : VR C s.heap μ (fm.D μ) v val) (pl : isPlainV v = true) {P : Unit → Shared → Prop} (kk : ∀ s', Rel C fm μ vs hp2 s' → Step fm μ s μ s' → P () s') : wpAny C.M A (setItem (.ref a) (.int k t) val) P E s := by
  obtain ⟨rfl, xs, nn, he, r, pl'⟩ : fp = [a] ∧ ∃ (xs : List Value) (n : Nat), s.heap.get? a = some ⟨.type "list", Option.none, .seq xs.toArray n, #[]⟩ ∧ VRs C s.heap μ (fm.D μ) l xs ∧ allPlain l = true := cr.inv
  have len := r.length
  have amu : a ∈ muA μ := fp_mu e (by simp)
  have fin : ∀ j' : Nat, j' = j → P () { s with heap := s.heap.update a (Obj.mapSeq (·.setIfInBounds j' val)) } := fun j' hj' => by
    subst hj'
    have ho : (s.heap.update a (Obj.mapSeq (·.setIfInBounds j' val))).get? a = some ⟨.type "list", none, .seq (xs.set j' val).toArray nn, #[]⟩ := by
      rw [Heap.get?_update_self _ he (by simp [Obj.mapSeq, Obj.isFreed])]
      simp [Obj.mapSeq]
    have hx : ∀ b o, b ∉ [a] → s.heap.get? b = some o → (s.heap.update a (Obj.mapSeq (·.setIfInBounds j' val))).get? b = some o := fun b o hb eb => (Heap.get?_update_other _ _ (fun q => hb (by simp [q]))).trans eb
    have vrk : ∀ {l : List V} {ys : List Value}, VRs C s.heap μ (fm.D μ) l ys → VRs C (s.heap.update a (Obj.mapSeq (·.setIfInBounds j' val))) μ (fm.D μ) l ys := fun r => VRs.mono (fun b o nb eb => hx b o (fun q => nb (mem_D.mpr (.inr (.inl (List.mem_singleton.mp q ▸ amu))))) eb) (fun _ _ e => e) (fun b hb => .inl hb) r
    obtain ⟨R2, S2⟩ := Rel.mut (s' := { s with heap := s.heap.update a (Obj.mapSeq (·.setIfInBounds j' val)) }) ok R e hx (.list (l.set j' v) (xs.set j' val) a nn ho (vrk (VRs.set rv j' r)) (allPlain_set pl' pl j')) rfl
    exact kk _ (hset ▸ R2) S2
  obtain ⟨hlt, h1, h2, hs⟩ := idx_spec hj
  by_cases h0 : 0 ≤ k
  · refine ki_setAt he h0 (by omega) (by simp only [List.size_toArray]; omega) (fin k.toNat ?_)
    unfold idx at hj
    rw [if_pos h0] at hj
    split at hj <;> first | (cases hj; rfl) | cases hj
  · refine ki_setBack he (by omega) (by simp only [List.size_toArray]; omega) (by omega) (fin (k + xs.toArray.size).toNat ?_)
    unfold idx at hj
    rw [if_neg h0] at hj
    split at hj
    · cases hj; rw [List.size_toArray, ← len]
    · cases hj

theorem DictI.any {kvs : List (Int × Value)} {l : List (Int × Int)} (d : DictI kvs l) (k : Int) : kvs.any (fun p => p.1 = k) = l.any (fun p => p.1 = k) := by
  induction d with
  | nil => rfl
  | cons k' i t d ih => simp only [List.any_cons, ih]
theorem DictI.append {kvs kvs' : List (Int × Value)} {l l' : List (Int × Int)} (d : DictI kvs l) (d' : DictI kvs' l') : DictI (kvs ++ kvs') (l ++ l') := by
  induction d with
  | nil => exact d'
  | cons k' i t d ih => exact .cons _ _ _ ih
theorem DictI.stored {kvs : List (Int × Value)} {l : List (Int × Int)} (d : DictI kvs l) (k u : Int) (t : Tok) : DictI (PySem.stored kvs k (.int u t)) (dput l k u) := by
  unfold PySem.stored dput
  rw [d.any k]
  split
  · rename_i hany
    clear hany
    induction d with
    | nil => exact .nil
    | cons k' i t' d ih =>
      simp only [List.map_cons]
      by_cases q : k' = k
      · rw [if_pos q, if_pos q]; exact .cons _ _ _ ih
      · rw [if_neg q, if_neg q]; exact .cons _ _ _ ih
  · exact d.append (.cons _ _ _ .nil)

theorem setDict_sound (ok : FmOk F fm) (R : Rel C fm μ vs hp s) {i : Nat} {a : Addr} {fp : List Addr} {k u : Int} {t t' : Tok} {l : List (Int × Int)} {hp2 : List V} (e : μ[i]? = some (a, fp)) (cr : CR C s.heap μ (fm.D μ) (.dict l) fp a) (hset : setHp hp i (.dict (dput l k u)) = hp2) (hl : l.length ≤ 1000)
    {P : Unit → Shared → Prop} (kk : ∀ s', Rel C fm μ vs hp2 s' → Step fm μ s μ s' → P () s') : wpAny C.M A (setItem (.ref a) (.int k t) (.int u t')) P E s := by
  obtain ⟨rfl, kvs, ob, ns, he, d, di⟩ : fp = [a] ∧ ∃ kvs o, (a == sysModules) = false ∧ s.heap.get? a = some o ∧ o.IsDictOf (intKind C.prog C.w) kvs ∧ DictI kvs l := cr.inv
  have len := di.length
  refine wpAny_setItem_pairs (intKind_is C.prog C.w k t) (Heap.dictOf_iff.mpr ⟨ob, he, d⟩) (fun h' hd hs => ?_) (by rw [sizeLine_eq]; omega)
  obtain ⟨ob', ho', hd'⟩ := Heap.dictOf_iff.mp hd
  obtain ⟨R2, S2⟩ := Rel.mut (s' := { s with heap := h', toks := s.toks + 1 }) ok R e (fun b o n e => hs.extBut b o (fun q => n (by rw [q]; simp)) e) (.dict (dput l k u) _ a ob' ns ho' hd' (di.stored k u t')) rfl
  exact kk _ (hset ▸ R2) S2

theorem store_cell (fn : FnFm fm) {x : Str} (hx : F.names.lookup x = some .cell) (ok : FmOk F fm) (R : Rel C fm μ vs hp s) {v : V} {val : Value} (rv : VR C s.heap μ (fm.D μ) v val) {P : Unit → Shared → Prop}
    (k : ∀ s', Rel C fm μ (setV vs x v) hp s' → Step fm μ s μ s' → P () s') : wpAny C.M A (storeName fm.env x val) P E s := by
  have hk : fm.env.kindOf x = some .cell := by
    show fm.env.scope.names.lookup x = _
    rw [ok.names]; exact hx
  obtain ⟨c, o, e1, e2, e3, e4⟩ := R.cel x (.inl hk)
  have cown := fn.cown x c e1
  refine wpAny_storeName_cell ok.kind hk e1 e2 fun h' hc hs => ?_
  obtain ⟨nm, no, np, nop⟩ := D_parts R
  have inD : c ∈ fm.D μ := mem_D.mpr (.inl cown)
  have hx' : ∀ b o, b ≠ c → s.heap.get? b = some o → h'.get? b = some o := fun b o hb e => hs.extBut b o hb e
  have vrk : ∀ {v : V} {y : Value}, VR C s.heap μ (fm.D μ) v y → VR C h' μ (fm.D μ) v y := fun r => VR.mono (fun b o nb eb => hx' b o (fun q => nb (q ▸ inD)) eb) (fun _ _ e => e) (fun b hb => .inl hb) r
  have st : Step fm μ s μ { s with heap := h' } := ⟨fun b o n1 _ e => hx' b o (fun q => n1 (q ▸ cown)) e, ⟨[], by simp, by simp [muA]⟩, fun b o e => by
    by_cases q : b = c
    · subst q; obtain ⟨ob, z, _⟩ := hc; exact ⟨ob, z⟩
    · exact ⟨o, hx' b o q e⟩⟩
  have cne : ∀ b, b ∈ fm.prot → b ≠ c := fun b hb q => nop c cown (q ▸ hb)
  refine k _ ⟨fun b o e => hx' b o (fun q => by have := (R.fr c inD).1; rw [← q, e] at this; cases this) (R.base b o e), ?_, R.nd, fun b hb => ⟨(R.fr b hb).1, let ⟨_, o, e⟩ := R.fr b hb; st.live b o e⟩, ?_, fun y hy => ?_, ⟨R.hps.1, fun j v' e => ?_⟩, R.gens, R.os, R.above, fun a ha => ?_⟩ st
  · refine FunFrames.change R.ff fun L _ o e n => ?_
    by_cases q : L = c
    · subst q; obtain ⟨ob, z, z2⟩ := hc; exact ⟨ob, z, fun vs q => by rw [z2] at q; cases q⟩
    · exact ⟨o, hx' L o q e, n⟩
  · obtain ⟨m, hn, hm⟩ := R.ns
    refine ⟨m, hn.at' fun o e => hx' _ o (fun q => e3.2 q.symm) e, fun y u e hk' => ?_⟩
    have q : ¬ y = x := fun q => by rw [q, hk] at hk'; cases hk'
    rw [lookup_setV, if_neg q] at e
    obtain ⟨val', a, b⟩ := hm y u e hk'
    exact ⟨val', a, vrk b⟩
  · by_cases q : y = x
    · subst q
      refine ⟨c, some val, e1, hc, e3, fun u e => ?_⟩
      rw [lookup_setV, if_pos rfl] at e
      cases e
      exact ⟨val, rfl, vrk rv⟩
    · obtain ⟨c', o', a1, a2, a3, a4⟩ := R.cel y hy
      have hne : c' ≠ c := fun z => q (fn.cap y x c' a1 (z ▸ e1))
      obtain ⟨ob, z1, z2⟩ := a2
      refine ⟨c', o', a1, ⟨ob, hx' c' ob hne z1, z2⟩, a3, fun u e => ?_⟩
      rw [lookup_setV, if_neg q] at e
      obtain ⟨val', p1, p2⟩ := a4 u e
      exact ⟨val', p1, vrk p2⟩
  · obtain ⟨a, fp, x1, x2, x3⟩ := R.hps.2 j v' e
    exact ⟨a, fp, x1, CR.mono (fun b o nb eb => hx' b o (fun q => nb (q ▸ inD)) eb) (fun _ _ e => e) (fun b hb => .inl hb) x2 (fun b hb o eb => hx' b o (fun q => no c cown (q ▸ fp_mu x1 hb)) eb), x3⟩
  · obtain ⟨x1, m1, n1⟩ := R.nss a ha
    refine ⟨x1, m1, n1.at' fun o e => hx' a o (fun q => ?_) e⟩
    -- a cell is no row of names
    obtain ⟨ob, z1, z2⟩ := e2
    obtain ⟨ob', _, _, y1, y2, _⟩ := n1
    rw [q, z1] at y1
    cases y1
    rw [z2] at y2; cases y2


theorem notAttr {e u : Expr} {x : Str} {np : Pos} {l : Nat} {env : Env} : swapsWith e (some (.Attribute u x np)) l env = pure false := by cases e <;> rfl
theorem notItem {e u i : Expr} {np : Pos} {l : Nat} {env : Env} : swapsWith e (some (.Subscript u i np)) l env = pure false := by cases e <;> rfl
theorem S1.setC {x np e p W} (hx : F.names.lookup x = some .cell) (hsw : ∀ env, swapsWith e (some (.Name x np)) p.line env = pure false) (h : SE C n F vs e W) : S1 C n F (fun v => (x, v) :: vs) vs (.Assign [.Name x np] e p) (sSet W) := ⟨fun {fm M μ₀ s₀ μ vs' hp s QF E Kn Kr X} a fn hlow sst w k =>
  wpAny_Assign_Name (h.run a w (k.e sst fun w1 st1 sst1 R1 r1 => store_cell fn hx a.ok R1 r1 fun s2 R2 S2 => k.nx w1 (sst1.step S2) R2 (Sub.app (A := [(x, _)]) a.sub fun y => lookup_set_cons _ x y _))) (hsw _)⟩

theorem S1.attr {x y np ap e p W U} (G : GOK C) (hy : isField y = true) (h : SE C n F vs e W) (hu : SE C n F vs (.Name x np) U) : S1 C n F (fun _ : Unit => vs) vs (.Assign [.Attribute (.Name x np) y ap] e p) (sAttr y W U) := ⟨fun {fm M μ₀ s₀ μ vs' hp s QF E Kn Kr X} a fn hlow sst w k => by
  rw [plainObj_exec_Assign_Attribute _ _ _ _ _ notAttr]
  refine wpAny_bind (wpAny_standAt (wpAny_bind (h.run a w (k.e sst fun {v hp1 s1 μ1 val} w1 _ st1 R1 r1 => ?_))))
  rw [assign_Attribute]
  refine wpAny_bind (wpAny_bind (wpAny_holding (hu.run (a.to R1) w1 (k.e st1 fun {u hp2 s2 μ2 val2} w2 S2 st2 R2 r2 => ?_))))
  obtain ⟨hp0, c, _, e1, e2, w3⟩ := w2
  obtain ⟨cn, f, e3, w4⟩ := w3.inv
  obtain ⟨pl, hcc, w5⟩ := w4.inv
  obtain ⟨ad, fp, rfl, hμ, cr, hset⟩ := last_ref R2 r2 e1 e2
  refine wpAny_bind (wpAny_standAt (wpAny_bind (wpAny_holding ?_)))
  refine setAttr_sound G a.ok R2 hμ (e3 ▸ cr) (hset _) hcc.1 hy hcc.2 (S2.vr r1) pl fun s3 R3 S3 => ?_
  exact wpAny_release (wpAny_pure (k.nx w5 (st2.step S3) R3 a.sub))⟩

theorem S1.itemL {x i np ip e p W U I} (h : SE C n F vs e W) (hu : SE C n F vs (.Name x np) U) (hi : SE C n F vs i I) : S1 C n F (fun _ : Unit => vs) vs (.Assign [.Subscript (.Name x np) i ip] e p) (sItemL W U I) := ⟨fun {fm M μ₀ s₀ μ vs' hp s QF E Kn Kr X} a fn hlow sst w k => by
  refine wpAny_Assign_Subscript (h.run a w (k.e sst fun {v hp1 s1 μ1 val} w1 _ st1 R1 r1 => hu.run (a.to R1) w1 (k.e st1 fun {u hp2 s2 μ2 val2} w2 S2 st2 R2 r2 => hi.run (a.to R2) w2 (k.e st2 fun {q hp3 s3 μ3 val3} w3 S3 st3 R3 r3 => ?_)))) notItem
  obtain ⟨hp0, c, _, e1, e2, w4⟩ := w3
  obtain ⟨l, e3, w5⟩ := w4.inv
  obtain ⟨j, rfl, w6⟩ := w5.inv
  obtain ⟨pl, hl, m, hm, w7⟩ := w6.inv
  obtain ⟨t, rfl⟩ : ∃ t, val3 = .int j t := r3.inv
  obtain ⟨ad, fp, rfl, hμ, cr, hset⟩ := last_ref R3 (S3.vr r2) e1 e2
  exact setList_sound a.ok R3 hμ (e3 ▸ cr) (hset _) hl hm ((S2.trans S3).vr r1) pl fun s4 R4 S4 => k.nx w7 (st3.step S4) R4 a.sub⟩

theorem S1.itemD {x i np ip e p W U I} (h : SE C n F vs e W) (hu : SE C n F vs (.Name x np) U) (hi : SE C n F vs i I) : S1 C n F (fun _ : Unit => vs) vs (.Assign [.Subscript (.Name x np) i ip] e p) (sItemD W U I) := ⟨fun {fm M μ₀ s₀ μ vs' hp s QF E Kn Kr X} a fn hlow sst w k => by
  refine wpAny_Assign_Subscript (h.run a w (k.e sst fun {v hp1 s1 μ1 val} w1 _ st1 R1 r1 => hu.run (a.to R1) w1 (k.e st1 fun {u hp2 s2 μ2 val2} w2 S2 st2 R2 r2 => hi.run (a.to R2) w2 (k.e st2 fun {q hp3 s3 μ3 val3} w3 S3 st3 R3 r3 => ?_)))) notItem
  obtain ⟨hp0, c, _, e1, e2, w4⟩ := w3
  obtain ⟨l, e3, w5⟩ := w4.inv
  obtain ⟨j, rfl, w6⟩ := w5.inv
  obtain ⟨m, e4, hl, w7⟩ := w6.inv
  obtain ⟨t, rfl⟩ : ∃ t, val3 = .int j t := r3.inv
  obtain ⟨u, rfl⟩ : ∃ t, val = .int m t := (e4 ▸ r1 : VR C s1.heap μ1 (fm.D μ1) (.int m) val).inv
  obtain ⟨ad, fp, rfl, hμ, cr, hset⟩ := last_ref R3 (S3.vr r2) e1 e2
  exact setDict_sound a.ok R3 hμ (e3 ▸ cr) (hset _) hl fun s4 R4 S4 => k.nx w7 (st3.step S4) R4 a.sub⟩

end

section
variable {C : Cx} {F : Frm} {fm : Fm} {μ μ' μ₀ : Mu} {vs vs' : Vars} {hp hp' : List V} {s s' s₀ : Shared} {A : Around} {Q : Value → Shared → Prop} {QB : Bool → Shared → Prop} {QL : List Value → Shared → Prop} {QF : Flow → Shared → Prop} {E : Value → Shared → Prop} {n : Nat} {M : List Addr}

noncomputable def eNewL (a : WL) : WP := fun hp K X => a hp (fun l hp1 => guard (allPlain l && Nat.ble l.length 1000) (K (.ref hp1.length) (hp1 ++ [V.list l]))) X
noncomputable def eNewD : WP := fun hp K _ => K (.ref hp.length) (hp ++ [V.dict []])
theorem SE.newL {es p W} (h : SA C n F vs es W) : SE C n F vs (.List es p) (eNewL W) := ⟨fun {fm μ vs' hp s Q E K X} a w k => by
  rw [arm_eval_List]
  refine wpAny_bind (wpAny_standAt (wpAny_bind (h.run _ a w ⟨fun {l hp1} w1 s1 μ1 vals st1 R1 rs => ?_, k.ex⟩)))
  obtain ⟨hg, w2⟩ := w1.inv
  obtain ⟨pl, hl⟩ := Bool.and_eq_true_iff.mp hg
  have hl := Nat.le_of_ble_eq_true hl
  have len := rs.length
  refine wpAny_newList ?_ (by rw [sizeLine_eq]; omega)
  have hk : ∀ b o, s1.heap.get? b = some o → (s1.heap.push ⟨.type "list", Option.none, .seq vals.toArray 0, #[]⟩).get? b = some o := fun b o e => Heap.get?_push_of_some _ e
  have cr : CR C (s1.heap.push ⟨.type "list", Option.none, .seq vals.toArray 0, #[]⟩) (μ1 ++ [(s1.heap.objs.size, [s1.heap.objs.size])]) (fm.D (μ1 ++ [(s1.heap.objs.size, [s1.heap.objs.size])])) (.list l) [s1.heap.objs.size] s1.heap.objs.size := by
    refine .list _ vals _ 0 (Heap.get?_push_size _ rfl) ?_ pl
    refine VRs.mono (h := s1.heap) (D := fm.D μ1) (fun b o _ e => hk b o e) (fun i x e => by rw [List.getElem?_append_left (List.getElem?_eq_some_iff.mp e).1]; exact e) (fun b hb => ?_) rs
    rcases mem_D.mp hb with q | q | q
    · exact .inl (mem_D.mpr (.inl q))
    · rw [muA_append] at q
      rcases List.mem_append.mp q with q | q
      · exact .inl (mem_D.mpr (.inr (.inl q)))
      · simp [muA] at q; exact .inr (heap_none (Nat.le_of_eq q.symm))
    · exact .inl (mem_D.mpr (.inr (.inr q)))
  obtain ⟨R2, S2⟩ := Rel.alloc (s' := { s1 with heap := s1.heap.push ⟨.type "list", Option.none, .seq vals.toArray 0, #[]⟩ }) a.ok R1 (a := s1.heap.objs.size) (fp := [s1.heap.objs.size]) (v := .list l) hk
    (fun b hb => Nat.le_of_eq (List.mem_singleton.mp hb).symm) (by simp) cr rfl
  refine k.ok w2 _ _ _ (st1.trans S2) R2 (.ref _ _ [s1.heap.objs.size] ?_)
  rw [R1.hps.1, List.getElem?_append_right (Nat.le_refl _), Nat.sub_self]; rfl⟩

theorem SE.newD {p} : SE C n F vs (.Dict [] [] p) eNewD := ⟨fun {fm μ vs' hp s Q E K X} a w k => by
  have R := a.R
  refine wpAny_Dict_empty ?_
  obtain ⟨o, ho, hd⟩ := Heap.dictOf_iff.mp (Heap.DictOf.new (knd := intKind C.prog C.w) s.heap)
  obtain ⟨R2, S2⟩ := Rel.alloc (s' := { s with heap := s.heap.push { cls := .type "dict", data := .dict #[] } }) a.ok R (a := s.heap.objs.size) (fp := [s.heap.objs.size]) (v := .dict []) (fun b o e => Heap.get?_push_of_some _ e)
    (fun b hb => Nat.le_of_eq (List.mem_singleton.mp hb).symm) (by simp) (.dict [] [] _ o (not_modules R) ho hd .nil) rfl
  refine k.ok w _ _ _ S2 R2 (.ref _ _ [s.heap.objs.size] ?_)
  rw [R.hps.1, List.getElem?_append_right (Nat.le_refl _), Nat.sub_self]; rfl⟩

noncomputable abbrev nameTs (xps : List (Str × Pos)) : List Expr := xps.map fun q => Expr.Name q.1 q.2
theorem swapped_spec {es : List Expr} {k k2} {tp p2 : Pos} {xps : List (Str × Pos)} {env : Env} (hf : foldOk es = true) (hns : (es.any fun | .Starred .. => true | _ => false) = false) :
    swappedStores [.Tuple (nameTs xps) k tp] (.Tuple es k2 p2) env = pure none ∨ swappedStores [.Tuple (nameTs xps) k tp] (.Tuple es k2 p2) env = pure (some (xps.map (·.1))) := by
  have key : ∀ l : Nat, ((nameTs xps).filterMap fun
    | .Name id pos => if env.kindOf id == some .local && pos.line == l then some id else none
    | _ => none).length = (nameTs xps).length → ((nameTs xps).filterMap fun
    | .Name id pos => if env.kindOf id == some .local && pos.line == l then some id else none
    | _ => none) = xps.map (·.1) := by
    intro l
    rw [List.filterMap_map, List.length_map]
    induction xps with
    | nil => exact fun _ => rfl
    | cons q xps ih =>
      obtain ⟨x, p⟩ := q
      have hle := List.length_filterMap_le ((fun e : Expr => match e with
        | .Name id pos => if env.kindOf id == some .local && pos.line == l then some id else none
        | _ => none) ∘ fun q : Str × Pos => Expr.Name q.1 q.2) xps
      rw [List.filterMap_cons]
      by_cases c : (env.kindOf x == some .local && p.line == l) = true
      · have e : ((fun e : Expr => match e with
          | .Name id pos => if env.kindOf id == some .local && pos.line == l then some id else none
          | _ => none) ∘ fun q : Str × Pos => Expr.Name q.1 q.2) (x, p) = some x := if_pos c
        rw [e]
        exact fun hl => congrArg (x :: ·) (ih (Nat.succ.inj hl))
      · have e : ((fun e : Expr => match e with
          | .Name id pos => if env.kindOf id == some .local && pos.line == l then some id else none
          | _ => none) ∘ fun q : Str × Pos => Expr.Name q.1 q.2) (x, p) = none := if_neg c
        rw [e]
        exact fun hl => absurd (Nat.le_trans (Nat.le_of_eq hl.symm) hle) (Nat.not_succ_le_self _)
  unfold swappedStores
  simp only [hns]
  split
  · exact .inl rfl
  · split
    · exact .inl rfl
    · split
      · exact .inl rfl
      · rename_i h3
        have hl := key (((nameTs xps).head?.map (·.pos.line)).getD 0) (by
          simp only [Bool.or_eq_true, bne_iff_ne, ne_eq, not_or, Decidable.not_not] at h3
          exact h3.1)
        split
        · exact .inl rfl
        · rename_i h4
          split
          · rename_i h5
            exfalso
            unfold foldOk at hf
            rw [Bool.or_eq_true, h5] at hf
            rcases hf with q | q
            · cases q
            · exact h4 q
          · right
            exact congrArg (fun z => (pure (some z) : Sem (Option (List Str)))) hl
theorem lookup_skip {x : Str} {B : Vars} : ∀ {A : Vars}, x ∉ A.map (·.1) → (A ++ B).lookup x = B.lookup x
  | [], _ => rfl
  | (z, u) :: A, h => by
    rw [List.map_cons, List.mem_cons, not_or] at h
    rw [List.cons_append, List.lookup_cons, beq_false_of_ne h.1]
    exact lookup_skip h.2
theorem lookup_rev {y : Str} : ∀ {A : Vars} {B : Vars}, (A.map (·.1)).Nodup → (A.reverse ++ B).lookup y = (A ++ B).lookup y
  | [], _, _ => rfl
  | (x, v) :: A, B, h => by
    obtain ⟨h1, h2⟩ := List.nodup_cons.mp h
    rw [List.reverse_cons, List.append_assoc]
    show (A.reverse ++ ((x, v) :: B)).lookup y = _
    rw [lookup_rev h2, List.cons_append, List.lookup_cons]
    by_cases q : y = x
    · rw [q, lookup_skip h1, List.lookup_cons, beq_self_eq_true]
    · rw [beq_false_of_ne q]
      exact lookup_app y _ _ (by rw [List.lookup_cons, beq_false_of_ne q]) A
theorem assignEach_names (env : Env) : ∀ xps : List (Str × Pos), assignEach (nameTs xps) env = (xps.map fun q => (q.1, fun env v => assign (.Name q.1 q.2) env v)).map fun p => (false, p.2 env)
  | [] => rfl
  | q :: r => congrArg ((false, assign (.Name q.1 q.2) env) :: ·) (assignEach_names env r)
theorem tup_sound {xps es c1 p1 c2 p2 p W} (hx : ∀ q ∈ xps, F.names.lookup q.1 = some .local) (hnd : (xps.map (·.1)).Nodup) (hfold : foldOk es = true) (hns : (es.any fun | .Starred .. => true | _ => false) = false) (hA : SA C n F vs es W) (at_ : At C n F vs fm μ vs' hp s) {K X} (w : W hp K X)
    (k : ∀ {l hp1 s1 μ1 vals}, K l hp1 → Step fm μ s μ1 s1 → Rel C fm μ1 vs' hp1 s1 → VRs C s1.heap μ1 (fm.D μ1) l vals → l.length = xps.length ∧ l.length ≤ 3 ∧ ∀ s2 vs2, Rel C fm μ1 vs2 hp1 s2 → Step fm μ1 s1 μ1 s2 → (∀ y, vs2.lookup y = (((xps.map (·.1)).zip l).reverse ++ vs').lookup y) → QF .next s2) (kx : X → ∀ x s', Fly C fm x s' → E x s') :
    wpAny C.M fm.A (PySem.exec (.Assign [.Tuple (nameTs xps) c1 p1] (.Tuple es c2 p2) p) fm.env) QF E s := by
  have ok := at_.ok
  rw [PyProof.Rows.exec_Assign]
  refine wpAny_bind (wpAny_standAt ?_)
  show wpAny _ _ ((pure false : Sem Bool) >>= _) _ _ _
  refine wpAny_bind (wpAny_pure ?_)
  rw [if_neg (by decide)]
  refine wpAny_bind ?_
  rw [arm_eval_Tuple]
  refine wpAny_bind (wpAny_standAt (wpAny_bind (hA.run _ at_ w ⟨fun {l hp1} w1 s1 μ1 vals st1 R1 rs => ?_, kx⟩)))
  obtain ⟨hl, h3, hk⟩ := k w1 st1 R1 rs
  have len := rs.length
  refine wpAny_newTuple ?_ (by rw [sizeLine_eq]; omega)
  obtain ⟨R2, S2⟩ := R1.push { cls := .type "tuple", data := .seq vals.toArray }
  have he : (s1.heap.push { cls := .type "tuple", data := .seq vals.toArray }).get? s1.heap.objs.size = some ⟨.type "tuple", none, .seq vals.toArray 0, #[]⟩ := Heap.get?_push_size _ rfl
  generalize s1.heap.push { cls := .type "tuple", data := .seq vals.toArray } = h2 at R2 S2 he ⊢
  have step : ∀ h', Heap.ExtBut h2.objs.size h2 h' → Rel C fm μ1 vs' hp1 { s1 with heap := h' } ∧ Step fm μ1 { s1 with heap := h2 } μ1 { s1 with heap := h' } :=
    fun h' hx => R2.keeps (s' := { s1 with heap := h' }) fun b o e => hx b o (Nat.ne_of_lt (Heap.lt_size e)) e
  have nostar : (assignEach (nameTs xps) fm.env).findIdx? (·.1) = none := by
    rw [assignEach_names, List.map_map]
    clear hk hl k hx hnd
    induction xps with
    | nil => rfl
    | cons p fs ih => rw [List.map_cons, List.findIdx?_cons, ih]; rfl
  rcases swapped_spec (k := c1) (k2 := c2) (tp := p1) (p2 := p2) (env := fm.env) (xps := xps) hfold hns with hw | hw
  · rw [hw]
    refine wpAny_bind (wpAny_pure ?_)
    show wpAny C.M fm.A (do assignAll (.ref s1.heap.objs.size) [assign (.Tuple (nameTs xps) c1 p1) fm.env]; pure .next) QF E _
    refine wpAny_bind ?_
    show wpAny C.M fm.A (standAt p1 >>= fun _ => unpack (.ref s1.heap.objs.size) (assignEach (nameTs xps) fm.env)) _ E _
    refine wpAny_bind (wpAny_standAt (wpAny_unpack_tuple ok.handled ⟨_, he, rfl, _, rfl⟩ (by rw [assignEach_names, List.length_map, List.length_map, List.size_toArray]; omega) nostar fun h' hx' => ?_))
    obtain ⟨R3, S3⟩ := step h' hx'
    rw [assignEach_names, List.map_map]
    refine stores (P := fun _ s' => wpAny C.M fm.A (pure Flow.next) QF E s') ok (xps.map fun q => (q.1, fun env v => assign (.Name q.1 q.2) env v)) (fun q hq => by obtain ⟨r, hr, rfl⟩ := List.mem_map.mp hq; exact sto_assign (store_local (hx r hr))) (by rw [List.length_map]; exact hl) (S3.vrs (S2.vrs rs)) R3 fun s4 vs4 R4 S4 e4 => wpAny_pure (hk s4 vs4 R4 ((S2.trans S3).trans S4) fun y => ?_)
    rw [e4, List.map_map]; rfl
  · obtain ⟨xs, exs⟩ : ∃ xs, xs = xps.map (·.1) := ⟨_, rfl⟩
    rw [← exs] at hw hnd hk
    rw [hw]
    refine wpAny_bind (wpAny_pure ?_)
    show wpAny C.M fm.A (do rule "assign.swapped-stores"; let items ← unpackItems (.ref s1.heap.objs.size) xs.length none; assignInOrder (xs.reverse.map fun n => bindName fm.env n) items.reverse; pure .next) QF E _
    have hlx : xs.length = l.length := by rw [exs, List.length_map, hl]
    have hxs : xs.length = vals.toArray.size := by rw [List.size_toArray, hlx, len]
    rw [hxs]
    refine wpAny_bind (wpAny_rule (wpAny_bind (unpackItems_tuple ok.handled ⟨_, he, rfl, _, rfl⟩ fun h' hx' => ?_)))
    obtain ⟨R3, S3⟩ := step h' hx'
    have hz : (xs.reverse.zip l.reverse).reverse = xs.zip l := by
      rw [List.zip, ← List.reverse_zipWith hlx, List.reverse_reverse]
    refine wpAny_bind ?_
    have := stores (P := fun _ s' => wpAny C.M fm.A (pure Flow.next) QF E s') (E := E) (A := fm.A) (s := { s1 with heap := h' }) ok (xs.reverse.map fun x => (x, fun env v => bindName env x v)) (fun q hq => by
      obtain ⟨r, hr, rfl⟩ := List.mem_map.mp hq
      rw [List.mem_reverse, exs] at hr
      obtain ⟨r', hr', rfl⟩ := List.mem_map.mp hr
      exact sto_bind (store_local (hx r' hr'))) (l := l.reverse) (by simp [hlx]) (S3.vrs (S2.vrs rs)).rev R3 fun s4 vs4 R4 S4 e4 => wpAny_pure (hk s4 vs4 R4 ((S2.trans S3).trans S4) fun y => ?_)
    · rw [List.map_map] at this; exact this
    · rw [e4, List.map_map]
      show (((xs.reverse.map id).zip l.reverse).reverse ++ vs').lookup y = _
      rw [List.map_id, hz]
      exact (lookup_rev (by rw [List.map_fst_zip (Nat.le_of_eq hlx)]; exact hnd)).symm
noncomputable def sTup2 (a : WL) : WS (V × V) := fun hp Kn _ X => a hp (fun l hp1 => match l with | [x, y] => Kn (x, y) hp1 | _ => False) X
noncomputable def sTup3 (a : WL) : WS (V × V × V) := fun hp Kn _ X => a hp (fun l hp1 => match l with | [x, y, z] => Kn (x, y, z) hp1 | _ => False) X
theorem S1.tup2 {x y px py es c1 p1 c2 p2 p W} (hx : F.names.lookup x = some .local) (hy : F.names.lookup y = some .local) (hne : x ≠ y) (hfold : foldOk es = true) (hns : (es.any fun | .Starred .. => true | _ => false) = false) (hA : SA C n F vs es W) :
    S1 C n F (fun b : V × V => [(y, b.2), (x, b.1)] ++ vs) vs (.Assign [.Tuple [.Name x px, .Name y py] c1 p1] (.Tuple es c2 p2) p) (sTup2 W) := ⟨fun {fm M μ₀ s₀ μ vs' hp s QF E Kn Kr X} a fn hlow sst w k =>
  tup_sound (xps := [(x, px), (y, py)]) (by simp only [List.forall_mem_cons]; exact ⟨hx, hy, by simp⟩) (by simp [hne]) hfold hns hA a w (fun {l hp1 s1 μ1 vals} w1 st1 R1 rs => match l, w1 with
    | [u, v], w1 => ⟨rfl, by simp, fun s2 vs2 R2 S2 e2 => k.nx w1 ((sst.step st1).step S2) R2 (Sub.app a.sub e2)⟩) fun hx x s' hf => k.ex hx x s' (.inl hf)⟩

theorem S1.tup3 {x y z px py pz es c1 p1 c2 p2 p W} (hx : F.names.lookup x = some .local) (hy : F.names.lookup y = some .local) (hz : F.names.lookup z = some .local) (hne : x ≠ y ∧ x ≠ z ∧ y ≠ z) (hfold : foldOk es = true) (hns : (es.any fun | .Starred .. => true | _ => false) = false) (hA : SA C n F vs es W) :
    S1 C n F (fun b : V × V × V => [(z, b.2.2), (y, b.2.1), (x, b.1)] ++ vs) vs (.Assign [.Tuple [.Name x px, .Name y py, .Name z pz] c1 p1] (.Tuple es c2 p2) p) (sTup3 W) := ⟨fun {fm M μ₀ s₀ μ vs' hp s QF E Kn Kr X} a fn hlow sst w k =>
  tup_sound (xps := [(x, px), (y, py), (z, pz)]) (by simp only [List.forall_mem_cons]; exact ⟨hx, hy, hz, by simp⟩) (by simp [hne.1, hne.2.1, hne.2.2]) hfold hns hA a w (fun {l hp1 s1 μ1 vals} w1 st1 R1 rs => match l, w1 with
    | [u, v, t], w1 => ⟨rfl, by simp, fun s2 vs2 R2 S2 e2 => k.nx w1 ((sst.step st1).step S2) R2 (Sub.app a.sub e2)⟩) fun hx x s' hf => k.ex hx x s' (.inl hf)⟩

noncomputable def sFreeze {α : Type} (low : Nat) (vals : List V) (c : V) (W : V → WS α) : WS α := fun hp Kn Kr X => ∃ hp0 u, hp = hp0 ++ [u] ∧ c = .ref hp0.length ∧ low ≤ hp0.length ∧ guard (allPlain vals) (W u hp0 Kn Kr X)
theorem frzV_plain {k : Nat} {v : V} (h : isPlainV v = true) : frzV k hp v = v := by cases v <;> first | rfl | exact Bool.noConfusion h
theorem SS.freeze {α : Type} {st : α → Vars} {x : Str} {c : V} {vs0 ss} {W : V → WS α} (h : ∀ u, SS C n F st ((x, u) :: vs0) ss (W u)) : SS C n F st ((x, c) :: vs0) ss (sFreeze F.low (vs0.map (·.2)) c W) := ⟨fun {fm M μ₀ s₀ μ vs' hp s QF E Kn Kr X} a fn hlow sst w k => by
  obtain ⟨hp0, u, rfl, rfl, hl, w⟩ := w
  obtain ⟨pl, w⟩ := w.inv
  have Rf := a.R.frz hp0.length
  rw [List.take_left] at Rf
  refine (h u).run ⟨a.ok, a.rm, fun y v e => ?_, Rf⟩ fn hlow (sst.frz (Nat.le_trans hlow hl)) w k
  rw [frzVars_lookup]
  rw [List.lookup_cons] at e
  cases q : y == x with
  | true =>
    rw [q] at e
    rw [eq_of_beq q, a.sub x (.ref hp0.length) (by rw [List.lookup_cons, beq_self_eq_true])]
    show some (frzV hp0.length (hp0 ++ [u]) (.ref hp0.length)) = _
    rw [show frzV hp0.length (hp0 ++ [u]) (.ref hp0.length) = (hp0 ++ [u]).getD hp0.length .none from if_neg (Nat.lt_irrefl _), List.getD, List.getElem?_append_right (Nat.le_refl _), Nat.sub_self]
    exact e
  | false =>
    rw [q] at e
    rw [a.sub y v (by rw [List.lookup_cons, q]; exact e)]
    exact congrArg some (frzV_plain (List.all_eq_true.mp pl v (List.mem_map.mpr ⟨_, mem_of_lookup e, rfl⟩)))⟩

end

section
variable {C : Cx} {F : Frm} {fm : Fm} {μ μ' μ₀ : Mu} {vs vs' : Vars} {hp hp' : List V} {s s' s₀ : Shared} {A : Around} {Q : Value → Shared → Prop} {QB : Bool → Shared → Prop} {QL : List Value → Shared → Prop} {QF : Flow → Shared → Prop} {E : Value → Shared → Prop} {n : Nat} {M : List Addr}

theorem closure_spec {sc : Scope} {env : Env} (h : ∀ p ∈ sc.names, p.2 = .free → ∃ a, env.cells.lookup p.1 = some a) :
    ∃ cl, closureFor sc env = pure cl ∧ ∀ x, sc.names.lookup x = some .free → cl.lookup x = env.cells.lookup x := by
  unfold closureFor
  dsimp only
  have key : ∀ (names : List (Str × NameKind)) (cs : List (Str × Addr)), (∀ p ∈ names, p.2 = .free → ∃ a, env.cells.lookup p.1 = some a) → (∀ x a, cs.lookup x = some a → env.cells.lookup x = some a) →
      ∃ cl, (forIn names cs fun (x : Str × NameKind) (r : List (Str × Addr)) => match x with
        | (name, kind) => if (kind == NameKind.free) = true then do let a ← cellOf env name; pure (ForInStep.yield ((name, a) :: r)) else pure (ForInStep.yield r)) = (pure cl : Sem (List (Str × Addr))) ∧
        (∀ x a, cl.lookup x = some a → env.cells.lookup x = some a) ∧ (∀ x, cs.lookup x ≠ none → cl.lookup x ≠ none) ∧ ∀ p ∈ names, p.2 = .free → cl.lookup p.1 ≠ none := by
    intro names
    induction names with
    | nil => intro cs h1 h2; exact ⟨cs, rfl, h2, fun _ h => h, fun p hp => by simp at hp⟩
    | cons p names ih =>
      intro cs h1 h2
      obtain ⟨name, kind⟩ := p
      rw [List.forIn_cons]
      by_cases hk : (kind == NameKind.free) = true
      · obtain ⟨a, ha⟩ := h1 (name, kind) (List.mem_cons_self ..) (eq_of_beq hk)
        obtain ⟨cl, e, i1, i2, i3⟩ := ih ((name, a) :: cs) (fun p hp => h1 p (List.mem_cons_of_mem _ hp)) (fun x b hb => by
          simp only [List.lookup_cons] at hb
          split at hb
          · rename_i q; have := eq_of_beq q; subst this; cases hb; exact ha
          · exact h2 x b hb)
        refine ⟨cl, ?_, i1, fun x hx => i2 x ?_, fun p hp hf => ?_⟩
        · rw [← e]
          simp only [hk, if_true]
          unfold cellOf
          rw [ha]
          rfl
        · simp only [List.lookup_cons]
          split
          · simp
          · exact hx
        · rcases List.mem_cons.mp hp with q | q
          · subst q; exact i2 name (by simp)
          · exact i3 p q hf
      · obtain ⟨cl, e, i1, i2, i3⟩ := ih cs (fun p hp => h1 p (List.mem_cons_of_mem _ hp)) h2
        refine ⟨cl, ?_, i1, i2, fun p hp hf => ?_⟩
        · rw [← e]
          simp only [hk]
          rfl
        · rcases List.mem_cons.mp hp with q | q
          · subst q; exact absurd (by rw [show kind = NameKind.free from hf]; rfl) hk
          · exact i3 p q hf
  obtain ⟨cl, e, i1, _, i3⟩ := key sc.names [] h (by simp)
  refine ⟨cl, ?_, fun x hx => ?_⟩
  · exact (congrArg (fun m : Sem (List (Str × Addr)) => m >>= fun r => pure r) e).trans rfl
  · have hm := mem_of_lookup hx
    cases q : cl.lookup x with
    | none => exact absurd q (i3 _ hm rfl)
    | some a => exact (i1 x a q).symm
/-- an exception is noted in the frame where it flies -/
theorem note_sound {env : Env} (hA : fm.A.frames = some (fm.fenv :: fm.outer)) (hf : fm.fenv.frame = some fm.L) (he : env.frame = some fm.L) {x : Value} {P : Value → Shared → Prop} (h : Fly C fm x s) (k : ∀ s', Fly C fm x s' → P x s') : notedBy C.M fm.A env P x s := by
  have en : noteFrame x env = noteFrame x fm.fenv := by unfold noteFrame PySem.frameOf; rw [he, hf]
  unfold notedBy
  rw [en]
  obtain ⟨e, cls, rfl, hc, ⟨f1, f2, f3, oe, vs, T, oT, ts, t3, g1, g2, g3, g4, g5, g6, g7, g8, g9, g10⟩, z1, z2, z3⟩ := h
  rcases g10 with rfl | rfl
  · have h0 : ∃ a0, vs[0]? = some a0 := by
      have : 1 < vs.size := (Array.getElem?_eq_some_iff.mp g4).1
      exact ⟨vs[0], Array.getElem?_eq_getElem (by omega)⟩
    obtain ⟨a0, h0⟩ := h0
    refine wpAny_noteFrame_onW hA f3 hf ⟨oe, vs, T, oT, ts, g1, ⟨g2, h0⟩, g3, g4, g5, g6, g7, g8, g9⟩ f1 f2 fun h' ⟨k1, k2, k3, k4⟩ => k _ ?_
    obtain ⟨oe', vs', T', oT', ts', y1, y2, y3, y4, y5, y6, y7, y8, y9⟩ := k3
    exact ⟨e, cls, rfl, hc, ⟨k1, f2, k2, oe', vs', T', oT', ts', _, y1, y2.1, y3, y4, y5, y6, y7, y8, y9, .inr rfl⟩, z1, z2, fun a ha => let ⟨m, n⟩ := z3 a ha; ⟨m, Heap.UpToSlots.ns k4 n⟩⟩
  · exact wpAny_noteFrame_inFlight hf g1 g3 g4 g7 g8 g9 (k _ ⟨e, cls, rfl, hc, ⟨f1, f2, f3, oe, vs, T, oT, ts, _, g1, g2, g3, g4, g5, g6, g7, g8, g9, .inr rfl⟩, z1, z2, z3⟩)

/-- and goes on from a comprehension -/
theorem pass_sound {fc : Fm} {what : String} {env : Env} (he : env.frame = some fm.L) (e1 : fc.fenv = fm.fenv) (e2 : fc.outer = fm.outer) {c : Addr} (hc : C.base.get? c = none) (hfr : ∀ e ∈ fm.fenv :: fm.outer, ∀ L, e.frame = some L → L ≠ c) (hns : ∀ a ∈ fm.nss, a ≠ c ∧ a ∈ fc.nss)
    {x : Value} {h' : Heap} (h : Fly C fc x s) (hn : ∃ m, s.heap.Ns c m) (hs : Heap.SameBut c s.heap h') (k : ∀ s', Fly C fm x s' → E x s') : wpAny C.M A (passOn what x env : Sem Value) (fun _ _ => False) E { s with heap := h' } := by
  obtain ⟨e, cls, rfl, hcl, ⟨f1, f2, f3, oe, vs, T, oT, ts, t3, g1, g2, g3, g4, g5, g6, g7, g8, g9, g10⟩, z1, z2, z3⟩ := h
  rw [e1, e2] at f3
  obtain ⟨m, oc, es, ep, n1, n2, _⟩ := hn
  have ne : e ≠ c := fun q => by rw [q, n1] at g1; cases g1; rw [n2] at g3; cases g3
  have nT : T ≠ c := fun q => by rw [q, n1] at g7; cases g7; rw [n2] at g8; cases g8
  have k1 : h'.get? e = some oe := hs.extBut e oe ne g1
  have k7 : h'.get? T = some oT := hs.extBut T oT nT g7
  have hsz3 : 3 < ts.size := (Array.getElem?_eq_some_iff.mp g9).1
  unfold PySem.passOn
  refine wpAny_bind (wpAny_field k1 g3 g4 ?_)
  rw [if_neg (show ¬ (Value.ref T == Value.none) = true from by simp)]
  unfold setFlight
  refine wpAny_bind (wpAny_bind (wpAny_field k1 g3 g4 ?_))
  rw [if_pos (show (Value.ref T != Value.none) = true from by simp)]
  refine wpAny_setField k7 g8 hsz3 ?_
  rw [he]
  show wpAny _ _ (throw (.ref e)) _ _ _
  have other : ∀ b, b ≠ T → (h'.update T (Obj.mapFields (·.setIfInBounds 3 (rawInt fm.L)))).get? b = h'.get? b := fun b hb => Heap.get?_update_other _ _ (Ne.symm hb)
  have keep : ∀ b o, b ≠ c → s.heap.get? b = some o → (∀ vs, o.data ≠ .fields vs) → (h'.update T (Obj.mapFields (·.setIfInBounds 3 (rawInt fm.L)))).get? b = some o := fun b o hb eb hnf =>
    (other b fun q => by rw [q, g7] at eb; injection eb with eb; subst eb; exact hnf ts g8).trans (hs.extBut b o hb eb)
  refine wpAny_throw (k _ ⟨e, cls, rfl, hcl, ⟨fun b o hbo => ?_, f2, ?_, oe, vs, T, _, _, _, (other e (Ne.symm g6)).trans k1, g2, g3, g4, g5, g6, Heap.get?_update_self _ k7 (Obj.isFreed_of_fields (Obj.data_mapFields g8 _)), Obj.data_mapFields g8 _, by simp [hsz3], .inr rfl⟩, z1, z2, fun a ha => ?_⟩)
  · exact (other b fun q => by rw [q, g5] at hbo; cases hbo).trans (hs.extBut b o (fun q => by rw [q, hc] at hbo; cases hbo) (f1 b o hbo))
  · exact FunFrames.change f3 fun L ⟨e', he', hf'⟩ o eo hnf => ⟨o, keep L o (hfr e' he' L hf') eo hnf, hnf⟩
  · obtain ⟨q1, q2⟩ := hns a ha
    obtain ⟨m, n⟩ := z3 a q2
    obtain ⟨o, es', ep', y1, y2, y3⟩ := n
    exact ⟨m, o, es', ep', keep a o q1 y1 (fun vs q => by rw [y2] at q; cases q), y2, y3⟩

/-- what a comprehension leaves -/
noncomputable def compEnd (M : Model) (A : Around) (E : Value → Shared → Prop) (use : Option (Value → Sem Unit)) (Q : Value → Shared → Prop) (acc : Value) (cenv : Env) (r : Result) (s' : Shared) : Prop :=
  match r, use with
  | .ok _, none => ∃ m, s'.heap.Ns cenv.locals m ∧ ∀ h', Heap.SameBut cenv.locals s'.heap h' → Q acc { s' with heap := h' }
  | .ok _, some u => wpAny M A (u acc) (fun _ s'' => ∃ m, s''.heap.Ns cenv.locals m ∧ ∀ h', Heap.SameBut cenv.locals s''.heap h' → Q .none { s'' with heap := h' }) E s'
  | .error x, _ => ∃ m, s'.heap.Ns cenv.locals m ∧ ∀ h', Heap.SameBut cenv.locals s'.heap h' → wpAny M A (passOn "comprehension.variables-let-go" x cenv : Sem Value) (fun _ _ => False) E { s' with heap := h' }

theorem comp_rule {M : Model} {env : Env} {e : Expr} {scope : Scope} {pos : Pos} {newAcc first : Sem Value} {g : Comprehension} {gs : List Comprehension} {cl : List (Str × Addr)} {use : Option (Value → Sem Unit)}
    (hcl : clausesOf e = g :: gs) (hs : ∀ x, foldedSetIterable g.iter env x = pure x) (hclos : closureFor scope env = pure cl)
    (hkind : scope.kind = .function) (hnames : ∀ x ∈ scope.names, x.2 = .local → scope.names.lookup x.1 = some .local)
    (h : wpAny M A first (fun x s₁ => wpAny M A (pyIter x) (fun it s₂ => wpAny M A newAcc (fun acc s₃ =>
      wpAny M A (newFunctionEnv scope env.globals cl [] env.qual none .none (some env)) (fun cenv s₄ =>
        codeAny M A (.compStart e 0 it acc { cenv with scope := relabel scope env }) (compEnd M A E use Q acc { cenv with scope := relabel scope env }) s₄) E s₃) E s₂) E s₁) E s) :
    wpAny M A (comprehension e scope env pos newAcc false first use) Q E s := by
  unfold comprehension
  rw [hclos, hcl]
  refine wpAny_bind (wpAny_mono h (fun x s₁ h₁ => ?_) fun _ _ z => z)
  refine wpAny_bind (wpAny_standAt (wpAny_bind (wpAny_of_eq (hs x) (wpAny_bind (wpAny_holding (wpAny_mono h₁ (fun it s₂ h₂ => ?_) fun _ _ z => z))))))
  refine wpAny_standIf (wpAny_bind (wpAny_mono h₂ (fun acc s₃ h₃ => ?_) fun _ _ z => z))
  refine wpAny_bind (wpAny_pure (wpAny_bind (wpAny_mono h₃ (fun cenv s₄ h₄ => ?_) fun _ _ z => z)))
  dsimp only
  have hv : ∀ l : List (Str × NameKind), (∀ y ∈ l, y ∈ scope.names) → ∀ y ∈ l, y.2 = .local → Env.kindOf { cenv with scope := relabel scope env } y.1 = some .local := fun l hl y hy hk =>
    lookup_relabel_local (hnames y (hl y hy) hk)
  have sub : ∀ y ∈ (scope.names.filter fun x => (x.2 == .local || x.2 == .cell) && x.1 != (".0" : Str)).reverse, y ∈ scope.names := fun y hy => (List.mem_filter.mp (List.mem_reverse.mp hy)).1
  refine wpAny_holding (wpAny_bind (wpAny_attempt (wpAny_holding (wpAny_run (codeAny_mono h₄ fun r s' hr => ?_)))))
  cases r with
  | ok f =>
    cases use with
    | none =>
      obtain ⟨m, hn, hr⟩ := hr
      exact wpAny_bind (wpAny_holding (wpAny_comp_letGo (cenv := { cenv with scope := relabel scope env }) hkind _ s' m (hv _ sub) hn fun h' _ _ hs' => wpAny_pure (hr h' hs')))
    | some u =>
      refine wpAny_bind (wpAny_rule (wpAny_bind (wpAny_holding (wpAny_mono hr (fun _ s'' hr' => ?_) fun _ _ z => z))))
      obtain ⟨m, hn, hr'⟩ := hr'
      refine wpAny_bind (wpAny_comp_letGo (cenv := { cenv with scope := relabel scope env }) hkind _ s'' m (hv _ fun y hy => ?_) hn fun h' _ _ hs' => wpAny_pure (hr' h' hs'))
      rcases List.mem_append.mp hy with q | q
      · exact sub y (List.mem_of_mem_drop q)
      · exact sub y (List.mem_of_mem_take q)
  | error x =>
    have hr' : ∃ m, s'.heap.Ns cenv.locals m ∧ ∀ h', Heap.SameBut cenv.locals s'.heap h' → wpAny M A (passOn "comprehension.variables-let-go" x { cenv with scope := relabel scope env } : Sem Value) (fun _ _ => False) E { s' with heap := h' } := by
      cases use <;> exact hr
    obtain ⟨m, hn, hr'⟩ := hr'
    exact wpAny_bind (wpAny_holding (wpAny_comp_letGo (cenv := { cenv with scope := relabel scope env }) hkind _ s' m (hv _ sub) hn fun h' _ _ hs' => wpAny_mono (hr' h' hs') (fun _ _ f => f.elim) fun _ _ z => z))

theorem compLoop_rule {prog : Program} {w : World} {R : Result → Shared → Prop} {elt target iter : Expr} {ifs : List Expr} {scope : Scope} {pos : Pos} {it acc : Value} {env : Env} (I : Nat → Shared → Prop) {E1 : Value → Shared → Prop} (hE1 : E1 = notedBy (model prog w) A env fun e s' => R (.error e) s')
    (turn : ∀ n s, I n s → wpAny (model prog w) A (pyNext it) (fun r s₁ => match r with
      | none => R (.ok .next) s₁
      | some v => wpAny (model prog w) A (letOwnedTupleGo target it v) (fun _ s₁' => wpAny (model prog w) A (assign target env v) (fun _ s₂ =>
          wpAny (model prog w) A (forIn ifs true fun c r => if r = true then do let ok ← isTrue c env (eval c env); pure (ForInStep.yield ok) else pure (ForInStep.yield r)) (fun ok s₃ =>
            if ok = true then wpAny (model prog w) A (eval elt env) (fun x s₄ =>
              wpAny (model prog w) A (call (.builtin "list.append") [acc, x]) (fun _ s₅ => ∃ m, m < n ∧ I m s₅) E1 s₄) E1 s₃
            else ∃ m, m < n ∧ I m s₃) E1 s₂) E1 s₁') E1 s₁) E1 s)
    (n : Nat) (h : I n s) : codeAny (model prog w) A (.compLoop (.ListComp elt [⟨target, iter, ifs, 0⟩] scope pos) 0 it acc env) R s := by
  subst hE1
  refine codeAny_loop rfl I (fun n s hI => ?_) n h
  show wpAny _ A ((compTurn (.ListComp elt [⟨target, iter, ifs, 0⟩] scope pos) 0 it acc env).onRaise (fun x => do noteFrame x env; theTreesLotGoes x)) _ _ s
  refine wpAny_noted ?_
  rw [compTurn_list]
  refine wpAny_bind (wpAny_standAt (wpAny_bind (wpAny_mono (turn n s hI) (fun r s₁ h₁ => ?_) fun _ _ h' => h')))
  cases r with
  | none => exact wpAny_pure h₁
  | some v =>
    refine wpAny_bind (wpAny_mono h₁ (fun _ s₁' h₁' => wpAny_bind (wpAny_mono h₁' (fun _ s₂ h₂ => wpAny_bind (wpAny_mono h₂ (fun ok s₃ h₃ => ?_) fun _ _ h' => h')) fun _ _ h' => h')) fun _ _ h' => h')
    cases ok with
    | false => exact wpAny_pure ⟨rfl, h₃⟩
    | true =>
      refine wpAny_bind (wpAny_bind (wpAny_mono h₃ (fun x s₄ h₄ => ?_) fun _ _ h' => h'))
      exact wpAny_bind (wpAny_mono h₄ (fun _ s₅ h₅ => wpAny_pure (wpAny_pure ⟨rfl, h₅⟩)) fun _ _ h' => h')

theorem tests_false {M : Model} {env : Env} : ∀ (es : List Expr) {s : Shared} {P : Bool → Shared → Prop}, P false s →
    wpAny M A (forIn es false fun c r => if r = true then do let ok ← isTrue c env (eval c env); pure (ForInStep.yield ok) else pure (ForInStep.yield r)) P E s
  | [], s, P, h => wpAny_pure h
  | e :: es, s, P, h => by
    rw [List.forIn_cons]
    exact wpAny_bind (wpAny_pure (tests_false es h))
/-- the frame of a comprehension -/
noncomputable def fmC (fm : Fm) (sc : Scope) (cl : List (Str × Addr)) (c : Addr) : Fm :=
  { env := compEnvC sc cl c fm.env, A := fm.A, fenv := fm.fenv, outer := fm.outer, L := fm.L, own := [c], prot := fm.own ++ fm.prot, nss := c :: fm.nss }

theorem Rel.lessP {Is Is' : List Addr} (R : Rel C (fm.withP Is) μ vs hp s) (hc : CellsIn fm) (sb : ∀ b ∈ Is', b ∈ Is) (nd : Is'.Nodup) : Rel C (fm.withP Is') μ vs hp s := by
  obtain ⟨x1, x2, x3⟩ := ndP.mp R.nd
  have sub : ∀ b ∈ (fm.withP Is').D μ, b ∈ (fm.withP Is).D μ := fun b hb => by
    rcases mem_DP.mp hb with q | q
    · exact mem_DP.mpr (.inl (sb b q))
    · exact mem_DP.mpr (.inr q)
  have vr : ∀ {v : V} {x : Value}, VR C s.heap μ ((fm.withP Is).D μ) v x → VR C s.heap μ ((fm.withP Is').D μ) v x := fun r => VR.mono (fun b o _ e => e) (fun _ _ e => e) (fun b hb => .inl (sub b hb)) r
  have up : ∀ b, b ∈ fm.own ++ fm.prot → b ∈ (fm.withP Is').own ++ (fm.withP Is').prot := fun b hb => by
    rcases List.mem_append.mp hb with q | q
    · exact List.mem_append_left _ q
    · exact List.mem_append_right _ (List.mem_append_right _ q)
  refine ⟨R.base, R.ff, ndP.mpr ⟨nd, x2, fun b hb => x3 b (sb b hb)⟩, fun b hb => R.fr b (sub b hb), ?_, fun x hx => ?_, ⟨R.hps.1, fun i v e => ?_⟩, R.gens, R.os, R.above, fun a ha => ⟨up a (hc.2 a ha), (R.nss a ha).2⟩⟩
  · obtain ⟨m, hn, hm⟩ := R.ns
    exact ⟨m, hn, fun x v e hk => let ⟨val, a, b⟩ := hm x v e hk; ⟨val, a, vr b⟩⟩
  · obtain ⟨c, o, a, b, d, e⟩ := R.cel x hx
    exact ⟨c, o, a, b, ⟨up c (hc.1 x hx c a), d.2⟩, fun v hv => let ⟨val, p, q⟩ := e v hv; ⟨val, p, vr q⟩⟩
  · obtain ⟨a, fp, e1, e2, e3⟩ := R.hps.2 i v e
    exact ⟨a, fp, e1, CR.mono (fun b o _ e => e) (fun _ _ e => e) (fun b hb => .inl (sub b hb)) e2 (fun b _ o e => e), e3⟩

theorem fmC_D {sc : Scope} {cl : List (Str × Addr)} {c : Addr} {Is : List Addr} {b : Addr} : b ∈ ((fmC fm sc cl c).withP Is).D μ ↔ b = c ∨ b ∈ Is ∨ b ∈ fm.D μ := by
  rw [mem_DP]
  simp only [mem_D, fmC, List.mem_singleton, List.mem_append]
  constructor
  · rintro (q | q | q | q | q)
    · exact .inr (.inl q)
    · exact .inl q
    · exact .inr (.inr (.inr (.inl q)))
    · exact .inr (.inr (.inl q))
    · exact .inr (.inr (.inr (.inr q)))
  · rintro (q | q | q | q | q)
    · exact .inr (.inl q)
    · exact .inl q
    · exact .inr (.inr (.inr (.inl q)))
    · exact .inr (.inr (.inl q))
    · exact .inr (.inr (.inr (.inr q)))

theorem fmC_nd {sc : Scope} {cl : List (Str × Addr)} {c : Addr} {Is : List Addr} : (((fmC fm sc cl c).withP Is).D μ).Nodup ↔ ((fm.withP (c :: Is)).D μ).Nodup := by
  refine List.Perm.nodup_iff (List.perm_iff_count.mpr fun a => ?_)
  show List.count a ([c] ++ muA μ ++ (Is ++ (fm.own ++ fm.prot))) = List.count a (fm.own ++ muA μ ++ ((c :: Is) ++ fm.prot))
  simp only [List.count_append, List.count_cons, List.count_nil]
  omega

theorem cap_lookup {names : List (Str × NameKind)} {vs : Vars} {x : Str} {v : V} (h : (capV names vs).lookup x = some v) : names.lookup x = some .free ∧ vs.lookup x = some v := by
  unfold capV at h
  induction vs with
  | nil => simp at h
  | cons p vs ih =>
    obtain ⟨y, u⟩ := p
    rw [List.filter_cons] at h
    by_cases q : (x == y) = true
    · have := eq_of_beq q
      subst this
      split at h
      · rename_i k
        simp only [List.lookup_cons, beq_self_eq_true] at h ⊢
        exact ⟨eq_of_beq k, h⟩
      · rename_i k
        have := (ih h).1
        simp only [this, beq_self_eq_true, not_true] at k
    · have q' : (x == y) = false := by simpa using q
      split at h
      · simp only [List.lookup_cons, q'] at h ⊢
        exact ih h
      · simp only [List.lookup_cons, q'] at h ⊢
        exact ih h

theorem rel_lookup {P N : List (Str × NameKind)} {x : Str} : (relNames P N).lookup x = (N.lookup x).map fun k => if (k == .free && P.lookup x == some .cell) then .cell else k := by
  unfold relNames
  induction N with
  | nil => rfl
  | cons p N ih =>
    obtain ⟨y, k⟩ := p
    rw [List.map_cons]
    dsimp only
    cases q : x == y with
    | true =>
      have := eq_of_beq q
      subst this
      by_cases hc : (k == .free && P.lookup x == some .cell) = true
      · rw [if_pos hc]; simp only [List.lookup_cons, beq_self_eq_true, Option.map_some]; rw [if_pos hc]
      · rw [if_neg hc]; simp only [List.lookup_cons, beq_self_eq_true, Option.map_some]; rw [if_neg hc]
    | false =>
      by_cases hc : (k == .free && P.lookup y == some .cell) = true
      · rw [if_pos hc]; simp only [List.lookup_cons, q]; exact ih
      · rw [if_neg hc]; simp only [List.lookup_cons, q]; exact ih

theorem compNames_spec {P N : List (Str × NameKind)} (h : compNamesOk P N = true) {x : Str} {k : NameKind} (e : (x, k) ∈ N) : x ≠ ("__debug__" : Str) ∧ x ≠ ("__classdict__" : Str) ∧ k ≠ .cell ∧ (k = .local → N.lookup x = some .local) ∧ (k = .free → P.lookup x = some .cell ∨ P.lookup x = some .free) := by
  have := List.all_eq_true.mp h (x, k) e
  simp only [Bool.and_eq_true, bne_iff_ne, Bool.or_eq_true, beq_iff_eq] at this
  obtain ⟨⟨h1, h2⟩, h3⟩ := this
  refine ⟨h1, h2, ?_, ?_, ?_⟩
  · rintro rfl
    rcases h3 with (⟨q, _⟩ | ⟨q, _⟩) | q <;> cases q
  · rintro rfl
    rcases h3 with (⟨_, q⟩ | ⟨q, _⟩) | q
    · exact q
    · cases q
    · cases q
  · rintro rfl
    rcases h3 with (⟨q, _⟩ | ⟨_, q⟩) | q
    · cases q
    · exact q
    · cases q

theorem relabel_names (ok : FmOk F fm) (sc : Scope) : (relabel sc fm.env).names = relNames F.names sc.names := by
  unfold relabel relNames
  dsimp only
  refine List.map_congr_left fun p _ => ?_
  obtain ⟨n, k⟩ := p
  dsimp only
  rw [ok.kind]
  have : fm.env.kindOf n = F.names.lookup n := by show fm.env.scope.names.lookup n = _; rw [ok.names]
  rw [this]
  simp

theorem FmOk.comp (ok : FmOk F fm) {sc : Scope} {cl : List (Str × Addr)} {c : Addr} (hk : sc.kind = .function) (hn : compNamesOk F.names sc.names = true) : FmOk ⟨relNames F.names sc.names, false, 0⟩ (fmC fm sc cl c) where
  kind := hk
  names := relabel_names ok sc
  fkind := ok.fkind
  frames := ok.frames
  handled := ok.handled
  frame := ok.frame
  fframe := ok.fframe
  glob := ok.glob
  blt := ok.blt
  loc := List.mem_singleton.mpr rfl
  fin := fun e he L hL => List.mem_append_right _ (ok.fin e he L hL)
  nodbg := by
    rw [rel_lookup]
    cases q : sc.names.lookup ("__debug__" : Str) with
    | none => rfl
    | some k => exact absurd rfl (compNames_spec hn (mem_of_lookup q)).1
  noclsd := by
    rw [rel_lookup]
    cases q : sc.names.lookup ("__classdict__" : Str) with
    | none => rfl
    | some k => exact absurd rfl (compNames_spec hn (mem_of_lookup q)).2.1

/-- the names of a comprehension that come from around it -/
theorem comp_kind {P N : List (Str × NameKind)} (h : compNamesOk P N = true) {x : Str} (e : (relNames P N).lookup x = some .cell ∨ (relNames P N).lookup x = some .free) : N.lookup x = some .free ∧ (P.lookup x = some .cell ∨ P.lookup x = some .free) := by
  rw [rel_lookup] at e
  cases q : N.lookup x with
  | none => rw [q] at e; rcases e with e | e <;> cases e
  | some k =>
    rw [q] at e
    have sp := compNames_spec h (mem_of_lookup q)
    have hk : k = .free := by
      simp only [Option.map_some, Option.some.injEq] at e
      by_cases hc : (k == .free && P.lookup x == some .cell) = true
      · rw [Bool.and_eq_true] at hc; exact eq_of_beq hc.1
      · rw [if_neg hc] at e
        rcases e with e | e
        · exact absurd e sp.2.2.1
        · exact e
    subst hk
    exact ⟨rfl, sp.2.2.2.2 rfl⟩

theorem free_rel {P N : List (Str × NameKind)} {x : Str} (e : N.lookup x = some .free) : (relNames P N).lookup x = some .cell ∨ (relNames P N).lookup x = some .free := by
  rw [rel_lookup, e]
  simp only [Option.map_some, Option.some.injEq]
  by_cases hc : ((NameKind.free == .free) && P.lookup x == some .cell) = true
  · rw [if_pos hc]; exact .inl rfl
  · rw [if_neg hc]; exact .inr rfl

/-- into a comprehension -/
theorem Rel.toComp (ok : FmOk F fm) (R : Rel C fm μ vs hp s) {sc : Scope} {cl : List (Str × Addr)} {c : Addr} {Is : List Addr} (hn : compNamesOk F.names sc.names = true) (hcl : ∀ x, sc.names.lookup x = some .free → cl.lookup x = fm.env.cells.lookup x)
    (k : ∀ b o, s.heap.get? b = some o → s'.heap.get? b = some o) (fresh : ∀ b ∈ c :: Is, s.heap.objs.size ≤ b ∧ ∃ o, s'.heap.get? b = some o) (nd : (c :: Is).Nodup) (hns : ∃ m, s'.heap.Ns c m)
    (hg : s'.gens = s.gens := by rfl) (ho : s'.os = s.os := by rfl) : Rel C ((fmC fm sc cl c).withP Is) μ (capV sc.names vs) hp s' := by
  have G := R.guard (Is := c :: Is) k fresh nd hg ho
  have vr : ∀ {v : V} {x : Value}, VR C s.heap μ (fm.D μ) v x → VR C s'.heap μ (((fmC fm sc cl c).withP Is).D μ) v x := fun r => VR.mono (fun b o _ e => k b o e) (fun _ _ e => e) (fun b hb => by
    rcases fmC_D.mp hb with q | q | q
    · exact .inr (heap_none (fresh b (q ▸ List.mem_cons_self ..)).1)
    · exact .inr (heap_none (fresh b (List.mem_cons_of_mem _ q)).1)
    · exact .inl q) r
  have nm : ((fmC fm sc cl c).withP Is).env.scope.names = relNames F.names sc.names := relabel_names ok sc
  have subD : ∀ b ∈ ((fmC fm sc cl c).withP Is).D μ, b ∈ (fm.withP (c :: Is)).D μ := fun b hb => mem_DP.mpr (by
    rcases fmC_D.mp hb with q | q | q
    · exact .inl (q ▸ List.mem_cons_self ..)
    · exact .inl (List.mem_cons_of_mem _ q)
    · exact .inr q)
  obtain ⟨m, hm⟩ := hns
  refine ⟨G.base, G.ff, fmC_nd.mpr G.nd, fun b hb => G.fr b (subD b hb), ⟨m, hm, fun x v e hk => ?_⟩, fun x hx => ?_, ⟨G.hps.1, fun i v e => ?_⟩, G.gens, G.os, ?_, fun a ha => ?_⟩
  · obtain ⟨h1, h2⟩ := cap_lookup e
    have hk' : (relNames F.names sc.names).lookup x = some .local := by rw [← nm]; exact hk
    rcases free_rel (P := F.names) h1 with q | q <;> rw [q] at hk' <;> cases hk'
  · have hx' : (relNames F.names sc.names).lookup x = some .cell ∨ (relNames F.names sc.names).lookup x = some .free := by rw [← nm]; exact hx
    obtain ⟨h1, h2⟩ := comp_kind hn hx'
    have hp' : fm.env.kindOf x = some .cell ∨ fm.env.kindOf x = some .free := by
      have : fm.env.kindOf x = F.names.lookup x := by show fm.env.scope.names.lookup x = _; rw [ok.names]
      rw [this]; exact h2
    obtain ⟨c', o, e1, e2, e3, e4⟩ := R.cel x hp'
    refine ⟨c', o, (hcl x h1).trans e1, e2.keeps k, ⟨?_, fun q => ?_⟩, fun v hv => ?_⟩
    · exact List.mem_append_right _ (List.mem_append_right _ e3.1)
    · have hc' : c' = c := q
      have := R.newNot (fresh c (List.mem_cons_self ..)).1
      rw [← hc'] at this
      rcases List.mem_append.mp e3.1 with z | z
      · exact this (mem_D.mpr (.inl z))
      · exact this (mem_D.mpr (.inr (.inr z)))
    · obtain ⟨_, h2⟩ := cap_lookup hv
      obtain ⟨val, p, q⟩ := e4 v h2
      exact ⟨val, p, vr q⟩
  · obtain ⟨a, fp, e1, e2, e3⟩ := G.hps.2 i v e
    exact ⟨a, fp, e1, e2.less subD, e3⟩
  · show C.base.objs.size ≤ c
    obtain ⟨m0, hn0, _⟩ := R.ns
    exact Nat.le_trans R.above (Nat.le_trans (Nat.le_of_lt hn0.lt) (fresh c (List.mem_cons_self ..)).1)
  · rcases List.mem_cons.mp (show a ∈ c :: fm.nss from ha) with q | q
    · subst q; exact ⟨List.mem_append_left _ (List.mem_singleton.mpr rfl), m, hm⟩
    · obtain ⟨x, m1, n1⟩ := R.nss a q
      exact ⟨List.mem_append_right _ (List.mem_append_right _ x), m1, n1.keeps k⟩

/-- and out of it -/
theorem Rel.ofComp (ok : FmOk F fm) (R : Rel C fm μ vs hp s) {sc : Scope} {cl : List (Str × Addr)} {c : Addr} {Is : List Addr} (Rc : Rel C ((fmC fm sc cl c).withP Is) μ' vs' hp' s') (fresh : ∀ b ∈ c :: Is, s.heap.objs.size ≤ b)
    (keep : ∀ b o, b ∉ muA μ → s.heap.get? b = some o → s'.heap.get? b = some o) (pre : ∃ ν, μ' = μ ++ ν ∧ ∀ b ∈ muA ν, s.heap.get? b = none) : Rel C (fm.withP (c :: Is)) μ' vs hp' s' := by
  obtain ⟨ν, rfl, hν⟩ := pre
  obtain ⟨nm, no, np, _⟩ := D_parts R
  have subD : ∀ b ∈ (fm.withP (c :: Is)).D (μ ++ ν), b ∈ ((fmC fm sc cl c).withP Is).D (μ ++ ν) := fun b hb => fmC_D.mpr (by
    rcases mem_DP.mp hb with q | q
    · rcases List.mem_cons.mp q with q | q
      · exact .inl q
      · exact .inr (.inl q)
    · exact .inr (.inr q))
  have vr : ∀ {v : V} {x : Value}, VR C s.heap μ (fm.D μ) v x → VR C s'.heap (μ ++ ν) ((fm.withP (c :: Is)).D (μ ++ ν)) v x := fun r => VR.mono (fun b o h e => keep b o (fun q => h (mem_D.mpr (.inr (.inl q)))) e)
    (fun i x e => by rw [List.getElem?_append_left (List.getElem?_eq_some_iff.mp e).1]; exact e) (fun b hb => by
      rcases mem_DP.mp hb with q | q
      · exact .inr (heap_none (fresh b q))
      · rcases mem_D.mp q with q | q | q
        · exact .inl (mem_D.mpr (.inl q))
        · rw [muA_append] at q
          rcases List.mem_append.mp q with q | q
          · exact .inl (mem_D.mpr (.inr (.inl q)))
          · exact .inr (hν b q)
        · exact .inl (mem_D.mpr (.inr (.inr q)))) r
  have kop : ∀ b o, b ∈ fm.own ++ fm.prot → s.heap.get? b = some o → s'.heap.get? b = some o := fun b o hb e => keep b o (fun q => by
    rcases List.mem_append.mp hb with z | z
    · exact no b z q
    · exact np b z q) e
  have up : ∀ b, b ∈ fm.own ++ fm.prot → b ∈ (fm.withP (c :: Is)).own ++ (fm.withP (c :: Is)).prot := fun b hb => by
    rcases List.mem_append.mp hb with q | q
    · exact List.mem_append_left _ q
    · exact List.mem_append_right _ (List.mem_append_right _ q)
  refine ⟨Rc.base, Rc.ff, fmC_nd.mp Rc.nd, fun b hb => Rc.fr b (subD b hb), ?_, fun x hx => ?_, ⟨Rc.hps.1, fun i v e => ?_⟩, Rc.gens, Rc.os, R.above, fun a ha => ?_⟩
  · obtain ⟨m, hn, hm⟩ := R.ns
    exact ⟨m, hn.at' fun o e => kop _ o (List.mem_append_left _ ok.loc) e, fun x v e hk => let ⟨val, a, b⟩ := hm x v e hk; ⟨val, a, vr b⟩⟩
  · obtain ⟨c', o, a, b, d, e⟩ := R.cel x hx
    obtain ⟨ob, e1, e2⟩ := b
    exact ⟨c', o, a, ⟨ob, kop c' ob d.1 e1, e2⟩, ⟨up c' d.1, d.2⟩, fun v hv => let ⟨val, p, q⟩ := e v hv; ⟨val, p, vr q⟩⟩
  · obtain ⟨a, fp, e1, e2, e3⟩ := Rc.hps.2 i v e
    exact ⟨a, fp, e1, e2.less subD, e3⟩
  · obtain ⟨x, m, n⟩ := R.nss a ha
    exact ⟨up a x, m, n.at' fun o e => kop a o x e⟩

/-- the loop's own names are forgotten -/
theorem Rel.forget (R : Rel C fm μ vs hp s) (h1 : ∀ x v, vs'.lookup x = some v → fm.env.kindOf x ≠ some .local) (h2 : ∀ x, fm.env.kindOf x ≠ some .local → vs'.lookup x = vs.lookup x) : Rel C fm μ vs' hp s := by
  refine ⟨R.base, R.ff, R.nd, R.fr, ?_, fun x hx => ?_, R.hps, R.gens, R.os, R.above, R.nss⟩
  · obtain ⟨m, hn, _⟩ := R.ns
    exact ⟨m, hn, fun x v e hk => absurd hk (h1 x v e)⟩
  · obtain ⟨c, o, a, b, d, e⟩ := R.cel x hx
    refine ⟨c, o, a, b, d, fun v hv => e v ?_⟩
    rw [← h2 x (by rcases hx with q | q <;> rw [q] <;> decide)]; exact hv


/-- the tests of a comprehension -/
structure SI (C : Cx) (n : Nat) (F : Frm) (vs : Vars) (es : List Expr) (W : WB) : Prop where
  run : ∀ {fm μ vs' hp s Q E K X}, At C n F vs fm μ vs' hp s → W hp K X → KB C fm vs' μ s K X Q E →
  wpAny C.M fm.A (forIn es true fun c r => if r = true then do let ok ← isTrue c fm.env (eval c fm.env); pure (ForInStep.yield ok) else pure (ForInStep.yield r)) Q E s

noncomputable def tT : WB := fun hp K _ => K true hp
theorem SI.nil : SI C n F vs [] tT := ⟨fun a w k => wpAny_pure (k.ok w _ _ (Step.refl ..) a.R)⟩

theorem SI.one {e T} (h : ST C n F vs e T) : SI C n F vs [e] T := ⟨fun {fm μ vs' hp s Q E K X} a w k => by
  rw [List.forIn_cons]
  refine wpAny_bind ?_
  rw [if_pos rfl]
  exact wpAny_bind (h.run a w ⟨fun {b hp1} w1 s1 μ1 st1 R1 => wpAny_pure (wpAny_pure (k.ok w1 s1 μ1 st1 R1)), k.ex⟩)⟩

theorem wItems.len {iv : V} {k : List V → Prop} (h : wItems iv k) : wItems iv fun l => l.length ≤ 1000000 ∧ k l := by
  cases iv with
  | rng a b => exact ⟨h.1, by rw [rngItems_len]; exact h.1.2, h.2⟩
  | list l => exact ⟨h.1, h.1, h.2⟩
  | tup l => exact ⟨h.1, h.1, h.2⟩
  | dict l => exact ⟨h.1, by rw [List.length_map]; exact h.1, h.2⟩
  | _ => exact h
noncomputable def eComp {β : Type} (it : WP) (sp : V → (β → Prop) → Prop) (T : β → WB) (W : β → WP) : WP := fun hp K X => it hp (fun iv hp1 => wItems iv fun items => ∃ J : List V → List V → List V → Prop, J [] [] hp1 ∧
  (∀ done x rest acc hp2, items = done ++ x :: rest → J done acc hp2 → sp x fun b => T b hp2 (fun c hp3 => br c (W b hp3 (fun v hp4 => guard (isPlainV v) (J (done ++ [x]) (acc ++ [v]) hp4)) X) (J (done ++ [x]) acc hp3)) X) ∧ ∀ acc hp2, J items acc hp2 → K (.list acc) hp2) X
noncomputable abbrev fC (F : Frm) (sc : Scope) : Frm := ⟨relNames F.names sc.names, false, 0⟩
/-- what the turns of a comprehension keep -/
structure CInvr (C : Cx) (fm fc : Fm) (D : Addr) (cvs : Vars) (μ : Mu) (s : Shared) (items : List V) (Pk : Nat → Value → Prop) (St : Nat → Heap → Prop) (J : List V → List V → List V → Prop) (k : Nat) (s' : Shared) (i : Nat) (μ' : Mu) (hp' acc : List V) (xs : List Value) (m' : Nat) : Prop where
  sum : i + k = items.length
  R : Rel C fc μ' cvs hp' s'
  pre : ∃ ν, μ' = μ ++ ν ∧ ∀ b ∈ muA ν, s.heap.get? b = Option.none
  kA : ∀ b y, b ∉ muA μ → s.heap.get? b = some y → s'.heap.get? b = some y
  lv : ∀ b y, s.heap.get? b = some y → ∃ y', s'.heap.get? b = some y'
  st : St i s'.heap
  vr : ∀ j v, Pk j v → j < items.length → VR C s'.heap μ' (fc.D μ') (items.getD j .none) v
  gD : s'.heap.get? D = some ⟨.type "list", Option.none, .seq xs.toArray m', #[]⟩
  racc : VRs C s'.heap μ' (fc.D μ') acc xs
  pl : allPlain acc = true
  le : acc.length ≤ i
  j : J (items.take i) acc hp'

theorem comp_core {β : Type} {tv : β → Vars} {sp : V → (β → Prop) → Prop} {T : β → WB} {We : β → WP} {elt t it : Expr} {ifs : List Expr} {sc : Scope} {cvs : Vars} (ht : TG C (fC F sc) t tv sp) (hi' : ∀ b, SI C n (fC F sc) (tv b ++ cvs) ifs (T b)) (he' : ∀ b, SE C n (fC F sc) (tv b ++ cvs) elt (We b)) (hcv : Sub cvs (capV sc.names vs))
    (ok : FmOk F fm) (rm : Room fm.A n) (R : Rel C fm μ vs hp s) {pos : Pos} {use : Option (Value → Sem Unit)} {iv : V} {x : Value} {J : List V → List V → List V → Prop} {X : Prop} (rv : VR C s.heap μ (fm.D μ) iv x) (hnames : compNamesOk F.names sc.names = true) (hkind : sc.kind = .function) {cl : List (Str × Addr)}
    (hcl : ∀ x, sc.names.lookup x = some .free → cl.lookup x = fm.env.cells.lookup x) (kx : X → ∀ x s', Fly C fm x s' → E x s') {items : List V} (hlen : items.length ≤ 1000000) (hit : ∀ {P : Value → Shared → Prop}, (∀ o, o.isFreed = false → Itr C fm.A fm μ { s with heap := s.heap.push o } items s.heap.objs.size → P (.ref s.heap.objs.size) { s with heap := s.heap.push o }) → wpAny C.M fm.A (pyIter x) P E s)
    (j0 : J [] [] hp) (jn : ∀ done x rest acc hp2, items = done ++ x :: rest → J done acc hp2 → sp x fun b => T b hp2 (fun c hp3 => br c (We b hp3 (fun v hp4 => guard (isPlainV v) (J (done ++ [x]) (acc ++ [v]) hp4)) X) (J (done ++ [x]) acc hp3)) X)
    (fin : ∀ acc hp', J items acc hp' → ∀ s' μ' D cenv, Step fm μ s μ' s' → Rel C (fm.withP [cenv.locals]) μ' vs hp' s' → VR C s'.heap μ' ((fm.withP [cenv.locals]).D μ') (.list acc) (.ref D) → (∃ m, s'.heap.Ns cenv.locals m) → s.heap.get? cenv.locals = Option.none → compEnd C.M fm.A E use Q (.ref D) cenv (.ok .next) s') :
    wpAny C.M fm.A (pyIter x) (fun it' s₂ => wpAny C.M fm.A (newList []) (fun acc s₃ =>
      wpAny C.M fm.A (newFunctionEnv sc fm.env.globals cl [] fm.env.qual none .none (some fm.env)) (fun cenv s₄ =>
        codeAny C.M fm.A (.compStart (.ListComp elt [⟨t, it, ifs, 0⟩] sc pos) 0 it' acc { cenv with scope := relabel sc fm.env }) (compEnd C.M fm.A E use Q acc { cenv with scope := relabel sc fm.env }) s₄) E s₃) E s₂) E s := by
  refine hit fun o ho itr => ?_
  refine wpAny_newList ?_ (by decide)
  refine wpAny_newFunctionEnv (fun y hy => (compNames_spec hnames (x := y.1) (k := y.2) hy).2.2.1) (by intro y hy; simp at hy) (fun h4 hns hsb => ?_) hkind
  dsimp only at hns hsb ⊢
  generalize eH1 : s.heap.push o = H1 at hns hsb itr ⊢
  generalize eH2 : H1.push ⟨.type "list", none, .seq ([] : List Value).toArray 0, #[]⟩ = H2 at hns hsb ⊢
  have z1 : H1.objs.size = s.heap.objs.size + 1 := by rw [← eH1, Heap.size_push]
  have z2 : H2.objs.size = s.heap.objs.size + 2 := by rw [← eH2, Heap.size_push, z1]
  generalize eI : s.heap.objs.size = I at itr ⊢
  generalize eD : H1.objs.size = D at hns hsb ⊢
  generalize eC : H2.objs.size = c at hns hsb ⊢
  have dI : Nat.succ I = D := by rw [← eD, z1, eI]
  have dC : Nat.succ (Nat.succ I) = c := by rw [← eC, z2, eI]
  have hID : I < D := dI ▸ Nat.lt_succ_self I
  have hDc : D < c := by rw [← dC, ← dI]; exact Nat.lt_succ_self _
  have hIc : I < c := Nat.lt_trans hID hDc
  have cIs : ∀ b ∈ [c, I, D], s.heap.objs.size ≤ b := fun b hb => by
    simp only [List.mem_cons, List.not_mem_nil, or_false] at hb
    rw [eI]; rcases hb with rfl | rfl | rfl; exact Nat.le_of_lt hIc; exact Nat.le_refl _; exact Nat.le_of_lt hID
  have ndIs : [c, I, D].Nodup := by
    simp only [List.nodup_cons, List.mem_cons, List.not_mem_nil, or_false, not_or, not_false_eq_true, List.nodup_nil, and_true]
    exact ⟨⟨Nat.ne_of_gt hIc, Nat.ne_of_gt hDc⟩, Nat.ne_of_lt hID⟩
  have k2 : ∀ b y, s.heap.get? b = some y → H2.get? b = some y := fun b y e => eH2 ▸ Heap.get?_push_of_some _ (eH1 ▸ Heap.get?_push_of_some _ e)
  have k4 : ∀ b y, b ≠ c → H2.get? b = some y → h4.get? b = some y := fun b y hb e => hsb.extBut b y hb (Heap.get?_push_of_some _ e)
  have notc : ∀ b y, s.heap.get? b = some y → b ≠ c := fun b y e q => by have := Heap.lt_size e; rw [q, eI] at this; exact Nat.lt_asymm this hIc
  have kk : ∀ b y, s.heap.get? b = some y → h4.get? b = some y := fun b y e => k4 b y (notc b y e) (k2 b y e)
  have gI : H1.get? I = some o := by rw [← eH1, ← eI]; exact Heap.get?_push_size _ ho
  have gI4 : h4.get? I = some o := k4 I o (Nat.ne_of_lt hIc) (eH2 ▸ Heap.get?_push_of_some _ gI)
  have gD4 : h4.get? D = some ⟨.type "list", none, .seq ([] : List Value).toArray 0, #[]⟩ := k4 D _ (Nat.ne_of_lt hDc) (by rw [← eH2, ← eD]; exact Heap.get?_push_size _ rfl)
  obtain ⟨oc, _, _, gc4, _⟩ := id hns
  have okc := ok.comp (cl := cl) (c := c) hkind hnames
  have okP := okc.withP [I, D]
  have Rc : Rel C ((fmC fm sc cl c).withP [I, D]) μ (capV sc.names vs) hp { s with heap := h4, toks := s.toks + ([] : List (Str × Value)).length } := by
    refine R.toComp ok hnames hcl kk (fun b hb => ⟨cIs b hb, ?_⟩) ndIs ⟨_, hns⟩
    simp only [List.mem_cons, List.not_mem_nil, or_false] at hb
    rcases hb with rfl | rfl | rfl
    · exact ⟨_, gc4⟩
    · exact ⟨_, gI4⟩
    · exact ⟨_, gD4⟩
  have ccell : CellsIn (fmC fm sc cl c) := by
    refine ⟨fun y hy c' hc' => ?_, fun a ha => ?_⟩
    · have hx' : (relNames F.names sc.names).lookup y = some .cell ∨ (relNames F.names sc.names).lookup y = some .free := by rw [← relabel_names ok sc]; exact hy
      obtain ⟨h1, h2⟩ := comp_kind hnames hx'
      have hp' : fm.env.kindOf y = some .cell ∨ fm.env.kindOf y = some .free := by
        have : fm.env.kindOf y = F.names.lookup y := by show fm.env.scope.names.lookup y = _; rw [ok.names]
        rw [this]; exact h2
      obtain ⟨c'', o', e1, e2, e3, e4⟩ := R.cel y hp'
      have : some c'' = some c' := by rw [← e1, ← hcl y h1]; exact hc'
      cases this
      exact List.mem_append_right _ e3.1
    · rcases List.mem_cons.mp (show a ∈ c :: fm.nss from ha) with q | q
      · exact List.mem_append_left _ (List.mem_singleton.mpr q)
      · exact List.mem_append_right _ (R.nss a q).1
  obtain ⟨fp, Pk, St, Wk, hst, hfp, hvr0, hcls, hpl⟩ := itr
  have fpold : ∀ b ∈ fp, b = I ∨ (b ∉ fm.D μ ∧ b ≠ D ∧ b ≠ c ∧ b ≠ I ∧ ∃ y, s.heap.get? b = some y) := fun b hb => by
    rcases hfp b hb with q | ⟨q1, y, q2⟩
    · exact .inl q
    · by_cases hbI : b = I
      · exact .inl hbI
      · right
        have lt : b < H1.objs.size := Heap.lt_size q2
        rw [z1, eI] at lt
        have lt' : b < I := Nat.lt_of_le_of_ne (Nat.le_of_lt_succ lt) hbI
        refine ⟨q1, Nat.ne_of_lt (Nat.lt_trans lt' hID), Nat.ne_of_lt (Nat.lt_trans lt' hIc), hbI, y, ?_⟩
        have q2' : H1.get? b = some y := q2
        rw [← eH1] at q2'
        exact (Heap.get?_push_ne _ b o (by rw [eI]; exact hbI)).symm.trans q2'
  have plj : ∀ j, j < items.length → isPlainV (items.getD j .none) = true := fun j hj => by
    have e : items.getD j .none = items[j] := by simp [List.getD, List.getElem?_eq_getElem hj]
    rw [e]; exact List.all_eq_true.mp hpl _ (List.getElem_mem hj)
  have cfr : ∀ e ∈ fm.fenv :: fm.outer, ∀ L, e.frame = some L → L ≠ c := fun e he L hL q => by
    have := ok.fin e he L hL
    have hD : L ∈ fm.D μ := (List.mem_append.mp this).elim (fun z => mem_D.mpr (.inl z)) fun z => mem_D.mpr (.inr (.inr z))
    exact R.newNot (cIs c (List.mem_cons_self ..)) (q ▸ hD)
  have cns : ∀ a ∈ fm.nss, a ≠ c ∧ a ∈ ((fmC fm sc cl c).withP [I, D]).nss := fun a ha => ⟨fun q => by
    have := (R.nss a ha).1
    have hD : a ∈ fm.D μ := (List.mem_append.mp this).elim (fun z => mem_D.mpr (.inl z)) fun z => mem_D.mpr (.inr (.inr z))
    exact R.newNot (cIs c (List.mem_cons_self ..)) (q ▸ hD), List.mem_cons_of_mem _ ha⟩
  let cenv : Env := compEnvC sc cl c fm.env
  have errs : ∀ x s', (∀ x s', Fly C fm x s' → E x s') → Fly C ((fmC fm sc cl c).withP [I, D]) x s' → notedBy C.M fm.A cenv (fun e s'' => compEnd C.M fm.A E use Q (.ref D) cenv (.error e) s'') x s' := fun x s' hE hf => by
    refine note_sound (fm := (fmC fm sc cl c).withP [I, D]) (env := cenv) ok.frames ok.fframe ok.frame hf fun s'' hf' => ?_
    have ns : ∃ m, s''.heap.Ns c m := by
      obtain ⟨_, _, _, _, _, _, _, z3⟩ := hf'
      exact z3 c (List.mem_cons_self ..)
    have pp : ∀ h', Heap.SameBut c s''.heap h' → wpAny C.M fm.A (PySem.passOn "comprehension.variables-let-go" x cenv : Sem Value) (fun _ _ => False) E { s'' with heap := h' } := fun h' hs' =>
      pass_sound (fc := (fmC fm sc cl c).withP [I, D]) ok.frame rfl rfl (base_none R (cIs c (List.mem_cons_self ..))) cfr cns hf' ns hs' fun s3 h3 => hE x s3 h3
    obtain ⟨m, hm⟩ := ns
    cases use with
    | none => exact ⟨m, hm, pp⟩
    | some u => exact ⟨m, hm, pp⟩
  let Inv : Nat → Shared → Prop := fun k s' => ∃ i μ' hp' acc xs m', CInvr C fm ((fmC fm sc cl c).withP [I, D]) D (capV sc.names vs) μ s items Pk St J k s' i μ' hp' acc xs m'
  have hst4 : St 0 h4 := Wk.frame _ _ _ hst fun b hb y e => by
    have e' : H1.get? b = some y := e
    have lt := Heap.lt_size e'
    rw [z1, eI] at lt
    exact k4 b y (Nat.ne_of_lt (Nat.lt_of_lt_of_le lt (by rw [← dC]; exact Nat.le_succ _))) (eH2 ▸ Heap.get?_push_of_some _ e')
  have start : Inv items.length { s with heap := h4, toks := s.toks + ([] : List (Str × Value)).length } := by
    refine ⟨0, μ, hp, [], [], 0, Nat.zero_add _, Rc, ⟨[], by simp, by simp [muA]⟩, fun b y _ e => kk b y e, fun b y e => ⟨y, kk b y e⟩, ?_, fun j v p hj => ?_, gD4, .nil, rfl, Nat.le_refl _, j0⟩
    · exact hst4
    · refine VR.mono (fun b y _ e => ?_) (fun _ _ e => e) (fun b hb => ?_) (hvr0 j v p hj)
      · have e' : H1.get? b = some y := e
        have lt := Heap.lt_size e'
        rw [z1, eI] at lt
        exact k4 b y (Nat.ne_of_lt (Nat.lt_of_lt_of_le lt (by rw [← dC]; exact Nat.le_succ _))) (eH2 ▸ Heap.get?_push_of_some _ e')
      · rcases fmC_D.mp hb with q | q | q
        · right
          show H1.get? b = none
          exact heap_none (by rw [z1, eI, q]; first | exact Nat.le_of_eq dI | exact Nat.le_of_lt (Nat.lt_of_le_of_lt (Nat.le_of_eq dI) hDc))
        · simp only [List.mem_cons, List.not_mem_nil, or_false] at q
          rcases q with q | q
          · exact .inl (q ▸ List.mem_cons_self ..)
          · right
            show H1.get? b = none
            exact heap_none (by rw [z1, eI, q]; first | exact Nat.le_of_eq dI | exact Nat.le_of_lt (Nat.lt_of_le_of_lt (Nat.le_of_eq dI) hDc))
        · exact .inl (List.mem_cons_of_mem _ q)
  have hend : ∀ acc hp', J items acc hp' → ∀ s' μ', Step fm μ s μ' s' → Rel C (fm.withP [c]) μ' vs hp' s' → VR C s'.heap μ' ((fm.withP [c]).D μ') (.list acc) (.ref D) → (∃ m, s'.heap.Ns c m) → compEnd C.M fm.A E use Q (.ref D) cenv (.ok .next) s' :=
    fun acc hp' j s' μ' a1 a2 a3 a4 => fin acc hp' j s' μ' D cenv a1 a2 a3 a4 (heap_none (cIs c (List.mem_cons_self ..)))
  obtain ⟨R0, hR0⟩ : ∃ R0, R0 = compEnd C.M fm.A E use Q (.ref D) cenv := ⟨_, rfl⟩
  obtain ⟨E1, hE1⟩ : ∃ E1, E1 = notedBy C.M fm.A cenv fun e s' => R0 (.error e) s' := ⟨_, rfl⟩
  have errs1 : ∀ x s', X → Fly C ((fmC fm sc cl c).withP [I, D]) x s' → E1 x s' := fun x s' hx hf => by rw [hE1, hR0]; exact errs x s' (kx hx) hf
  rw [← hR0] at hend
  have loop : ∀ s4, s4 = { s with heap := h4, toks := s.toks + ([] : List (Str × Value)).length } → codeAny C.M fm.A (.compLoop (.ListComp elt [⟨t, it, ifs, 0⟩] sc pos) 0 (.ref I) (.ref D) cenv) R0 s4 := by
    rintro s4 rfl
    clear fin errs hit
    refine compLoop_rule Inv hE1 ?_ items.length start
    rintro k s' ⟨i, μ', hp', acc, xs, m', hik, R', ⟨ν, rfl, hν⟩, kA, lvA, hst', hvr', gD', racc, placc, lacc, hj⟩
    have IinP : I ∈ [I, D] := List.mem_cons_self ..
    have DinP : D ∈ [I, D] := List.mem_cons_of_mem _ (List.mem_singleton.mpr rfl)
    have IinD : I ∈ ((fmC fm sc cl c).withP [I, D]).D (μ ++ ν) := mem_DP.mpr (.inl IinP)
    have DinD : D ∈ ((fmC fm sc cl c).withP [I, D]).D (μ ++ ν) := mem_DP.mpr (.inl DinP)
    have oldI : ∀ b y, s.heap.get? b = some y → b ≠ I ∧ b ≠ D ∧ b ≠ c := fun b y e => by
      have := Heap.lt_size e
      rw [eI] at this
      exact ⟨Nat.ne_of_lt this, Nat.ne_of_lt (Nat.lt_trans this hID), Nat.ne_of_lt (Nat.lt_trans this hIc)⟩
    by_cases hi : i < items.length
    · have e : items.getD i .none = items[i] := by simp [List.getD, List.getElem?_eq_getElem hi]
      have hdrop : items = items.take i ++ items.getD i .none :: items.drop (i + 1) := by
        rw [e, ← List.drop_eq_getElem_cons hi, List.take_append_drop]
      have htake : items.take (i + 1) = items.take i ++ [items.getD i .none] := by
        rw [e, List.take_append_getElem]
      refine Wk.item i s' _ _ hi hst' fun v h5 tk hv hst5 hx => ?_
      dsimp only
      obtain ⟨o5, T, e1, e2, e3⟩ := hcls _ _ hst5
      have hx' : ∀ b y, b ≠ I → s'.heap.get? b = some y → h5.get? b = some y := fun b y hb e => hx b y (fun q => hb (List.mem_singleton.mp q)) e
      have R5 : Rel C ((fmC fm sc cl c).withP [I, D]) (μ ++ ν) (capV sc.names vs) hp' { s' with heap := h5, toks := tk } := Rel.touch okc ccell R' IinP hx' ⟨o5, e1⟩
      have vr5 : ∀ {u : V} {y : Value}, VR C s'.heap (μ ++ ν) (((fmC fm sc cl c).withP [I, D]).D (μ ++ ν)) u y → VR C h5 (μ ++ ν) (((fmC fm sc cl c).withP [I, D]).D (μ ++ ν)) u y := fun r => VR.mono (fun b y n e => hx' b y (fun q => n (q ▸ IinD)) e) (fun _ _ e => e) (fun b hb => .inl hb) r
      have vrs5 : ∀ {l : List V} {ys : List Value}, VRs C s'.heap (μ ++ ν) (((fmC fm sc cl c).withP [I, D]).D (μ ++ ν)) l ys → VRs C h5 (μ ++ ν) (((fmC fm sc cl c).withP [I, D]).D (μ ++ ν)) l ys := fun r => VRs.mono (fun b y n e => hx' b y (fun q => n (q ▸ IinD)) e) (fun _ _ e => e) (fun b hb => .inl hb) r
      refine letOwned_sound (C := C) ⟨o5, T, e1, e2, e3⟩ ?_
      obtain ⟨bb, wb, hassign⟩ := ht.run okP ok.handled R5 (vr5 (hvr' i v hv hi)) (jn _ _ _ acc hp' hdrop hj)
      · refine hassign fun s6 vs1 R6 S6 e6 => ?_
        have kinds : ∀ x, ((fmC fm sc cl c).withP [I, D]).env.kindOf x = (relNames F.names sc.names).lookup x := fun x => by
          show (relabel sc fm.env).names.lookup x = _
          rw [relabel_names ok sc]
        -- the frame's own work keeps the rest
        have after : ∀ {μ6 : Mu} {s6 : Shared}, Step ((fmC fm sc cl c).withP [I, D]) (μ ++ ν) { s' with heap := h5, toks := tk } μ6 s6 →
            (∃ ν', μ6 = μ ++ ν' ∧ ∀ b ∈ muA ν', s.heap.get? b = none) ∧ (∀ b y, b ∉ muA μ → s.heap.get? b = some y → s6.heap.get? b = some y) ∧ (∀ b y, s.heap.get? b = some y → ∃ y', s6.heap.get? b = some y') ∧ St (i + 1) s6.heap ∧
            (∀ j v, Pk j v → j < items.length → VR C s6.heap μ6 (((fmC fm sc cl c).withP [I, D]).D μ6) (items.getD j .none) v) ∧ s6.heap.get? D = some ⟨.type "list", none, .seq xs.toArray m', #[]⟩ ∧ VRs C s6.heap μ6 (((fmC fm sc cl c).withP [I, D]).D μ6) acc xs := by
          intro μ6 s6 S6
          obtain ⟨ν6, rfl, hν6⟩ := S6.pre
          have nIo : I ∉ (fmC fm sc cl c).own := fun hm => Nat.ne_of_lt hIc (List.mem_singleton.mp hm)
          have nDo : D ∉ (fmC fm sc cl c).own := fun hm => Nat.ne_of_lt hDc (List.mem_singleton.mp hm)
          obtain ⟨_, _, npr⟩ := ndP.mp R5.nd
          have notmu : ∀ b y, b ∉ muA μ → s.heap.get? b = some y → b ∉ muA (μ ++ ν) := fun b y hb e hm => by
            rw [muA_append] at hm
            rcases List.mem_append.mp hm with q | q
            · exact hb q
            · rw [hν b q] at e; cases e
          refine ⟨⟨ν ++ ν6, by simp, fun b hb => ?_⟩, fun b y hb e => ?_, fun b y e => ?_, ?_, fun j v p hj => S6.vr (vr5 (hvr' j v p hj)), ?_, S6.vrs (vrs5 racc)⟩
          · rw [muA_append] at hb
            rcases List.mem_append.mp hb with q | q
            · exact hν b q
            · cases qq : s.heap.get? b with
              | none => rfl
              | some y =>
                obtain ⟨y', e'⟩ := lvA b y qq
                have := hν6 b q
                rw [show (({ s' with heap := h5, toks := tk } : Shared).heap) = h5 from rfl, hx' b y' (oldI b y qq).1 e'] at this
                cases this
          · exact S6.keep b y (fun hm => (oldI b y e).2.2 (List.mem_singleton.mp hm)) (notmu b y hb e) (hx' b y (oldI b y e).1 (kA b y hb e))
          · obtain ⟨y', e'⟩ := lvA b y e
            exact S6.live b y' (hx' b y' (oldI b y e).1 e')
          · refine Wk.frame _ _ _ hst5 fun b hb y e => ?_
            rcases fpold b hb with q | ⟨q1, q2, q3, q4, y', q5⟩
            · subst q
              exact S6.keep b y nIo (fun hm => npr b IinP (mem_D.mpr (.inr (.inl hm)))) e
            · exact S6.keep b y (fun hm => q3 (List.mem_singleton.mp hm)) (notmu b y' (fun hm => q1 (mem_D.mpr (.inr (.inl hm)))) q5) e
          · exact S6.keep D _ nDo (fun hm => npr D DinP (mem_D.mpr (.inr (.inl hm)))) (hx' D _ (Nat.ne_of_gt hID) gD')
        have back : ∀ {μ6 : Mu} {hp6 : List V} {s6 : Shared}, Rel C ((fmC fm sc cl c).withP [I, D]) μ6 vs1 hp6 s6 → Rel C ((fmC fm sc cl c).withP [I, D]) μ6 (capV sc.names vs) hp6 s6 := fun R6 => by
          refine Rel.forget R6 (fun x v e => ?_) fun x hx => ?_
          · rw [kinds]
            obtain ⟨h1, _⟩ := cap_lookup e
            rcases free_rel (P := F.names) h1 with q | q <;> rw [q] <;> decide
          · rw [kinds] at hx
            rw [e6, lookup_skip]
            exact fun hm => by
              obtain ⟨p, hp, rfl⟩ := List.mem_map.mp hm
              exact hx (ht.loc bb p hp)
        have sub6 : Sub (tv bb ++ cvs) vs1 := Sub.app hcv e6
        refine (hi' bb).run (fm := (fmC fm sc cl c).withP [I, D]) ⟨okP, rm, sub6, R6⟩ wb ⟨fun {b hp7} w7 s7 μ7 S7 R7 => ?_, fun hx y s7 hf => errs1 y s7 hx hf⟩
        cases b with
        | false =>
          rw [if_neg (by decide)]
          obtain ⟨a1, a2, a3, a4, a5, a6, a7⟩ := after (S6.trans S7)
          exact ⟨k - 1, by omega, i + 1, μ7, hp7, acc, xs, m', by omega, back R7, a1, a2, a3, a4, a5, a6, a7, placc, by omega, by rw [htake]; exact w7.2 rfl⟩
        | true =>
          rw [if_pos rfl]
          refine (he' bb).run (fm := (fmC fm sc cl c).withP [I, D]) ⟨okP, rm, sub6, R7⟩ (w7.1 rfl) ⟨fun {u hp8} w8 s8 μ8 val S8 R8 ru => ?_, fun hx y s7 hf => errs1 y s7 hx hf⟩
          obtain ⟨hpu, w9⟩ := w8.inv
          obtain ⟨a1, a2, a3, a4, a5, a6, a7⟩ := after ((S6.trans S7).trans S8)
          have lx := a7.length
          have DinD8 : D ∈ ((fmC fm sc cl c).withP [I, D]).D μ8 := mem_DP.mpr (.inl DinP)
          refine append_at a6 (fun h9 hs9 ho9 => ?_) (by rw [List.size_toArray, sizeLine_eq]; omega)
          rw [List.push_toArray] at ho9
          have hx9 : ∀ b y, b ≠ D → s8.heap.get? b = some y → h9.get? b = some y := fun b y hb e => hs9.extBut b y hb e
          have R9 : Rel C ((fmC fm sc cl c).withP [I, D]) μ8 vs1 hp8 { s8 with heap := h9 } := Rel.touch okc ccell R8 DinP hx9 ⟨_, ho9⟩
          have vr9 : ∀ {u : V} {y : Value}, VR C s8.heap μ8 (((fmC fm sc cl c).withP [I, D]).D μ8) u y → VR C h9 μ8 (((fmC fm sc cl c).withP [I, D]).D μ8) u y := fun r => VR.mono (fun b y n e => hx9 b y (fun q => n (q ▸ DinD8)) e) (fun _ _ e => e) (fun b hb => .inl hb) r
          have vrs9 : ∀ {l : List V} {ys : List Value}, VRs C s8.heap μ8 (((fmC fm sc cl c).withP [I, D]).D μ8) l ys → VRs C h9 μ8 (((fmC fm sc cl c).withP [I, D]).D μ8) l ys := fun r => VRs.mono (fun b y n e => hx9 b y (fun q => n (q ▸ DinD8)) e) (fun _ _ e => e) (fun b hb => .inl hb) r
          refine ⟨k - 1, by omega, i + 1, μ8, hp8, acc ++ [u], xs ++ [val], _, by omega, back R9, a1, fun b y hb e => hx9 b y (oldI b y e).2.1 (a2 b y hb e), fun b y e => ?_, ?_, fun j v p hj => vr9 (a5 j v p hj), ho9, (vrs9 a7).append (.cons _ _ _ _ (vr9 ru) .nil),
            by unfold allPlain at *; rw [List.all_append, placc]; simpa using hpu, by rw [List.length_append, List.length_singleton]; omega, by rw [htake]; exact w9⟩
          · obtain ⟨y', e'⟩ := a3 b y e
            exact ⟨y', hx9 b y' (oldI b y e).2.1 e'⟩
          · refine Wk.frame _ _ _ a4 fun b hb y e => ?_
            rcases fpold b hb with q | ⟨q1, q2, q3, q4, y', q5⟩
            · exact hx9 b y (by rw [q]; exact Nat.ne_of_lt hID) e
            · exact hx9 b y q2 e
    · -- the end
      have hi' : i = items.length := by omega
      have hd : items.take i = items := List.take_of_length_le (by omega)
      rw [hd] at hj
      subst hi'
      refine Wk.done s' _ _ hst' fun h5 tk hx => ?_
      dsimp only
      have hx' : ∀ b y, b ≠ I → s'.heap.get? b = some y → h5.get? b = some y := fun b y hb e => hx b y (fun q => hb (List.mem_singleton.mp q)) e
      have RD : Rel C ((fmC fm sc cl c).withP [D]) (μ ++ ν) (capV sc.names vs) hp' { s' with heap := h5, toks := tk } := by
        refine Rel.drop (fm := (fmC fm sc cl c).withP [D]) (Is := [I]) (okc.withP [D]) ⟨fun y hy c' hc' => ?_, fun a ha => ?_⟩ R' hx
        · exact (List.mem_append.mp (ccell.1 y hy c' hc')).elim (List.mem_append_left _) fun q => List.mem_append_right _ (List.mem_append_right _ q)
        · exact (List.mem_append.mp (ccell.2 a ha)).elim (List.mem_append_left _) fun q => List.mem_append_right _ (List.mem_append_right _ q)
      have RE := Rel.ofComp ok R RD (fun b hb => cIs b (by
        rcases List.mem_cons.mp hb with q | q
        · exact q ▸ List.mem_cons_self ..
        · rw [List.mem_singleton.mp q]; exact List.mem_cons_of_mem _ (List.mem_cons_of_mem _ (List.mem_singleton.mpr rfl)))) (fun b y hb e => hx' b y (oldI b y e).1 (kA b y hb e)) ⟨ν, rfl, hν⟩
      have RF := RE.lessP (Is' := [c]) R.cellsIn (fun b hb => by rw [List.mem_singleton.mp hb]; exact List.mem_cons_self ..) (by simp)
      refine hend acc hp' hj { s' with heap := h5, toks := tk } (μ ++ ν) ⟨fun b y _ hb e => hx' b y (oldI b y e).1 (kA b y hb e), ⟨ν, rfl, hν⟩, fun b y e => ?_⟩ RF ?_ ?_
      · obtain ⟨y', e'⟩ := lvA b y e
        exact ⟨y', hx' b y' (oldI b y e).1 e'⟩
      · refine .obj _ [D] D (.list _ _ _ m' (hx' D _ (Nat.ne_of_gt hID) gD') (VRs.mono (fun b y n e => hx' b y (fun q => n (q ▸ IinD)) e) (fun _ _ e => e) (fun b hb => .inl ?_) racc) placc) fun b hb hm => ?_
        · rcases mem_DP.mp hb with q | q
          · exact fmC_D.mpr (.inl (List.mem_singleton.mp q))
          · exact fmC_D.mpr (.inr (.inr q))
        · rw [List.mem_singleton.mp hb] at hm
          obtain ⟨_, _, nI⟩ := ndP.mp RE.nd
          rcases mem_DP.mp hm with q | q
          · exact Nat.ne_of_lt hDc (List.mem_singleton.mp q)
          · exact nI D (List.mem_cons_of_mem _ (List.mem_singleton.mpr rfl)) q
      · obtain ⟨m, hn, _⟩ := RD.ns
        exact ⟨m, hn⟩
  have := loop _ rfl
  subst hR0
  refine codeAny_compStart_list this ?_
  exact Wk.self 0 _ _ _ hst4 this
theorem closure_of (ok : FmOk F fm) (R : Rel C fm μ vs hp s) {sc : Scope} (hn : compNamesOk F.names sc.names = true) : ∃ cl, closureFor sc fm.env = pure cl ∧ ∀ x, sc.names.lookup x = some .free → cl.lookup x = fm.env.cells.lookup x := by
  refine closure_spec fun p hp hf => ?_
  obtain ⟨x, k⟩ := p
  have hf : k = .free := hf
  subst hf
  have h2 := (compNames_spec hn hp).2.2.2.2 rfl
  have hp' : fm.env.kindOf x = some .cell ∨ fm.env.kindOf x = some .free := by
    have : fm.env.kindOf x = F.names.lookup x := by show fm.env.scope.names.lookup x = _; rw [ok.names]
    rw [this]; exact h2
  obtain ⟨c, o, e, _⟩ := R.cel x hp'
  exact ⟨c, e⟩

end
section
variable {C : Cx} {F : Frm} {fm : Fm} {μ μ' μ₀ : Mu} {vs vs' : Vars} {hp hp' : List V} {s s' s₀ : Shared} {A : Around} {Q : Value → Shared → Prop} {QB : Bool → Shared → Prop} {QL : List Value → Shared → Prop} {QF : Flow → Shared → Prop} {E : Value → Shared → Prop} {n : Nat} {M : List Addr}
theorem cap_free {names : List (Str × NameKind)} {x : Str} (h : names.lookup x = some .free) : ∀ {vs : Vars}, (capV names vs).lookup x = vs.lookup x
  | [] => rfl
  | (y, u) :: vs => by
    show (List.filter _ ((y, u) :: vs)).lookup x = _
    rw [List.filter_cons]
    cases q : x == y with
    | true =>
      rw [if_pos (by rw [← eq_of_beq q, h]; rfl), List.lookup_cons, List.lookup_cons, q]
    | false =>
      have ih : (List.filter (fun p => names.lookup p.1 == some .free) vs).lookup x = vs.lookup x := cap_free h
      split
      · rw [List.lookup_cons, List.lookup_cons, q]; exact ih
      · rw [List.lookup_cons, q]; exact ih
theorem cap_sub {names : List (Str × NameKind)} {cvs : Vars} (h : Sub cvs vs) (hf : ∀ p ∈ cvs, names.lookup p.1 = some .free) : Sub cvs (capV names vs) := fun x v e => by
  rw [cap_free (hf (x, v) (mem_of_lookup e))]; exact h x v e

theorem comp_run {β : Type} {tv : β → Vars} {sp : V → (β → Prop) → Prop} {T : β → WB} {We : β → WP} {Wi : WP} {elt t it : Expr} {ifs : List Expr} {sc : Scope} {cvs : Vars} (ht : TG C (fC F sc) t tv sp) (hi : SE C n F vs it Wi) (hi' : ∀ b, SI C n (fC F sc) (tv b ++ cvs) ifs (T b)) (he' : ∀ b, SE C n (fC F sc) (tv b ++ cvs) elt (We b)) (hcv : Sub cvs vs) (hcf : ∀ p ∈ cvs, sc.names.lookup p.1 = some .free)
    (hn : compNamesOk F.names sc.names = true) (hk : sc.kind = .function) (hset : ∀ env x, foldedSetIterable it env x = pure x) (a : At C n F vs fm μ vs' hp s) {pos fpos : Pos} {use : Option (Value → Sem Unit)} {K X} (w : eComp Wi sp T We hp K X) (kx : X → ∀ x s', Fly C fm x s' → E x s')
    (hP : ∀ l hp' s₁ μ₁ s' μ' D (cenv : Env), K (.list l) hp' → Step fm μ s μ₁ s₁ → Step fm μ₁ s₁ μ' s' → Rel C (fm.withP [cenv.locals]) μ' vs' hp' s' → VR C s'.heap μ' ((fm.withP [cenv.locals]).D μ') (.list l) (.ref D) → CellsIn fm → (∃ m, s'.heap.Ns cenv.locals m) → s₁.heap.get? cenv.locals = none →
      compEnd C.M fm.A E use Q (.ref D) cenv (.ok .next) s') :
    wpAny C.M fm.A (comprehension (.ListComp elt [⟨t, it, ifs, 0⟩] sc pos) sc fm.env fpos (newList []) false (eval it fm.env) use) Q E s := by
  have hc := a.R.cellsIn
  obtain ⟨cl, hcl, hcl'⟩ := closure_of a.ok a.R hn
  refine comp_rule rfl (hset _) hcl hk (fun y hy hl => (compNames_spec hn (x := y.1) (k := y.2) hy).2.2.2.1 hl) ?_
  refine hi.run a w (.of (fun iv hp1 s1 μ1 val w1 st1 R1 rv => ?_) kx)
  obtain ⟨items, ⟨hlen, J, j0, jn, je⟩, hit⟩ := iter_sound (A := fm.A) (E := E) R1 rv w1.len a.ok.handled
  exact comp_core ht hi' he' (cap_sub (hcv.trans a.sub) hcf) a.ok a.rm R1 rv hn hk hcl' kx hlen hit j0 jn fun acc hp2 j s2 μ2 D cenv st2 R2 rl ns fr => hP acc hp2 s1 μ1 s2 μ2 D cenv (je _ _ j) st1 st2 R2 rl hc ns fr
theorem SE.comp {β : Type} {tv : β → Vars} {sp : V → (β → Prop) → Prop} {T : β → WB} {We : β → WP} {Wi : WP} {elt t it : Expr} {ifs : List Expr} {sc : Scope} {pos : Pos} (cvs : Vars) (hn : compNamesOk F.names sc.names = true) (hk : sc.kind = .function) (hset : ∀ env x, foldedSetIterable it env x = pure x) (hcv : Sub cvs vs) (hcf : ∀ p ∈ cvs, sc.names.lookup p.1 = some .free)
    (hi : SE C n F vs it Wi) (ht : TG C (fC F sc) t tv sp) (hi' : ∀ b, SI C n (fC F sc) (tv b ++ cvs) ifs (T b)) (he' : ∀ b, SE C n (fC F sc) (tv b ++ cvs) elt (We b)) : SE C n F vs (.ListComp elt [⟨t, it, ifs, 0⟩] sc pos) (eComp Wi sp T We) := ⟨fun {fm μ vs' hp s Q E K X} a w k => by
  rw [eval_ListComp]
  refine comp_run (use := Option.none) ht hi hi' he' hcv hcf hn hk hset a w k.ex fun l hp' s1 μ1 s' μ' D cenv h1 st1 st2 R2 rl hc ns fr => ?_
  obtain ⟨m, hm⟩ := ns
  refine ⟨m, hm, fun h' hs => ?_⟩
  have hx : ∀ b o, b ∉ [cenv.locals] → s'.heap.get? b = some o → h'.get? b = some o := fun b o hb e => hs.extBut b o (fun q => hb (List.mem_singleton.mpr q)) e
  have Rd : Rel C fm μ' vs' hp' { s' with heap := h' } := Rel.drop a.ok hc R2 hx
  have hk : ∀ b o, s1.heap.get? b = some o → b ≠ cenv.locals := fun b o e q => by rw [q, fr] at e; cases e
  refine (k.trans st1).ok h1 { s' with heap := h' } μ' (.ref D) ⟨fun b o h1 h2 e => hs.extBut b o (hk b o e) (st2.keep b o h1 h2 e), st2.pre, fun b o e => ?_⟩ Rd (VR.mono (fun b o n e => hx b o (fun q => n (mem_DP.mpr (.inl q))) e) (fun _ _ e => e) (fun b hb => .inl (mem_DP.mpr (.inr hb))) rl)
  obtain ⟨o', e'⟩ := st2.live b o e
  exact ⟨o', hs.extBut b o' (hk b o e) e'⟩⟩

/-- `x = [... for ...]`, when the name is stored before the comprehension's names are let go -/
theorem S1.comp {β : Type} {tv : β → Vars} {sp : V → (β → Prop) → Prop} {T : β → WB} {We : β → WP} {Wi : WP} {elt t it : Expr} {ifs : List Expr} {sc : Scope} {pos : Pos} {x : Str} {np spos : Pos} (cvs : Vars) (hx : F.names.lookup x = some .local) (hsw : ∀ env : Env, env.scope.kind = .function → env.scope.names = F.names → swapsWith (.ListComp elt [⟨t, it, ifs, 0⟩] sc pos) (some (.Name x np)) spos.line env = pure true)
    (hn : compNamesOk F.names sc.names = true) (hk : sc.kind = .function) (hset : ∀ env x, foldedSetIterable it env x = pure x) (hcv : Sub cvs vs) (hcf : ∀ p ∈ cvs, sc.names.lookup p.1 = some .free)
    (hi : SE C n F vs it Wi) (ht : TG C (fC F sc) t tv sp) (hi' : ∀ b, SI C n (fC F sc) (tv b ++ cvs) ifs (T b)) (he' : ∀ b, SE C n (fC F sc) (tv b ++ cvs) elt (We b)) : S1 C n F (fun v => (x, v) :: vs) vs (.Assign [.Name x np] (.ListComp elt [⟨t, it, ifs, 0⟩] sc pos) spos) (sSet (eComp Wi sp T We)) := ⟨fun {fm M μ₀ s₀ μ vs' hp s QF E Kn Kr X} a fn hlow sst w k => by
  rw [exec_Assign_Name_used _ _ _ _ (hsw _ a.ok.kind a.ok.names)]
  refine wpAny_bind (wpAny_standAt (wpAny_bind ?_))
  show wpAny _ fm.A (do let _ ← comprehension (.ListComp elt [⟨t, it, ifs, 0⟩] sc pos) sc fm.env _ (newList []) false (eval it fm.env) (some (assign (.Name x np) fm.env))) _ _ s
  refine wpAny_bind (wpAny_mono (comp_run (use := some (assign (.Name x np) fm.env)) (Q := fun _ s' => QF .next s') ht hi hi' he' hcv hcf hn hk hset a w (fun hx y s' hf => k.ex hx y s' (.inl hf)) fun l hp' s1 μ1 s' μ' D cenv h1 st1 st2 R2 rl hc ns fr => ?_) (fun _ s' hq => wpAny_pure (wpAny_pure hq)) fun _ _ e => e)
  have ok' := a.ok.withP [cenv.locals]
  obtain ⟨_, _, nI⟩ := ndP.mp R2.nd
  have cI : cenv.locals ∈ [cenv.locals] := List.mem_singleton.mpr rfl
  refine wpAny_assign_Name ((store_local hx).run (fm := fm.withP [cenv.locals]) ok' R2 rl fun s3 R3 S3 => ?_)
  obtain ⟨m, hm⟩ := ns
  refine ⟨m, hm.at' fun o e => S3.keep _ o (fun q => nI _ cI (mem_D.mpr (.inl q))) (fun q => nI _ cI (mem_D.mpr (.inr (.inl q)))) e, fun h' hs => ?_⟩
  have hxx : ∀ b o, b ∉ [cenv.locals] → s3.heap.get? b = some o → h'.get? b = some o := fun b o hb e => hs.extBut b o (fun q => hb (List.mem_singleton.mpr q)) e
  have Rd : Rel C fm μ' (setV vs' x (.list l)) hp' { s3 with heap := h' } := Rel.drop a.ok hc R3 hxx
  have hk : ∀ b o, s1.heap.get? b = some o → b ≠ cenv.locals := fun b o e q => by rw [q, fr] at e; cases e
  obtain ⟨ν, rfl, hν⟩ := st2.pre
  refine k.nx h1 ((sst.step st1).step (μ' := μ1 ++ ν) (s' := { s3 with heap := h' }) ⟨fun b o h1 h2 e => ?_, ⟨ν, rfl, hν⟩, fun b o e => ?_⟩) Rd (Sub.app (A := [(x, _)]) a.sub fun y => lookup_set_cons _ x y _)
  · refine hs.extBut b o (hk b o e) (S3.keep b o h1 (fun hm => ?_) (st2.keep b o h1 h2 e))
    rw [muA_append] at hm
    rcases List.mem_append.mp hm with q | q
    · exact h2 q
    · rw [hν b q] at e; cases e
  · obtain ⟨o', e'⟩ := st2.live b o e
    obtain ⟨o2, e2⟩ := S3.live b o' e'
    exact ⟨o2, hs.extBut b o2 (hk b o e) e2⟩⟩

end


open PySem.Calls Builtin Builtin.ObjectAttr in
section
variable {prog : Program} {w : World} {A : Around} {E : Value → Shared → Prop} {K : Frag} {R : Result → Shared → Prop} {h : Heap} {g : Array GenState} {d : Drawn} {t : Nat} {os : OsState}
variable {nm q : Str} {cl md N : Addr} {bs : List Value} {sn : List Str} {sub : List Value} {ab : Bool} {col : Option Bool} {dd : Option Addr} {k0 k1 k2 k3 k5 : Option Value}

noncomputable abbrev bmE : List Value := [.type "Exception", .type "BaseException", .type "object"]

theorem xcheck_new {M : Model} {rest : List Value} {Q : Unit → Shared → Prop} (hC : h.get? cl = some (excClassObj nm q cl N bs (.ref md :: bmE) true sn sub ab col dd k0 k1 k2 k3 k5 "Exception.__new__"))
    (hq : Q () ⟨h, g, d, t, os⟩) : wpAny M A (checkBuiltinCall "Exception.__new__" ⟨.ref cl :: rest, []⟩) Q E ⟨h, g, d, t, os⟩ := by
  have Fn := PySem.F.excBase_Exception
  have hcont : (Value.ref cl :: .ref md :: bmE).contains (.type "Exception") = true := by simp [bmE]
  have hstar := Fn.noStar
  simp only [checkBuiltinCall, Fn.newKind, Fn.newSplit, Fn.newRow]
  repeat (first | refine wpAny_loadPart_at hC ?_ | (refine wpAny_isSubtype_exc hC ?_; rw [hcont]) | refine wpAny_staticBase_exc hC ?_ | refine wpAny_madeBy_exc hC ?_ | simp only [bne_self_eq_false, Bool.false_eq_true, if_false] | wp_step)
  exact hq

theorem xnew {rest : List Value} (hC : h.get? cl = some (excClassObj nm q cl N bs (.ref md :: bmE) true sn sub ab col dd k0 k1 k2 k3 k5 "Exception.__new__"))
    (hq : R (.ok (.ret (.ref (h.objs.size + 1)))) ⟨(h.push { cls := .type "tuple", data := .seq rest.toArray }).push
      { cls := .ref cl, data := .fields #[.ref h.objs.size, .none, .none, .none, .bool false, .none] }, g, d, t, os⟩) (hrest : rest.length ≤ sizeLine := by size_fits) :
    codeAny (model prog w) A (.builtin "Exception.__new__" ⟨.ref cl :: rest, []⟩) R ⟨h, g, d, t, os⟩ := by
  have Fn := PySem.F.excBase_Exception
  have hends := Fn.ends
  have hcB : (Value.ref cl :: .ref md :: bmE).contains (.type "Exception") = true := by simp [bmE]
  have hcA : (Value.ref cl :: .ref md :: bmE).contains (.type "AttributeError") = false := by simp [bmE]
  have hcN : (Value.ref cl :: .ref md :: bmE).contains (.type "NameError") = false := by simp [bmE]
  refine codeAny_builtinAt Fn.entry ?_
  unfold Builtin.«BaseException.__new__»
  refine PySem.wpAt_bind ?_
  show PySem.wpAt _ _ _ (stack >>= _) _ _ _
  refine PySem.wpAt_bind (PySem.wpAt_stack fun p below => PySem.wpAt_of_wpAny ?_)
  wp_walk
  refine PySem.wpAt_of_wpAny ?_
  rw [Fn.owner]
  repeat (first | with_reducible refine wpAny_madeHere_exc Fn.canon hC ?_ | with_reducible refine wpAny_loadPart_at hC ?_ | (with_reducible refine wpAny_isSubtype_exc hC ?_; first | rw [hcB] | rw [hcA] | rw [hcN]) | wp_step)
  show R _ _
  rw [Heap.size_push]
  exact hq

/-- an exception of the text's own class, whose `__init__` is the text's own too -/
theorem xmake {rest : List Value} {fI : Addr} {Q : Value → Shared → Prop} (X : K.In h) (hC : h.get? cl = some (excClassObj nm q cl N bs (.ref md :: bmE) true sn sub ab col dd k0 k1 k2 k3 k5 "Exception.__new__"))
    (hi : findIn K (.ref cl) "__init__" = some (some (.ref fI))) (hf : typeIn K (.ref fI) = some (.type "function"))
    (hq : ∀ h' e, Heap.MadeExcOf h h' e (.ref cl) rest →
      wpAny (model prog w) (A.under (.builtin "type.__call__" ⟨.ref cl :: rest, []⟩)) (call (.ref fI) (.ref e :: rest)) (fun r s' => r = .none ∧ Q (.ref e) s') E ⟨h', g, d, t, os⟩) (hrest : rest.length ≤ sizeLine := by size_fits) :
    wpAny (model prog w) A (call (.ref cl) rest) Q E ⟨h, g, d, t, os⟩ := by
  have f1 := tc_lookup
  have f2 := tc_bind (.ref cl)
  have hT : (⟨h, g, d, t, os⟩ : Shared).TypeIs (.ref cl) "type" := ⟨_, hC, rfl⟩
  refine wpAny_call (codeAny_of_tree ?_)
  show wpAny _ _ (callAny (.ref cl) _) _ _ _
  repeat (any_goals (first | assumption | with_reducible refine wpAny_loadPart_at hC ?_ | wp_step))
  refine ⟨rfl, ?_⟩
  refine codeAny_call_builtin_at (Code.quiet_builtin _ (by decide +kernel)) entry_typeCall (wpAny_check_type_call_sub hC ?_)
  show wpAny _ _ (Builtin.«type.__call__» ⟨.ref cl :: rest, []⟩) _ _ _
  repeat (first | with_reducible refine wpAny_loadPart_at hC ?_ | with_reducible refine wpAny_madeBy_exc hC ?_ | wp_step)
  refine codeAny_call_builtin_code (Code.quiet_builtin _ PySem.F.excBase_Exception.quiet) (xcheck_new hC ?_)
  refine xnew hC ?_ hrest
  show wpAny _ _ _ _ _ _
  have hC₁ := Heap.get?_push_of_some { cls := .ref cl, data := .fields #[.ref h.objs.size, .none, .none, .none, .bool false, .none] }
    (Heap.get?_push_of_some { cls := .type "tuple", data := .seq rest.toArray } hC)
  have X₁ : K.In ((h.push { cls := .type "tuple", data := .seq rest.toArray }).push { cls := .ref cl, data := .fields #[.ref h.objs.size, .none, .none, .none, .bool false, .none] }) :=
    fun b o e => Heap.get?_push_of_some _ (Heap.get?_push_of_some _ (X b o e))
  have hget : ((h.push { cls := .type "tuple", data := .seq rest.toArray }).push
      { cls := .ref cl, data := .fields #[.ref h.objs.size, .none, .none, .none, .bool false, .none] }).get? (h.objs.size + 1) = some
      { cls := .ref cl, data := .fields #[.ref h.objs.size, .none, .none, .none, .bool false, .none] } := by heap_get
  have hcC : (Value.ref cl :: .ref md :: bmE).contains (.ref cl) = true := by simp
  unfold isInstance
  repeat (first | with_reducible refine wpAny_loadPart_at hget ?_ | (with_reducible refine wpAny_isSubtype_exc hC₁ ?_; rw [hcC]) | wp_step)
  show wpAny _ _ (typeLookup (.ref cl) _) _ _ _
  refine (looks_findIn X₁ hi).here ?_
  refine wpAny_holding (wpAny_bind ((bind_fn X₁ _ hf).here ?_))
  refine wpAny_bind (wpAny_mono (hq _ (h.objs.size + 1) ⟨fun b o hb => Heap.get?_push_of_some _ (Heap.get?_push_of_some _ hb), Heap.get?_none_of_le (Nat.le_succ _), h.objs.size, hget, Heap.get?_none_of_le (Nat.le_refl _), ?_⟩) (fun r s' hr => ?_) fun _ _ x => x)
  · exact Heap.get?_push_of_some _ (Heap.get?_push_at rfl rfl)
  · obtain ⟨rfl, hQ⟩ := hr
    wp_walk
    exact hQ
end


open PySem.Calls Builtin Builtin.ObjectAttr in
section
variable {prog : Program} {w : World} {A : Around} {E : Value → Shared → Prop} {K : Frag} {R : Result → Shared → Prop} {h : Heap} {g : Array GenState} {d : Drawn} {t : Nat} {os : OsState}
variable {nm q : Str} {cl md N e : Addr} {bs : List Value} {sn : List Str} {sub : List Value} {ab : Bool} {col : Option Bool} {dd : Option Addr} {k0 k1 k2 k3 k5 : Option Value}

theorem xset {fs : Array Value} {name : Str} {v : Value} {Q : Unit → Shared → Prop} (X : K.In h) (hK : K.lookup cl = some (excClassObj nm q cl N bs (.ref md :: bmE) true sn sub ab col dd k0 k1 k2 k3 k5 "Exception.__new__"))
    (he : h.get? e = some { cls := .ref cl, data := .fields fs }) (hs : findIn K (.ref cl) "__setattr__" = some (some (.builtin "object.__setattr__"))) (ht : findIn K (.ref cl) name = some none)
    (hq : ∀ h' tk' dx, (∀ b o, b ≠ e → h.get? b = some o → h'.get? b = some o) → h'.get? e = some { cls := .ref cl, dict := some dx, data := .fields fs } → Q () ⟨h', g, d, tk', os⟩) :
    wpAny (model prog w) A (setAttr (.ref e) name v) Q E ⟨h, g, d, t, os⟩ := by
  have I : W.InstAt h e { cls := .ref cl, data := .fields fs } cl none := ⟨he, rfl, rfl, trivial⟩
  have hC := X _ _ hK
  refine set_plain (s := ⟨h, g, d, t, os⟩) X I hs ?_
  have SF := PySem.F.store_object
  have hc : ∃ cd, clsIn K cl = some cd ∧ cd.mro = .ref cl :: .ref md :: bmE ∧ cd.hasDict = true := ⟨_, by unfold clsIn; rw [hK], rfl, rfl⟩
  obtain ⟨cd, hc, hmro, hdict⟩ := hc
  have sub : Looks (model prog w) h (isInstance (.ref e) (.type "object")) true := I.type.andThen (looks_mroIn X (by unfold mroIn; rw [hc, Option.bind_some, if_neg (by rw [hmro]; simp), hmro]; simp [bmE]))
  refine codeAny_call_builtin SF.slot.plain SF.entry (@check_slot (model prog w) _ _ ⟨h, g, d, t + 1, os⟩ "object.__setattr__" "object" "__setattr__" (.ref e) [.str name t, v] [] _ SF.kind SF.split sub (SF.args (.ref e) (.str name t) v) ?_)
  have hm : Looks (model prog w) h (mroOf (.ref cl)) cd.mro := (looks_clsIn X hc).andThen .now
  rw [osa_eq, refuse_eq]
  refine wpAny_bind (wpAny_bind (I.type.here (wpAny_bind (hm.here ?_))))
  rw [hmro, refuseLoop_ref, refuseLoop_ref, PySem.F.store_Exception.passes]
  refine wpAny_pure (wpAny_bind (I.type.here (wpAny_bind ((looks_findIn X ht).here (wpAny_bind (wpAny_of_eq (a := (none : Option Value)) rfl ?_))))))
  dsimp only
  unfold storeInOwnDict
  refine wpAny_bind (wpAny_pure (wpAny_bind ?_))
  show wpAny _ _ (instanceDict e true) _ _ _
  unfold instanceDict
  refine wpAny_bind (wpAny_loadPart he ?_)
  dsimp only
  refine wpAny_bind ((looks_clsIn X hc).here ?_)
  rw [hdict]
  simp only [Bool.not_true, Bool.false_eq_true, if_false]
  rw [if_neg (by simp [typeHasDict])]
  have he₁ : (h.push { cls := .type "dict", data := .dict #[] }).get? e = some { cls := .ref cl, data := .fields fs } := Heap.get?_push_of_some _ he
  have hes : e ≠ h.objs.size := Nat.ne_of_lt (Heap.lt_size he)
  refine wpAny_bind (wpAny_alloc (wpAny_bind (wpAny_update he₁ ?_)))
  refine wpAny_pure (a := some h.objs.size) ?_
  generalize hH : ((h.push { cls := .type "dict", data := .dict #[] }).update e fun o => { cls := o.cls, dict := some h.objs.size, data := o.data, slots := o.slots }) = H
  have hgd : H.get? h.objs.size = some { cls := .type "dict", data := .dict #[] } := by
    rw [← hH]; exact (Heap.get?_update_ne _ _ _ _ hes.symm).trans (Heap.get?_push_at rfl rfl)
  have hge : H.get? e = some { cls := .ref cl, dict := some h.objs.size, data := .fields fs } := by
    rw [← hH, Heap.get?_update_self _ he₁ rfl]
  have hnd : H.Ns h.objs.size (fun _ => none) := ⟨_, #[], _, hgd, rfl, fun e he => absurd he (by simp), fun _ => rfl⟩
  dsimp only
  unfold storeInDict newKeyGuard
  refine wpAny_bind (wpAny_pure (wpAny_bind (wpAny_nsSet1 (Heap.Ns1.of_empty hnd) fun h' hn' hs' => ?_)))
  obtain ⟨oD, esD, epD, hoD, hdD, hcD⟩ := hn'.count (Within.cons name v Within.nil)
  refine wpAny_bind (wpAny_lookBehind hoD (by rw [hdD]; exact pastItsLine_dict (Nat.le_trans hcD (by rw [List.length_cons, List.length_nil, sizeLine_eq]; omega))) ?_)
  refine wpAny_pure (hq h' _ h.objs.size (fun b o hb eb => ?_) ((hs'.2 e hes).trans hge))
  refine (hs'.2 b (Nat.ne_of_lt (Heap.lt_size eb))).trans ?_
  rw [← hH]
  exact (Heap.get?_update_ne _ _ _ _ hb).trans (Heap.get?_push_of_some _ eb)
end

section
variable {M : Model} {A : Around} {E : Value → Shared → Prop} {env : Env}
variable {nm q : Str} {cl md N : Addr} {bs : List Value} {sn : List Str} {sub : List Value} {ab : Bool} {col : Option Bool} {dd : Option Addr} {k0 k1 k2 k3 k5 : Option Value}

theorem xraise {s : Shared} {x : Sem Value} {Q : Flow → Shared → Prop} (hh : A.handled = none)
    (h : wpAny M A x (fun v s₁ => ∃ e t dx, v = .ref e ∧ s₁.heap.get? cl = some (excClassObj nm q cl N bs (.ref md :: bmE) true sn sub ab col dd k0 k1 k2 k3 k5 "Exception.__new__") ∧
      s₁.heap.get? e = some { cls := .ref cl, dict := some dx, data := .fields #[.ref t, .none, .none, .none, .bool false, .none] } ∧ E (.ref e) s₁) E s) :
    wpAny M A (raiseStmt env (some x) none) Q E s := by
  have hcB : (Value.ref cl :: .ref md :: bmE).contains (.type "BaseException") = true := by simp [bmE]
  unfold raiseStmt
  refine wpAny_bind (wpAny_mono h (fun v s₁ h₁ => ?_) fun _ _ x => x)
  obtain ⟨e, t, dx, rfl, hC, he, hE⟩ := h₁
  obtain ⟨hp, g, d, tk, os⟩ := s₁
  repeat (first | with_reducible refine wpAny_loadPart_at he ?_ | with_reducible refine wpAny_loadPart_at hC ?_ | (with_reducible refine wpAny_isSubtype_exc hC ?_; rw [hcB]) | wp_step)
  exact wpAny_raiseNew_none hh hE
end


noncomputable def initOK (fi : FnInfo) : Prop := ∃ a1 a2 p1 p2 p3 p4 ns, fi = ⟨[a1, a2], [.Assign [.Attribute (.Name ("self" : Str) p1) ("message" : Str) p2] (.Name ("message" : Str) p3) p4], ns, false⟩ ∧ a1.arg = ("self" : Str) ∧ a2.arg = ("message" : Str) ∧
  ns.lookup ("self" : Str) = some .local ∧ ns.lookup ("message" : Str) = some .local

structure ExcOK (C : Cx) : Prop where
  cls : ∃ cl md N nm q bs sn sub ab col dd k0 k1 k2 k3 k5 fI, nsIn C.K mainGlobals "FontFault" = some (some (.ref cl)) ∧
    C.K.lookup cl = some (excClassObj nm q cl N bs (.ref md :: bmE) true sn sub ab col dd k0 k1 k2 k3 k5 "Exception.__new__") ∧
    findIn C.K (.ref cl) "__init__" = some (some (.ref fI)) ∧ FnIs C fI (methOf "MillError" "__init__") ∧
    findIn C.K (.ref cl) "__setattr__" = some (some (.builtin "object.__setattr__")) ∧ findIn C.K (.ref cl) "message" = some none ∧ keepIn C.K (.ref cl) = true
  init : initOK (methOf "MillError" "__init__")

open PySem.Calls in
section
variable {C : Cx} {F : Frm} {fm : Fm} {μ μ' μ₀ : Mu} {vs vs' : Vars} {hp hp' : List V} {s s' s₀ : Shared} {A : Around} {M : List Addr} {Q : Value → Shared → Prop} {QF : Flow → Shared → Prop} {QB : Bool → Shared → Prop} {QL : List Value → Shared → Prop} {E : Value → Shared → Prop} {n : Nat}

/-- `self.message = message`, of an exception that was just made -/
theorem init_sound {cl md N : Addr} {nm q : Str} {bs : List Value} {sn : List Str} {sub : List Value} {ab : Bool} {col : Option Bool} {dd : Option Addr} {k0 k1 k2 k3 k5 : Option Value} {fI : Addr} {fi : FnInfo} {fs : Array Value} {e : Addr} {msg : Value}
    (hb : C.base.StaysIn s.heap) (hK : C.K.lookup cl = some (excClassObj nm q cl N bs (.ref md :: bmE) true sn sub ab col dd k0 k1 k2 k3 k5 "Exception.__new__"))
    (hset : findIn C.K (.ref cl) "__setattr__" = some (some (.builtin "object.__setattr__"))) (hmsg : findIn C.K (.ref cl) "message" = some none) (fi_is : FnIs C fI fi) (hi : initOK fi)
    (he : s.heap.get? e = some { cls := .ref cl, data := .fields fs }) (hd : A.depth + 2 < recursionLimit) {P : Value → Shared → Prop}
    (k : ∀ h' tk dx, (∀ b o, b ≠ e → s.heap.get? b = some o → h'.get? b = some o) → h'.get? e = some { cls := .ref cl, dict := some dx, data := .fields fs } → P .none { s with heap := h', toks := tk }) :
    wpAny C.M A (call (.ref fI) [.ref e, msg]) P E s := by
  obtain ⟨o, fd, ho, hdat, hpar, hbody, hnames, hkind, hgen, hco, hclo, hglob, hblt, hbind0, hcode⟩ := fi_is.obj
  obtain ⟨a1, a2, p1, p2, p3, p4, nms, rfl, ha1, ha2, hl1, hl2⟩ := hi
  have hoh : s.heap.get? fI = some o := hb fI o (C.inK fI o ho)
  have K0 : ∀ b o, C.base.get? b = some o → s.heap.get? b = some o := hb
  have hbind := hbind0 [.ref e, msg] rfl
  refine wpAny_call (codeAny_call_function (by omega) hoh hdat hco hgen hbody (codeRec_of (C.inK.keeps K0) hcode) ?_)
  rw [hbind, hclo, hglob, hblt]
  refine wpAny_pure ?_
  have hk : ∀ m, ∀ x ∈ (([a1, a2] : List Arg).map (·.arg)).zip [.ref e, msg], fd.scope.names.lookup x.1 = some .local ∨ (fd.scope.names.lookup x.1 = some .cell ∧ ((cellsFrom m fd.scope.names []).lookup x.1).isSome = true) := fun m x hx => by
    left
    have h1 := (List.of_mem_zip (a := x.1) (b := x.2) hx).1
    simp only [List.map_cons, List.map_nil, List.mem_cons, List.not_mem_nil, or_false] at h1
    rw [hnames]
    rcases h1 with q | q
    · rw [q, ha1]; exact hl1
    · rw [q, ha2]; exact hl2
  refine wpAny_newFunctionEnv_cells hkind (hk _) fun env he' s₁ x => ?_
  have hLim : s₁.heap.NoLimit := (C.top.nolimit.keeps K0).keeps x.toInCall.keep
  refine ⟨hLim, codeAny_func ?_⟩
  have eS : env.scope = fd.scope := by subst he'; rfl
  obtain ⟨hq, tq, es1, hkeep⟩ := x.done
  have nd := nodupS_spec fi_is.nodup
  have kS : env.kindOf ("self" : Str) = some .local := by show env.scope.names.lookup _ = _; rw [eS, hnames]; exact hl1
  have kM : env.kindOf ("message" : Str) = some .local := by show env.scope.names.lookup _ = _; rw [eS, hnames]; exact hl2
  have kk : env.scope.kind = .function := by rw [eS]; exact hkind
  have hns := x.toInCall.ns
  have vS : bindL (fun y => env.kindOf y) ((([a1, a2] : List Arg).map (·.arg)).zip [.ref e, msg]) (fun _ => none) ("self" : Str) = some (.ref e) := by
    rw [bindL_lookup (kindOf := fun y => env.kindOf y) kS nd]
    simp [List.lookup_cons, ha1]
  have vM : bindL (fun y => env.kindOf y) ((([a1, a2] : List Arg).map (·.arg)).zip [.ref e, msg]) (fun _ => none) ("message" : Str) = some msg := by
    rw [bindL_lookup (kindOf := fun y => env.kindOf y) kM nd]
    have : ((("message" : Str)) == ("self" : Str)) = false := by decide
    simp [List.lookup_cons, ha1, ha2, this]
  refine wpAny_execs_cons ?_
  rw [plainObj_exec_Assign_Attribute _ _ _ _ _ notAttr]
  refine wpAny_bind (wpAny_standAt (wpAny_bind (wpAny_Name (wpAny_loadName_local kk kM hns vM ?_) (by decide))))
  rw [assign_Attribute]
  refine wpAny_bind (wpAny_bind (wpAny_holding (wpAny_Name (wpAny_loadName_local kk kS hns vS ?_) (by decide))))
  refine wpAny_bind (wpAny_standAt (wpAny_bind (wpAny_holding ?_)))
  have he1 := x.toInCall.keep e _ he
  obtain ⟨hh, g, d, t, os⟩ := s₁
  refine xset (fs := fs) (C.inK.keeps fun b o eb => x.toInCall.keep b o (K0 b o eb)) hK he1 hset hmsg fun h' tk' dx hx hge => ?_
  refine wpAny_release (wpAny_pure (wpAny_execs_nil ?_))
  cases es1
  exact k h' tk' dx (fun b o hne eb => hx b o hne (x.toInCall.keep b o eb)) hge
end


open PySem.Calls in
section
variable {C : Cx} {F : Frm} {fm : Fm} {μ μ' μ₀ : Mu} {vs vs' : Vars} {hp hp' : List V} {s s' s₀ : Shared} {A : Around} {M : List Addr} {Q : Value → Shared → Prop} {QF : Flow → Shared → Prop} {QB : Bool → Shared → Prop} {QL : List Value → Shared → Prop} {E : Value → Shared → Prop} {n : Nat}

noncomputable def sRaise {α : Type} (a : WP) : WS α := fun hp _ _ X => a hp (fun v _ => wS v fun _ => X) X
theorem S1.raise {α : Type} {st : α → Vars} {np e cp pos A} (X0 : ExcOK C) (hn1 : 0 < n) (hs : noStar [e] = true) (hg : F.names.lookup ("FontFault" : Str) = some .globalImplicit) (h : SE C n F vs e A) : S1 C n F st vs (.Raise (some (.Call (.Name ("FontFault" : Str) np) [e] [] cp)) none pos) (sRaise A) := ⟨fun {fm M μ₀ s₀ μ vs' hp s Q E Kn Kr X} a fn hlow sst w k => by
  have ok := a.ok
  have R := a.R
  have hA : SA C n F vs [e] (aCons A aNil) := SA.cons h SA.nil hs
  obtain ⟨cl, md, N, nm, q, bs, sn, sub, ab, col, dd, k0, k1, k2, k3, k5, fI, x1, x2, x3, x4, x5, x6, x7⟩ := X0.cls
  have K0 : ∀ b o, C.base.get? b = some o → s.heap.get? b = some o := R.base
  rw [arm_exec_Raise]
  show wpAny C.M fm.A (standAt pos >>= fun _ => raiseStmt fm.env (some (do let v ← eval (.Call (.Name ("FontFault" : Str) np) [e] [] cp) fm.env; standAt pos; pure v)) none) Q E s
  refine wpAny_bind (wpAny_standAt (xraise (cl := cl) (md := md) (N := N) (nm := nm) (q := q) (bs := bs) (sn := sn) (sub := sub) (ab := ab) (col := col) (dd := dd) (k0 := k0) (k1 := k1) (k2 := k2) (k3 := k3) (k5 := k5) ok.handled ?_))
  refine wpAny_bind ?_
  rw [arm_eval_Call_Name']
  refine wpAny_bind (Calls.Name_function_global ok.kind (by show fm.env.scope.names.lookup _ = _; rw [ok.names]; exact hg) ?_ (by decide))
  refine Calls.loadGlobal_global (env := fm.env) (by rw [ok.glob]; exact C.top.g.keeps K0) (mg_of C.inK C.top.g x1) ?_
  refine callWith_run (first := []) (K := fun l _ => w1 l fun v => wS v fun _ => X) hA a (keepOK_ref x7) (Q := fun v s₁ => wpAny C.M fm.A (do standAt pos; pure v) (fun v s₁ => ∃ e t dx, v = .ref e ∧ s₁.heap.get? cl = some (excClassObj nm q cl N bs (.ref md :: bmE) true sn sub ab col dd k0 k1 k2 k3 k5 "Exception.__new__") ∧
      s₁.heap.get? e = some { cls := .ref cl, dict := some dx, data := .fields #[.ref t, .none, .none, .none, .bool false, .none] } ∧ E (.ref e) s₁) E s₁) w (fun l hp' s' μ' vals w1 st R' rvs => ?_) fun hx x s' hf => k.ex hx x s' (.inl hf)
  · obtain ⟨v, rfl, w2⟩ := w1.inv
    obtain ⟨_, _, hX⟩ := w2.inv
    have hE : ∀ x s', (Fly C fm x s' ∨ Raw C fm x s') → E x s' := k.ex hX
    obtain ⟨y, rfl, ry⟩ := rvs.one
    have hK' : C.K.In s'.heap := C.inK.keeps R'.base
    obtain ⟨hh, g, d, t, os⟩ := s'
    refine xmake hK' (hK' _ _ x2) x3 (beq_iff_eq.mp x4.fn) (fun h' ex hm => ?_) (by rw [sizeLine_eq]; simp)
    obtain ⟨tt, ht1, ht2, ht3⟩ := hm.there
    refine init_sound (s := ⟨h', g, d, t, os⟩) (fun b o eb => hm.keeps b o (R'.base b o eb)) x2 x5 x6 x4 X0.init ht1 ?_ fun h'' tk dx hk hge => ⟨rfl, ?_⟩
    · show fm.A.depth + Code.weight (.builtin "type.__call__" ⟨.ref cl :: [y], []⟩) + 2 < _
      have : Code.weight (.builtin "type.__call__" ⟨.ref cl :: [y], []⟩) = 1 := rfl
      rw [this]
      have := a.rm.1
      omega
    · refine wpAny_bind (wpAny_standAt (wpAny_pure ?_))
      have keep : ∀ b o, hh.get? b = some o → h''.get? b = some o := fun b o eb => hk b o (fun q => by rw [q, hm.new] at eb; cases eb) (hm.keeps b o eb)
      refine ⟨ex, tt, dx, rfl, keep _ _ (hK' _ _ x2), hge, hE _ _ (.inr ?_)⟩
      refine ⟨ex, .ref cl, _, _, rfl, x1, fun b o eb => keep b o (R'.base b o eb), ?_, R'.ff.of_keeps fun b o eb _ => ⟨o, keep b o eb, rfl⟩, hge, rfl, rfl, rfl, R'.gens, R'.os, fun a ha => ?_⟩
      · cases qb : C.base.get? ex with
        | none => rfl
        | some o => have := R'.base _ _ qb; rw [show (({ heap := hh, gens := g, drawn := d, toks := t, os := os } : Shared).heap) = hh from rfl, hm.new] at this; cases this
      · obtain ⟨_, m, nn⟩ := R'.nss a ha
        exact ⟨m, nn.at' fun o eb => keep a o eb⟩⟩

end


structure Low (C : Cx) (l : List Env) (s : Shared) : Prop where
  base : C.base.StaysIn s.heap
  ff : s.heap.FunFrames C.base l
  gens : s.gens = #[]
  os : s.os = C.os

section
variable {C : Cx} {F : Frm} {fm : Fm} {μ μ' μ₀ : Mu} {vs vs' : Vars} {hp hp' : List V} {s s' s₀ : Shared} {A : Around} {M : List Addr} {Q : Value → Shared → Prop} {QF : Flow → Shared → Prop} {QB : Bool → Shared → Prop} {QL : List Value → Shared → Prop} {E : Value → Shared → Prop} {n : Nat}

theorem Rel.low (R : Rel C fm μ vs hp s) : Low C (fm.fenv :: fm.outer) s := ⟨R.base, R.ff, R.gens, R.os⟩

theorem note_sound' {A : Around} {env : Env} (hA : A.frames = some (fm.fenv :: fm.outer)) (hf : fm.fenv.frame = some fm.L) (he : env.frame = some fm.L) {x : Value} {P : Unit → Shared → Prop} (h : Fly C fm x s) (k : ∀ s', Fly C fm x s' → P () s') : wpAny C.M A (noteFrame x env) P E s := by
  have en : noteFrame x env = noteFrame x fm.fenv := by unfold noteFrame PySem.frameOf; rw [he, hf]
  rw [en]
  obtain ⟨e, cls, rfl, hc, ⟨f1, f2, f3, oe, vs, T, oT, ts, t3, g1, g2, g3, g4, g5, g6, g7, g8, g9, g10⟩, z1, z2, z3⟩ := h
  rcases g10 with rfl | rfl
  · have h0 : ∃ a0, vs[0]? = some a0 := by
      have : 1 < vs.size := (Array.getElem?_eq_some_iff.mp g4).1
      exact ⟨vs[0], Array.getElem?_eq_getElem (by omega)⟩
    obtain ⟨a0, h0⟩ := h0
    refine wpAny_noteFrame_onW hA f3 hf ⟨oe, vs, T, oT, ts, g1, ⟨g2, h0⟩, g3, g4, g5, g6, g7, g8, g9⟩ f1 f2 fun h' ⟨k1, k2, k3, k4⟩ => k _ ?_
    obtain ⟨oe', vs', T', oT', ts', y1, y2, y3, y4, y5, y6, y7, y8, y9⟩ := k3
    exact ⟨e, cls, rfl, hc, ⟨k1, f2, k2, oe', vs', T', oT', ts', _, y1, y2.1, y3, y4, y5, y6, y7, y8, y9, .inr rfl⟩, z1, z2, fun a ha => let ⟨m, n⟩ := z3 a ha; ⟨m, Heap.UpToSlots.ns k4 n⟩⟩
  · exact wpAny_noteFrame_inFlight hf g1 g3 g4 g7 g8 g9 (k _ ⟨e, cls, rfl, hc, ⟨f1, f2, f3, oe, vs, T, oT, ts, _, g1, g2, g3, g4, g5, g6, g7, g8, g9, .inr rfl⟩, z1, z2, z3⟩)

theorem unflight_sound {x : Value} {P : Unit → Shared → Prop} (h : Fly C fm x s) (k : ∀ s', Fly C fm x s' → P () s') : wpAny C.M A (setFlight x none) P E s := by
  obtain ⟨e, cls, rfl, hc, ⟨f1, f2, f3, oe, vs, T, oT, ts, t3, g1, g2, g3, g4, g5, g6, g7, g8, g9, g10⟩, z1, z2, z3⟩ := h
  have hsz3 : 3 < ts.size := (Array.getElem?_eq_some_iff.mp g9).1
  refine wpAny_setFlight_none g1 g3 g4 g7 g8 hsz3 (k _ ?_)
  have other : ∀ b, b ≠ T → (s.heap.update T (Obj.mapFields (·.setIfInBounds 3 .none))).get? b = s.heap.get? b := fun b hb => Heap.get?_update_other _ _ (Ne.symm hb)
  have noRecord : ∀ b o, s.heap.get? b = some o → (∀ vs, o.data ≠ .fields vs) → b ≠ T := fun b o hb hnf q => by
    rw [q, g7] at hb; injection hb with hb; subst hb; exact hnf ts g8
  refine ⟨e, cls, rfl, hc, ⟨fun b o hbo => (other b fun q => by rw [q, g5] at hbo; cases hbo).trans (f1 b o hbo), f2, f3.of_keeps fun b o hb hnf => ⟨o, (other b (noRecord b o hb hnf)).trans hb, rfl⟩, ?_⟩, z1, z2, fun a ha => ?_⟩
  · exact ⟨oe, vs, T, _, _, _, (other e (Ne.symm g6)).trans g1, g2, g3, g4, g5, g6, Heap.get?_update_self _ g7 (Obj.isFreed_of_fields (Obj.data_mapFields g8 _)), Obj.data_mapFields g8 _, by simp [hsz3], .inl rfl⟩
  · obtain ⟨m, n⟩ := z3 a ha
    obtain ⟨o, es', ep', y1, y2, y3⟩ := n
    exact ⟨m, o, es', ep', (other a (noRecord a o y1 fun vs q => by rw [y2] at q; cases q)).trans y1, y2, y3⟩

theorem xmatch {nm q : Str} {cl md N e : Addr} {bs : List Value} {sn : List Str} {sub : List Value} {ab : Bool} {col : Option Bool} {dd : Option Addr} {k0 k1 k2 k3 k5 : Option Value} {h : Heap} {g : Array GenState} {d : Drawn} {t : Nat} {os : OsState}
    {od : Option Addr} {fs : Array Value} {sl : Array (Option Value)} {M : Model} {P : Bool → Shared → Prop}
    (hC : h.get? cl = some (excClassObj nm q cl N bs (.ref md :: bmE) true sn sub ab col dd k0 k1 k2 k3 k5 "Exception.__new__")) (he : h.get? e = some ⟨.ref cl, od, .fields fs, sl⟩) (hP : P true ⟨h, g, d, t, os⟩) :
    wpAny M A (excMatches (.ref e) (.ref cl)) P E ⟨h, g, d, t, os⟩ := by
  have hcB : (Value.ref cl :: .ref md :: bmE).contains (.type "BaseException") = true := by simp [bmE]
  have hcC : (Value.ref cl :: .ref md :: bmE).contains (.ref cl) = true := by simp
  have nt := tc_notTuple
  unfold excMatches
  repeat (first | exact hP | with_reducible refine wpAny_loadPart_at he ?_ | with_reducible refine wpAny_loadPart_at hC ?_ | (with_reducible refine wpAny_isSubtype_exc hC ?_; first | rw [hcB] | rw [hcC]) | wp_step)
end


/-- the shape of `_law_fell` -/
noncomputable def fellOK (fi : FnInfo) (e : Expr) : Prop := ∃ a p1 p2 p3 p4 p5 p6 p7 p8 k1 k2 ns, fi = ⟨[a], [.Try [.Expr e p1] [.ExceptHandler (some (.Name ("FontFault" : Str) p2)) none [.Return (some (.Constant (.bool true) k1 p3)) p4] p5] [] [] p6, .Return (some (.Constant (.bool false) k2 p8)) p7], ns, false⟩ ∧
  a.arg = ("octets" : Str) ∧ ns.lookup ("octets" : Str) = some .local ∧ ns.lookup ("FontFault" : Str) = some .globalImplicit ∧ cellsFrom 0 ns [] = []

open PySem.Calls in
section
variable {C : Cx} {F : Frm} {fm : Fm} {s s' s₀ : Shared} {A : Around} {Q : Value → Shared → Prop} {E : Value → Shared → Prop} {n : Nat}

theorem cells_nil {ns : List (Str × NameKind)} (h : cellsFrom 0 ns [] = []) : ∀ m, cellsFrom m ns [] = [] := by
  intro m
  have e1 := cellsFrom_names ns m 0 [] [] rfl
  rw [h] at e1
  cases q : cellsFrom m ns [] with
  | nil => rfl
  | cons a r => rw [q] at e1; simp at e1

theorem fell_sound (G : GOK C) (X : ExcOK C) {fa : Addr} {fi : FnInfo} {e : Expr} (fi_is : FnIs C fa fi) (hi : fellOK fi e) {lenv : Env} {L0 : Addr} (hfr : A.frames = some [lenv]) (hh : A.handled = none) (hL0 : lenv.frame = some L0) (hL0b : C.base.objs.size ≤ L0) (rm : Room A (n + 1))
    (low : Low C [lenv] s) {b : List UInt8} {t : Tok} {W : WP} (hE : SE C n ⟨fi.names, false, 0⟩ [(("octets" : Str), .bytes b)] e W) (hx : W [] (fun _ _ => False) True) (hsw : ∀ p, swapsWith e none p lenv = pure false ∧ ∀ env, swapsWith e none p env = pure false)
    (k : ∀ s', Low C [lenv] s' → Q (.bool true) s') : wpAny C.M A (call (.ref fa) [.bytes b.toArray t]) Q E s := by
  obtain ⟨o, fd, ho, hdat, hpar, hbody, hnames, hkind, hgen, hco, hclo, hglob, hblt, hbind0, hcode⟩ := fi_is.obj
  obtain ⟨a1, p1, p2, p3, p4, p5, p6, p7, p8, kk1, kk2, nms, rfl, ha1, hl1, hl2, hnc⟩ := hi
  obtain ⟨cl, md, N, nm, q, bs, sn, sub, ab, col, dd, k0, k1, k2, k3, k5, fI, x1, x2, x3, x4, x5, x6, x7⟩ := X.cls
  have K0 : ∀ b o, C.base.get? b = some o → s.heap.get? b = some o := low.base
  have hoh : s.heap.get? fa = some o := K0 fa o (C.inK fa o ho)
  have hbind := hbind0 [.bytes b.toArray t] rfl
  refine wpAny_call (codeAny_call_function (by have := rm.1; omega) hoh hdat hco hgen hbody (codeRec_of (C.inK.keeps K0) hcode) ?_)
  rw [hbind, hclo, hglob, hblt]
  refine wpAny_pure ?_
  have hk : ∀ m, ∀ x ∈ (([a1] : List Arg).map (·.arg)).zip [Value.bytes b.toArray t], fd.scope.names.lookup x.1 = some .local ∨ (fd.scope.names.lookup x.1 = some .cell ∧ ((cellsFrom m fd.scope.names []).lookup x.1).isSome = true) := fun m x hx => by
    left
    have h1 := (List.of_mem_zip (a := x.1) (b := x.2) hx).1
    simp only [List.map_cons, List.map_nil, List.mem_cons, List.not_mem_nil, or_false] at h1
    rw [hnames, h1, ha1]; exact hl1
  refine wpAny_newFunctionEnv_cells hkind (hk _) fun env he' s₁ x => ?_
  have hLim : s₁.heap.NoLimit := (C.top.nolimit.keeps K0).keeps x.toInCall.keep
  refine ⟨hLim, codeAny_func ?_⟩
  have eL : env.locals = s.heap.objs.size := by subst he'; rfl
  have eC : env.cells = [] := by subst he'; show cellsFrom _ fd.scope.names [] = []; rw [hnames]; exact cells_nil hnc _
  have eS : env.scope = fd.scope := by subst he'; rfl
  have eF : env.frame = some s.heap.objs.size := by subst he'; rfl
  have eG : env.globals = mainGlobals := by subst he'; rfl
  have eB : env.builtins = builtinsNs := by subst he'; rfl
  clear he'
  obtain ⟨hq, tq, es1, hkeep⟩ := x.done
  have nd := nodupS_spec fi_is.nodup
  let fm' : Fm := { env := env, A := A.deeper env, fenv := env, outer := [lenv], L := s.heap.objs.size, own := [s.heap.objs.size], prot := [L0] }
  let F' : Frm := ⟨nms, false, 0⟩
  obtain ⟨lk, ⟨L0', oL, lf, lb, lg, ld⟩, _⟩ := low.ff
  rw [hL0] at lf; cases lf
  have bN : C.base.get? s.heap.objs.size = none := by
    cases q : C.base.get? s.heap.objs.size with
    | none => rfl
    | some o => exact absurd (Heap.lt_size (low.base _ o q)) (Nat.lt_irrefl _)
  have neL : s.heap.objs.size ≠ L0 := Nat.ne_of_gt (Heap.lt_size lg)
  have ok' : FmOk F' fm' := {
    kind := by show env.scope.kind = _; rw [eS]; exact hkind
    names := by show env.scope.names = _; rw [eS]; exact hnames
    fkind := by show env.scope.kind = _; rw [eS]; exact hkind
    frames := Around.frames_deeper hfr
    handled := hh
    frame := eF
    fframe := eF
    glob := eG
    blt := eB
    loc := by show env.locals ∈ _; rw [eL]; exact List.mem_cons_self ..
    fin := fun e he L hL => by
      rcases List.mem_cons.mp he with q | q
      · subst q; rw [show fm'.fenv.frame = some s.heap.objs.size from eF] at hL; cases hL; exact List.mem_append_left _ (List.mem_cons_self ..)
      · rw [List.mem_singleton.mp q, hL0] at hL; cases hL; exact List.mem_append_right _ (List.mem_cons_self ..)
    nodbg := fi_is.nodbg
    noclsd := fi_is.noclsd }
  have kS : env.kindOf ("octets" : Str) = some .local := by show env.scope.names.lookup _ = _; rw [eS, hnames]; exact hl1
  have R' : Rel C fm' [] [(("octets" : Str), .bytes b)] [] s₁ := by
    refine ⟨fun b o e => x.toInCall.keep b o (low.base b o e), ?_, ?_, fun b hb => ?_, ⟨_, x.toInCall.ns, fun y v e k => ?_⟩, fun y hy => ?_, ⟨rfl, fun i v e => by simp at e⟩, ?_, ?_, ?_, fun a ha => by cases ha⟩
    · exact .cons (by rw [eS, hkind]; decide) eF (by have := x.toInCall.ns; rw [eL] at this; exact this) bN (low.ff.of_keeps fun b o e _ => ⟨o, x.toInCall.keep b o e, rfl⟩)
    · show ([s.heap.objs.size] ++ [] ++ [L0]).Nodup
      simp [neL]
    · rcases List.mem_append.mp (show b ∈ ([s.heap.objs.size] ++ []) ++ [L0] from hb) with q | q
      · simp at q; subst q
        refine ⟨bN, ?_⟩
        obtain ⟨ob, _, _, e, _⟩ := x.toInCall.ns
        rw [eL] at e; exact ⟨ob, e⟩
      · rw [List.mem_singleton.mp q]; exact ⟨lb, oL, x.toInCall.keep _ _ lg⟩
    · simp only [List.lookup_cons] at e
      split at e
      · rename_i q; have := eq_of_beq q; subst this
        cases e
        refine ⟨.bytes b.toArray t, ?_, .bytes _ _⟩
        rw [bindL_lookup (kindOf := fun y => env.kindOf y) kS nd]
        simp [List.lookup_cons, ha1]
      · simp at e
    · exfalso
      have nc : ∀ y, env.kindOf y = some .cell → False := fun y hy => by
        have h1 : nms.lookup y = some .cell := by
          have h2 : fd.scope.names.lookup y = some .cell := by rw [← eS]; exact hy
          rw [hnames] at h2; exact h2
        have := cellsFrom_some (names := nms) (n := 0) (acc := []) (x := y) (.inl h1)
        rw [hnc] at this; cases this
      rcases hy with q | q
      · exact nc y q
      · have h1 : nms.lookup y = some .free := by
          have h2 : fd.scope.names.lookup y = some .free := by rw [← eS]; exact q
          rw [hnames] at h2; exact h2
        exact fi_is.nofree _ (PySem.mem_of_lookup h1) rfl
    · rw [es1]; exact low.gens
    · rw [es1]; exact low.os
    · show C.base.objs.size ≤ env.locals
      rw [eL]
      exact Nat.le_of_lt (Nat.lt_of_le_of_lt hL0b (Heap.lt_size lg))
  refine wpAny_execs_cons (wpAny_Try_except ?_)
  have rm' : Room fm'.A n := ⟨by have := rm.1; show A.depth + 1 + _ < _; omega, by have := rm.2; show A.units + 3 + _ + _ < _; omega⟩
  refine wpAny_execs_cons (wpAny_Expr_any (hE.run (fm := fm') ⟨ok', rm', fun _ _ e => e, R'⟩ hx ⟨fun {_ _} f => f.elim, fun _ y s2 hf => ?_⟩) (by unfold interactive; rw [eS, hkind]; rfl) ((hsw p1.line).2 env))
  refine note_sound' (fm := fm') ok'.frames eF eF hf fun s3 hf3 => unflight_sound (fm := fm') hf3 fun s4 hf4 => ?_
  obtain ⟨ex, cls, rfl, hc, ⟨f1, f2, f3, oe, fs, T, oT, ts, t3, g1, g2, g3, g4, g5, g6, g7, g8, g9, g10⟩, z1, z2, z3⟩ := id hf4
  unfold faultCls at hc
  rw [x1] at hc; cases hc
  have KK : ∀ b o, C.base.get? b = some o → s4.heap.get? b = some o := f1
  refine wpAny_handleBy_cons (codeAny_handlers_test ?_) (by intro q; cases q)
  have hdbg : ((("FontFault" : Str)) == ("__debug__" : Str)) = false := by decide
  refine Calls.Name_function_global (by rw [eS]; exact hkind) (by show env.scope.names.lookup _ = _; rw [eS, hnames]; exact hl2) ?_ hdbg
  refine Calls.loadGlobal_global (env := env) (by rw [eG]; exact C.top.g.keeps KK) (mg_of C.inK C.top.g x1) ?_
  obtain ⟨hh4, g4', d4, t4, os4⟩ := s4
  obtain ⟨oc, od, oda, osl⟩ := oe
  dsimp only at g2 g3
  subst g2 g3
  refine xmatch (C.inK.keeps KK _ _ x2) g1 ?_
  refine codeAny_handlers_suite ?_
  refine unflight_sound (fm := fm') hf4 fun s5 hf5 => ?_
  refine wpAny_execs_cons (wpAny_Return_some ?_)
  rw [eval_Constant]
  refine wpAny_pure ?_
  obtain ⟨_, _, _, _, ⟨f1', f2', f3', _⟩, z1', z2', _⟩ := hf5
  exact k s5 ⟨f1', f3'.2.2, z1', z2'⟩
end


/-- `bytes([0, 2]) + bytes(20)` -/
noncomputable def twoOK (e : Expr) : Prop := ∃ n1 n2 k1 k2 k3 q1 q2 q3 q4 q5 q6 q7, e = .BinOp (.Call (.Name ("bytes" : Str) n1) [.List [.Constant (.int 0) k1 q1, .Constant (.int 2) k2 q2] q3] [] q4) .Add (.Call (.Name ("bytes" : Str) n2) [.Constant (.int 20) k3 q5] [] q6) q7
noncomputable def lastOK (st : Stmt) (e1 : Expr) : Prop := ∃ e2 n1 n2 c1 c2 bp rp, st = .Return (some (.BoolOp .And [.Call (.Name ("_law_fell" : Str) n1) [e1] [] c1, .Call (.Name ("_law_fell" : Str) n2) [e2] [] c2] bp)) rp ∧ twoOK e2

noncomputable def twoBytes : List UInt8 := [0, 2] ++ List.replicate 20 0

open PySem.Calls in
section
variable {C : Cx} {F : Frm} {fm : Fm} {μ : Mu} {vs vs' : Vars} {hp hp1 : List V} {s s' s₀ : Shared} {A : Around} {Q : Value → Shared → Prop} {E : Value → Shared → Prop} {n m : Nat}

theorem glob_name {env : Env} {x : Str} {np : Pos} {v : Value} (hb : C.base.StaysIn s.heap) (hk : env.scope.kind = .function) (hx : env.kindOf x = some .globalImplicit) (hg : env.globals = mainGlobals) (hd : (x == ("__debug__" : Str)) = false)
    (e : nsIn C.K mainGlobals x = some (some v)) (h : Q v s) : wpAny C.M A (eval (.Name x np) env) Q E s :=
  Calls.Name_function_global hk hx (Calls.loadGlobal_global (env := env) (by rw [hg]; exact C.top.g.keeps hb) (mg_of C.inK C.top.g e) h) hd
theorem blt_name {env : Env} {x : Str} {np : Pos} {v : Value} (hb : C.base.StaysIn s.heap) (hk : env.scope.kind = .function) (hx : env.kindOf x = some .globalImplicit) (hg : env.globals = mainGlobals) (hbl : env.builtins = builtinsNs) (hd : (x == ("__debug__" : Str)) = false)
    (e : nsIn C.K mainGlobals x = some none) (e2 : bootBuiltins x = some v) (e3 : x ≠ "__name__") (h : Q v s) : wpAny C.M A (eval (.Name x np) env) Q E s :=
  Calls.Name_function_global hk hx (Calls.loadGlobal_builtin (env := env) (by rw [hg]; exact C.top.g.keeps hb) (mg_none_of C.inK C.top.g e) (by rw [hbl]; exact C.top.b.keeps hb) ((C.top.builtins x e3).trans e2) h) hd

/-- a call of one argument -/
theorem call1 {env : Env} {x : Str} {np cp : Pos} {e : Expr} {f : Value} (hk : KeepOK C f) (hs : noStar [e] = true)
    (hname : ∀ Q', Q' f s → wpAny C.M A (eval (.Name x np) env) Q' E s)
    (h : wpAny C.M A (spliced (backTo cp (starEach [e] env))) (fun vals s' => C.base.StaysIn s'.heap ∧ wpAny C.M A (call f vals) Q E s') E s) : wpAny C.M A (eval (.Call (.Name x np) [e] [] cp) env) Q E s := by
  rw [arm_eval_Call_Name']
  refine wpAny_bind (hname _ ?_)
  refine callWith_of (P := C.K.In) (first := []) (by rw [backTo_any hs]; rfl) hk (evalArgs_sound hs (wpAny_mono h (fun vals s' hv => ?_) fun _ _ x => x))
  exact ⟨C.inK.keeps hv.1, hv.2⟩

theorem two_sound (G : GOK C) {env : Env} {e : Expr} (he : twoOK e) {l : List Env} (low : Low C l s) (hk : env.scope.kind = .function) (hx : env.kindOf ("bytes" : Str) = some .globalImplicit) (hg : env.globals = mainGlobals) (hbl : env.builtins = builtinsNs) (hh : A.handled = none)
    (k : ∀ s' t, Low C l s' → Q (.bytes twoBytes.toArray t) s') : wpAny C.M A (eval e env) Q E s := by
  obtain ⟨n1, n2, k1, k2, k3, q1, q2, q3, q4, q5, q6, q7, rfl⟩ := he
  have hb := G.blt "bytes" (by simp)
  have lowK : ∀ {s s' : Shared}, Low C l s → (∀ b o, s.heap.get? b = some o → s'.heap.get? b = some o) → s'.gens = s.gens → s'.os = s.os → Low C l s' := fun w hk h1 h2 =>
    ⟨fun b o e => hk b o (w.base b o e), w.ff.of_keeps fun b o e _ => ⟨o, hk b o e, rfl⟩, h1.trans w.gens, h2.trans w.os⟩
  refine wpAny_BinOp ?_
  refine call1 (keepOK_type "bytes") rfl (fun Q' hq => blt_name low.base hk hx hg hbl (by decide) hb (by decide +kernel) (by decide) hq) ?_
  refine spliced_more ?_
  rw [arm_eval_List]
  refine wpAny_bind (wpAny_standAt (wpAny_bind ?_))
  refine spliced_more ?_
  rw [eval_Constant]
  refine wpAny_mkInt (spliced_more ?_)
  rw [eval_Constant]
  refine wpAny_mkInt (spliced_none ?_)
  refine wpAny_newList ?_ (by rw [sizeLine_eq]; simp)
  refine spliced_none ⟨fun b o e => Heap.get?_push_of_some _ (low.base b o e), ?_⟩
  refine call_bytes_ints (ns := [0, 2]) ⟨_, Heap.get?_push_size _ rfl, rfl, _, rfl⟩ (.cons _ _ (.cons _ _ .nil)) (by decide) (by rw [sizeLine_eq]; simp) hh fun h' t kk hk' => ?_
  have low2 : Low C l { s with heap := h', toks := kk } := lowK low (fun b o e => hk' b o (Heap.get?_push_of_some _ e)) rfl rfl
  refine call1 (keepOK_type "bytes") rfl (fun Q' hq => blt_name (s := { s with heap := h', toks := kk }) low2.base hk hx hg hbl (by decide) hb (by decide +kernel) (by decide) hq) ?_
  refine spliced_more ?_
  rw [eval_Constant]
  refine wpAny_mkInt (spliced_none ⟨low2.base, ?_⟩)
  refine call_bytes_int (by decide) (by decide) ?_
  have low3 : Low C l { s with heap := h', toks := kk + 1 + 1 } := ⟨low2.base, low2.ff, low2.gens, low2.os⟩
  refine KBy.add_bytes (by rw [Array.size_replicate]; decide) fun t' k' => ?_
  have e : byteArr [0, 2] ++ Array.replicate (20 : Int).toNat 0 = twoBytes.toArray := by decide +kernel
  rw [e]
  exact k _ _ ⟨low2.base, low2.ff, low2.gens, low2.os⟩

theorem last_sound (G : GOK C) (X : ExcOK C) (at_ : At C n F vs fm μ vs' hp s) (hm : m + 1 ≤ n) (hself : fm.fenv = fm.env) (hout : fm.outer = []) {st : Stmt} {e1 fe : Expr} (hst : lastOK st e1)
    (hf : fellOK (defOf (Str.ofString "_law_fell")) fe) (hfc : ∀ p, ∀ env, swapsWith fe none p env = pure false) (hL : C.base.objs.size ≤ fm.L) {WA : WL} {Wf : List UInt8 → WP} (hA : SA C n F vs [e1] WA) (hE : ∀ b, SE C m ⟨(defOf (Str.ofString "_law_fell")).names, false, 0⟩ [(("octets" : Str), .bytes b)] fe (Wf b))
    (h1 : WA hp (fun l _ => ∃ b, l = [.bytes b] ∧ Wf b [] (fun _ _ => False) True) False) (h2' : Wf twoBytes [] (fun _ _ => False) True) (hg1 : F.names.lookup ("_law_fell" : Str) = some .globalImplicit) (hg2 : F.names.lookup ("bytes" : Str) = some .globalImplicit)
    {QF : Flow → Shared → Prop} (k : ∀ s', Low C [fm.env] s' → QF (.ret (.bool true)) s') : wpAny C.M fm.A (PySem.exec st fm.env) QF E s := by
  have ok := at_.ok
  have R := at_.R
  obtain ⟨e2, n1, n2, c1, c2, bp, rp, rfl, h2⟩ := hst
  obtain ⟨fa, gf, fi⟩ := G.fn (Str.ofString "_law_fell") (by decide +kernel)
  have kindOf : ∀ x, fm.env.kindOf x = F.names.lookup x := fun x => by show fm.env.scope.names.lookup x = _; rw [ok.names]
  have hfr : fm.A.frames = some [fm.env] := by rw [ok.frames, hself, hout]
  have rmF : Room fm.A (m + 1) := at_.rm.mono hm
  refine wpAny_Return_some ?_
  rw [arm_eval_BoolOp]
  show wpAny C.M fm.A (eval _ fm.env >>= fun v => standAt bp >>= fun _ => holding [v] (truthy v) >>= fun t => match BoolOp.And, t with
      | .And, false | .Or, true => pure v
      | _, _ => boolOp bp .And (evalEach [_] fm.env)) _ E s
  refine wpAny_bind (call1 (keepOK_ref fi.keep) hA.star (fun Q' hq => glob_name R.base ok.kind ((kindOf _).trans hg1) ok.glob (by decide) gf hq) ?_)
  refine hA.run _ at_ h1 ⟨fun {l hp1} w1 s1 μ1 vals st1 R1 rvs => ?_, fun hx => hx.elim⟩
  obtain ⟨b1, rfl, w2⟩ := w1
  obtain ⟨y, rfl, ry⟩ := rvs.one
  refine ⟨R1.base, ?_⟩
  obtain ⟨t, rfl⟩ : ∃ t, y = .bytes b1.toArray t := ry.inv
  · have low1 : Low C [fm.env] s1 := by have := R1.low; rw [hself, hout] at this; exact this
    refine fell_sound G X fi hf (lenv := fm.env) (L0 := fm.L) hfr ok.handled ok.frame hL rmF low1 (hE b1) w2 (fun p => ⟨hfc p _, fun env => hfc p env⟩) fun s2 low2 => ?_
    refine wpAny_bind (wpAny_standAt (wpAny_bind (wpAny_holding (wpAny_truthy_bool ?_))))
    show wpAny C.M fm.A (eval _ fm.env) _ E s2
    have hstar2 : noStar [e2] = true := by obtain ⟨_, _, _, _, _, _, _, _, _, _, _, _, rfl⟩ := h2; rfl
    refine call1 (keepOK_ref fi.keep) hstar2 (fun Q' hq => glob_name low2.base ok.kind ((kindOf _).trans hg1) ok.glob (by decide) gf hq) ?_
    refine spliced_more (two_sound G h2 low2 ok.kind ((kindOf _).trans hg2) ok.glob ok.blt ok.handled fun s3 t3 low3 => spliced_none ⟨low3.base, ?_⟩) (by obtain ⟨_, _, _, _, _, _, _, _, _, _, _, _, rfl⟩ := h2; rfl)
    exact fell_sound G X fi hf (lenv := fm.env) (L0 := fm.L) hfr ok.handled ok.frame hL rmF low3 (hE twoBytes) h2' (fun p => ⟨hfc p _, fun env => hfc p env⟩) fun s4 low4 => k s4 low4
end


noncomputable def lawFi : FnInfo := defOf (Str.ofString "law")
noncomputable def lawPre : List Stmt := lawFi.body.dropLast
noncomputable def lawLast : Stmt := lawFi.body.getLast!
theorem law_split : lawFi.body = lawPre ++ [lawLast] := by rfl
noncomputable def fellFi : FnInfo := defOf (Str.ofString "_law_fell")
/-- the call that `_law_fell` tries -/
noncomputable def fellE : Expr := match fellFi.body with
  | .Try (.Expr e _ :: _) _ _ _ _ :: _ => e
  | _ => .Constant .none 0 ⟨0, 0, 0, 0⟩
/-- what the first `_law_fell` is asked of -/
noncomputable def lastE : Expr := match lawLast with
  | .Return (some (.BoolOp _ (.Call _ [e] _ _ :: _) _)) _ => e
  | _ => .Constant .none 0 ⟨0, 0, 0, 0⟩
theorem fell_ok : fellOK fellFi fellE := ⟨_, _, _, _, _, _, _, _, _, _, _, _, rfl, by decide +kernel, by decide +kernel, by decide +kernel, by decide +kernel⟩
theorem last_ok : lastOK lawLast lastE := ⟨_, _, _, _, _, _, _, rfl, _, _, _, _, _, _, _, _, _, _, _, _, rfl⟩
theorem last_star : noStar [lastE] = true := by rfl
theorem fell_swap : ∀ p, ∀ env, swapsWith fellE none p env = pure false := fun _ _ => rfl

noncomputable def lawFrm : Frm := ⟨lawFi.names, false, 1⟩

section
variable {C : Cx} {F : Frm} {fm : Fm} {μ μ' μ₀ : Mu} {vs vs' : Vars} {hp hp' hp1 : List V} {s s' s₀ : Shared} {A : Around} {Q : Value → Shared → Prop} {QB : Bool → Shared → Prop} {QL : List Value → Shared → Prop} {QF : Flow → Shared → Prop} {E : Value → Shared → Prop} {n m : Nat} {M : List Addr}


/-- the law's statements, up to its answer -/
structure LL (C : Cx) (n : Nat) (F : Frm) (vs : Vars) (ss : List Stmt) (W : List V → Prop) : Prop where
  run : ∀ {fm M μ₀ s₀ μ vs' hp s QF E}, At C n F vs fm μ vs' hp s → FnFm fm → μ₀.length ≤ F.low → SStep fm M μ₀ s₀ μ s → fm.fenv = fm.env → fm.outer = [] → C.base.objs.size ≤ fm.L → W hp → (∀ s', Low C [fm.env] s' → QF (.ret (.bool true)) s') → wpAny C.M fm.A (PySem.execs ss fm.env) QF E s

theorem LL.cons {β} {st1 : β → Vars} {b r W} {R : β → List V → Prop} (h : S1 C n F st1 vs b W) (hr : ∀ x, LL C n F (st1 x) r (R x)) : LL C n F vs (b :: r) (fun hp => W hp (fun x hp1 => R x hp1) (fun _ _ => False) False) := ⟨fun at_ fn hlow sst h1 h2 h3 w k =>
  wpAny_execs_cons (h.run at_ fn hlow sst w ⟨fun {x hp1 s1 μ1 vs1} w1 st1 R1 sub => (hr x).run ⟨at_.ok, at_.rm, sub, R1⟩ fn hlow st1 h1 h2 h3 w1 k, fun w1 _ _ _ => w1.elim, fun hx => hx.elim⟩)⟩

theorem LL.last (G : GOK C) (X : ExcOK C) (hm : m + 1 ≤ n) {st : Stmt} {e1 fe : Expr} (hst : lastOK st e1) (hf : fellOK (defOf (Str.ofString "_law_fell")) fe) (hfc : ∀ p, ∀ env, swapsWith fe none p env = pure false) {WA : WL} {Wf : List UInt8 → WP} (hA : SA C n F vs [e1] WA) (hE : ∀ b, SE C m ⟨(defOf (Str.ofString "_law_fell")).names, false, 0⟩ [(("octets" : Str), .bytes b)] fe (Wf b))
    (hg1 : F.names.lookup ("_law_fell" : Str) = some .globalImplicit) (hg2 : F.names.lookup ("bytes" : Str) = some .globalImplicit) : LL C n F vs [st] (fun hp => WA hp (fun l _ => ∃ b, l = [.bytes b] ∧ Wf b [] (fun _ _ => False) True) False ∧ Wf twoBytes [] (fun _ _ => False) True) := ⟨fun at_ fn hlow sst h1 h2 h3 w k =>
  wpAny_execs_cons (last_sound G X at_ hm h1 h2 hst hf hfc h3 hA hE w.1 w.2 hg1 hg2 k)⟩

theorem LL.weaken {vs0 ss W} (sub : Sub vs0 vs) (h : LL C n F vs0 ss W) : LL C n F vs ss W := ⟨fun at_ => h.run ⟨at_.ok, at_.rm, sub.trans at_.sub, at_.R⟩⟩

theorem law_cells : lawFi.names.all (fun p => p.2 != .cell || p.1 == ("told" : Str) || p.1 == ("plain" : Str)) = true := by decide +kernel
theorem law_nofree : lawFi.names.all (fun p => p.2 != .free) = true := by decide +kernel


theorem connect (G : GOK C) (X : ExcOK C) {env : Env} {L : Addr} {s : Shared} {m : Str → Option Value} {ca cb : Obj} {va vb : Option Value} (hLb : C.base.objs.size = L)
    (hk : env.scope.kind = .function) (hn : env.scope.names = lawFi.names) (hl : env.locals = L) (hfr : env.frame = some L) (hg : env.globals = mainGlobals) (hb : env.builtins = builtinsNs) (hc : env.cells = [(("plain" : Str), L + 1 + 1), (("told" : Str), L + 1)])
    (Fr' : Fr C.base L s.heap m) (N : News C.base L s.heap [(L + 1 + 1, ca), (L + 1, cb)]) (hca : ca.data = .cell va) (hcb : cb.data = .cell vb) (hgen : s.gens = #[]) (hos : s.os = C.os)
    {al : Addr} {xs : List Value} {zs : List Int} (hal : C.base.get? al = some ⟨.type "list", none, .seq xs.toArray 0, #[]⟩) (hI : IntsAre xs zs) (hm : m ("script" : Str) = some (.ref al)) (hA : callerA.frames = some []) (hn230 : n ≤ 230) {W : List V → Prop} (plain : LL C n lawFrm [(("script" : Str), .list (zs.map V.int))] lawFi.body W) (hw : W [])
    (k : ∀ s', Low C [env] s' → QF (.ret (.bool true)) s') : wpAny C.M (callerA.deeper env) (PySem.execs lawFi.body env) QF E s := by
  have kindOf : ∀ x, env.kindOf x = lawFi.names.lookup x := fun x => by show env.scope.names.lookup x = _; rw [hn]
  let fm : Fm := { env := env, A := callerA.deeper env, fenv := env, outer := [], L := L, own := [L, L + 1, L + 1 + 1], prot := [] }
  have bN : ∀ b, L ≤ b → C.base.get? b = none := fun b hb' => heap_none (by rw [hLb]; exact hb')
  have ok : FmOk lawFrm fm := {
    kind := hk
    names := hn
    fkind := hk
    frames := Around.frames_deeper hA
    handled := rfl
    frame := hfr
    fframe := hfr
    glob := hg
    blt := hb
    loc := by show env.locals ∈ _; rw [hl]; exact List.mem_cons_self ..
    fin := fun e he L' hL => by
      rw [List.mem_singleton.mp he, show fm.fenv.frame = some L from hfr] at hL; cases hL; exact List.mem_append_left _ (List.mem_cons_self ..)
    nodbg := by decide +kernel
    noclsd := by decide +kernel }
  have cellK : ∀ x, (env.kindOf x = some .cell ∨ env.kindOf x = some .free) → x = ("told" : Str) ∨ x = ("plain" : Str) := fun x hx => by
    rw [kindOf] at hx
    rcases hx with q | q
    · have := List.all_eq_true.mp law_cells _ (PySem.mem_of_lookup q)
      simpa using this
    · have := List.all_eq_true.mp law_nofree _ (PySem.mem_of_lookup q)
      simp at this
  have clk : ∀ x c, env.cells.lookup x = some c → (x = ("plain" : Str) ∧ c = L + 1 + 1) ∨ (x = ("told" : Str) ∧ c = L + 1) := fun x c e => by
    rw [hc] at e
    simp only [List.lookup_cons, List.lookup_nil] at e
    split at e
    · rename_i q; cases e; exact .inl ⟨eq_of_beq q, rfl⟩
    · split at e
      · rename_i q; cases e; exact .inr ⟨eq_of_beq q, rfl⟩
      · cases e
  have fn : FnFm fm := ⟨rfl, hl, fun x c e => by rcases clk x c e with ⟨_, rfl⟩ | ⟨_, rfl⟩ <;> simp [fm], fun x y c e1 e2 => by
    rcases clk x c e1 with ⟨rfl, h1⟩ | ⟨rfl, h1⟩ <;> rcases clk y c e2 with ⟨rfl, h2⟩ | ⟨rfl, h2⟩ <;> first | rfl | (exfalso; rw [h1] at h2; exact absurd h2 (by first | exact Nat.succ_ne_self _ | exact (Nat.succ_ne_self _).symm))⟩
  have N1 := N (L + 1 + 1, ca) (List.mem_cons_self ..)
  have N2 := N (L + 1, cb) (List.mem_cons_of_mem _ (List.mem_cons_self ..))
  have ns := Fr'.ns
  have Lin : ∃ o, s.heap.get? L = some o := by obtain ⟨o, _, _, e, _⟩ := ns; exact ⟨o, e⟩
  have own : ∀ b ∈ fm.D [], L ≤ b ∧ ∃ o, s.heap.get? b = some o := fun b hb' => by
    have : b ∈ [L, L + 1, L + 1 + 1] := by simpa [Fm.D, fm, muA] using hb'
    simp only [List.mem_cons, List.not_mem_nil, or_false] at this
    rcases this with rfl | rfl | rfl
    · exact ⟨Nat.le_refl _, Lin⟩
    · exact ⟨Nat.le_succ _, _, N2.1⟩
    · exact ⟨Nat.le_trans (Nat.le_succ _) (Nat.le_succ _), _, N1.1⟩
  have R : Rel C fm [] [(("script" : Str), .list (zs.map V.int))] [] s := by
    refine ⟨Fr'.keep, .cons (by rw [hk]; decide) hfr (by have := ns; exact this) (bN L (Nat.le_refl _)) trivial, ?_, fun b hb' => ⟨bN b (own b hb').1, (own b hb').2⟩, ⟨m, by show s.heap.Ns env.locals m; rw [hl]; exact ns, fun x v e hkk => ?_⟩, fun x hx => ?_, ⟨rfl, fun i v e => by simp at e⟩, hgen, hos, ?_, fun a ha => by cases ha⟩
    · have key : ∀ n : Nat, [n, n + 1, n + 1 + 1].Nodup := fun n => by
        simp only [List.nodup_cons, List.mem_cons, List.not_mem_nil, or_false, not_or, not_false_eq_true, List.nodup_nil, and_true]
        omega
      exact key L
    · simp only [List.lookup_cons, List.lookup_nil] at e
      split at e
      · rename_i q; have := eq_of_beq q; subst this
        cases e
        refine ⟨.ref al, hm, .obj _ [al] al (.list _ xs al 0 (Fr'.keep _ _ hal) (ints_vrs hI) (ints_plain zs)) fun b hb' hm' => ?_⟩
        rw [List.mem_singleton.mp hb'] at hm'
        have := bN al (own al hm').1
        rw [hal] at this; cases this
      · cases e
    · have hv : ∀ v, ([(("script" : Str), V.list (zs.map V.int))] : Vars).lookup x = some v → False := fun v e => by
        simp only [List.lookup_cons, List.lookup_nil] at e
        split at e
        · rename_i q; have := eq_of_beq q; subst this
          rcases cellK _ hx with h | h <;> revert h <;> decide
        · cases e
      rcases cellK x hx with rfl | rfl
      · exact ⟨L + 1, vb, by show env.cells.lookup _ = _; rw [hc]; rfl, ⟨cb, N2.1, hcb⟩, ⟨by simp [fm], by show L + 1 ≠ env.locals; rw [hl]; exact Nat.succ_ne_self _⟩, fun v e => (hv v e).elim⟩
      · exact ⟨L + 1 + 1, va, by show env.cells.lookup _ = _; rw [hc]; rfl, ⟨ca, N1.1, hca⟩, ⟨by simp [fm], by show L + 1 + 1 ≠ env.locals; rw [hl]; exact Nat.ne_of_gt (Nat.lt_succ_of_lt (Nat.lt_succ_self _))⟩, fun v e => (hv v e).elim⟩
    · show C.base.objs.size ≤ env.locals
      rw [hl, hLb]; exact Nat.le_refl _
  have rm : Room fm.A n := by
    refine ⟨?_, ?_⟩
    · show 1 + claimMargin + 1 + 3 * n < recursionLimit
      have e1 : claimMargin = 300 := rfl
      have e2 : recursionLimit = 1000 := rfl
      rw [e1, e2]; omega
    · show 4 + 3 + 10 * n + 100 < cLine
      have e2 : cLine = 9900 := by rfl
      rw [e2]; omega
  exact plain.run (M := []) (μ₀ := []) (s₀ := s) ⟨ok, rm, fun _ _ e => e, R⟩ fn (Nat.zero_le _) (SStep.refl (μ := []) ⟨[], rfl⟩) rfl rfl (Nat.le_of_eq hLb) hw k

end
noncomputable abbrev pr : Program := PySem.Challenge.rw_nu0024_01.row.toRowW.1
noncomputable def nth : List Stmt → Nat → Stmt
  | [], _ => .Pass ⟨0, 0, 0, 0⟩
  | s :: _, 0 => s
  | _ :: r, n + 1 => nth r n
noncomputable def nS (i : Nat) : Stmt := nth pr.main.body i
noncomputable def inCls : Stmt → List Stmt
  | .ClassDef _ _ _ b .. => b
  | _ => []
noncomputable def nM (i j : Nat) : Stmt := nth (inCls (nS i)) j
noncomputable def f0 (s : Stmt) (q : Str) : Obj := match s with
  | .FunctionDef n a b _ _ _ sc _ _ _ => { cls := .none, data := .func { name := n, qualname := q, params := a, body := .stmts b, scope := sc, globals := 0, closure := [], defaults := .none, kwdefaults := .none } }
  | _ => { cls := .none, data := .fields #[] }
noncomputable def f1 (s : Stmt) (q m : Str) (k : Nat) (c : Addr) : Obj := match s with
  | .FunctionDef n a b _ _ _ sc _ _ _ => { cls := .type "function", data := .func { name := n, qualname := q, params := a, body := .stmts b, scope := sc, globals := 3, closure := [], defaults := .none, kwdefaults := .none, pyModule := .str m k, code := .ref c } }
  | _ => { cls := .none, data := .fields #[] }
noncomputable def en (P : Params) (x : Str) (k : Nat) (v : Value) : DictEntry := { hash := PyData.keyHash P x, key := .str x k, val := v }
noncomputable def puts : BT → List (Nat × Obj) → BT
  | t, [] => t
  | t, p :: r => puts (t.ins p.1 p.2) r
noncomputable def t47 (P : Params) : BT := puts .nil [
  (0, boot_o_0 P),
  (1, boot_o_1 P),
  (2, boot_o_2 P),
  (3, boot_o_3 P),
  (4, boot_o_4 P),
  (5, boot_o_5 P),
  (6, boot_o_6 P),
  (7, boot_o_7 P),
  (8, boot_o_8 P),
  (9, boot_o_9 P),
  (10, boot_o_10 P),
  (11, { cls := .type "tuple", data := .seq #[] }),
  (12, { cls := .none, data := .fields #[] }),
  (13, { cls := .type "code", data := .fields #[.str "<module>" 182, .str "<module>" 183, .str "/claim/cut.py" 184, .int 1 0, .int 0 0, .int 0 0, .int 0 0, .int 0 0, .ref 11, .bool false, .int 181 0, .ref 12, .none, .none, .none, .none, .int 185 0, .int 1 0, .str "/claim/cut.py" 186] }),
  (14, { cls := .type "frame", slots := #[some (.ref 13), some (.ref 3), some (.ref 3), none, some (.str "__main__" 164), none, some (.ref 0)] })]
noncomputable def t71 (P : Params) : BT := puts (t47 P) [
  (2, { cls := .none, data := .dict #[en P "type.__subclasses__.Exception.0" 214 (.int 31 0), en P "type.__subclasses__.Exception.n" 215 (.int 1 0)] 2 }),
  (3, { cls := .type "dict", data := .dict #[en P "__name__" 165 (.str "outlinemill.errors" 187), en P "__doc__" 166 (.none), en P "__package__" 167 (.none), en P "__loader__" 168 (.builtin "__main__.__loader__#opaque"), en P "__spec__" 169 (.none), en P "__annotations__" 170 (.ref 6), en P "__builtins__" 171 (.ref 4), en P "__file__" 173 (.str "/claim/cut.py" 172), en P "__cached__" 174 (.none), en P "MillError" 217 (.ref 31)] 10 }),
  (12, { cls := .none, data := .fields #[.int 2 0, .int 0 0, .ref 20] }),
  (15, { cls := .type "tuple", data := .seq #[.type "Exception"] }),
  (16, { cls := .type "builtin_function_or_method", data := .fields #[.builtin "type.__prepare__", .type "type"] }),
  (17, { cls := .type "dict", data := .dict #[en P "__module__" 196 (.str "outlinemill.errors" 187), en P "__qualname__" 198 (.str "MillError" 197), en P "__firstlineno__" 200 (.int 2 199), en P "__init__" 208 (.ref 28), en P "__static_attributes__" 210 (.ref 29)] 5 }),
  (18, { cls := .type "tuple", data := .seq #[] }),
  (19, { cls := .none, data := .fields #[.int 4 0, .int 4 0, .ref 27] }),
  (20, { cls := .type "code", data := .fields #[.str "MillError" 191, .str "MillError" 192, .str "/claim/cut.py" 193, .int 2 0, .int 0 0, .int 0 0, .int 0 0, .int 0 0, .ref 18, .bool false, .int 181 0, .ref 19, .none, .none, .none, .none, .int 194 0, .int 2 0, .str "/claim/cut.py" 195] }),
  (21, { cls := .type "frame", slots := #[some (.ref 20), some (.ref 3), some (.ref 17), none, some (.str "outlinemill.errors" 187), none, some (.ref 0)] }),
  (22, { cls := .type "tuple", data := .seq #[] }),
  (23, { cls := .none, data := .fields #[] }),
  (24, { cls := .type "tuple", data := .seq #[.str "self" 204, .str "message" 205] }),
  (25, { cls := .type "tuple", data := .seq #[] }),
  (26, f0 (nM 1 0) "MillError.__init__"),
  (27, { cls := .type "code", data := .fields #[.str "__init__" 201, .str "MillError.__init__" 202, .str "/claim/cut.py" 203, .int 4 0, .int 2 0, .int 0 0, .int 0 0, .int 3 0, .ref 22, .bool true, .int 181 0, .ref 23, .none, .ref 24, .ref 25, .ref 26, .int 206 0, .int 4 0, .str "/claim/cut.py" 207] }),
  (28, f1 (nM 1 0) "MillError.__init__" "outlinemill.errors" 187 27),
  (29, { cls := .type "tuple", data := .seq #[.str "message" 209] }),
  (30, { cls := .type "dict", data := .dict #[en P "__module__" 196 (.str "outlinemill.errors" 187), en P "__firstlineno__" 200 (.int 2 199), en P "__init__" 208 (.ref 28), en P "__static_attributes__" 210 (.ref 29), en P "__weakref__" 212 (.ref 32), en P "__doc__" 213 (.none)] 3 }),
  (31, { cls := .type "type", data := .cls { name := "MillError", bases := [.type "Exception"], mro := [.ref 31, .type "Exception", .type "BaseException", .type "object"], ns := 30, qualname := "MillError" }, slots := #[some (.ref 15), none, some (.str "MillError" 189), some (.str "MillError" 197), some (.builtin "Exception.__new__"), some (.bool true)] }),
  (32, { cls := .type "getset_descriptor", data := .fields #[.str "__weakref__" 211, .ref 31, .builtin "ExceptionGroup.__weakref__", .none] }),
  (33, { cls := .type "super", data := .fields #[.ref 31, .ref 31, .ref 31] }),
  (34, { cls := .type "builtin_function_or_method", data := .fields #[.builtin "object.__init_subclass__", .ref 31] })]
noncomputable def t121 (P : Params) : BT := puts (t71 P) [
  (3, { cls := .type "dict", data := .dict #[en P "__name__" 165 (.str "outlinemill.cmap" 275), en P "__doc__" 166 (.none), en P "__package__" 167 (.none), en P "__loader__" 168 (.builtin "__main__.__loader__#opaque"), en P "__spec__" 169 (.none), en P "__annotations__" 170 (.ref 6), en P "__builtins__" 171 (.ref 4), en P "__file__" 173 (.str "/claim/cut.py" 172), en P "__cached__" 174 (.none), en P "MillError" 217 (.ref 31), en P "FontFault" 233 (.ref 44), en P "u16" 243 (.ref 53), en P "u32" 251 (.ref 60), en P "put16" 258 (.ref 67), en P "put32" 265 (.ref 74), en P "part_of" 274 (.ref 81), en P "LAST_CODE" 278 (.int 65535 277)] 17 }),
  (12, { cls := .none, data := .fields #[.int 2 0, .int 0 0, .ref 20, .int 6 0, .int 0 0, .ref 40, .int 9 0, .int 0 0, .ref 52, .int 13 0, .int 0 0, .ref 59, .int 15 0, .int 0 0, .ref 66, .int 17 0, .int 0 0, .ref 73, .int 19 0, .int 0 0, .ref 80] }),
  (31, { cls := .type "type", data := .cls { name := "MillError", bases := [.type "Exception"], mro := [.ref 31, .type "Exception", .type "BaseException", .type "object"], ns := 30, qualname := "MillError", subclasses := [.ref 44] }, slots := #[some (.ref 15), none, some (.str "MillError" 189), some (.str "MillError" 197), some (.builtin "Exception.__new__"), some (.bool true)] }),
  (35, { cls := .type "tuple", data := .seq #[.ref 31] }),
  (36, { cls := .type "builtin_function_or_method", data := .fields #[.builtin "type.__prepare__", .type "type"] }),
  (37, { cls := .type "dict", data := .dict #[en P "__module__" 225 (.str "outlinemill.errors" 187), en P "__qualname__" 227 (.str "FontFault" 226), en P "__firstlineno__" 229 (.int 6 228), en P "__static_attributes__" 230 (.ref 42)] 4 }),
  (38, { cls := .type "tuple", data := .seq #[] }),
  (39, { cls := .none, data := .fields #[] }),
  (40, { cls := .type "code", data := .fields #[.str "FontFault" 220, .str "FontFault" 221, .str "/claim/cut.py" 222, .int 6 0, .int 0 0, .int 0 0, .int 0 0, .int 0 0, .ref 38, .bool false, .int 181 0, .ref 39, .none, .none, .none, .none, .int 223 0, .int 6 0, .str "/claim/cut.py" 224] }),
  (41, { cls := .type "frame", slots := #[some (.ref 40), some (.ref 3), some (.ref 37), none, some (.str "outlinemill.errors" 187), none, some (.ref 0)] }),
  (42, { cls := .type "tuple", data := .seq #[] }),
  (43, { cls := .type "dict", data := .dict #[en P "__module__" 225 (.str "outlinemill.errors" 187), en P "__firstlineno__" 229 (.int 6 228), en P "__static_attributes__" 230 (.ref 42), en P "__doc__" 231 (.none)] 2 }),
  (44, { cls := .type "type", data := .cls { name := "FontFault", bases := [.ref 31], mro := [.ref 44, .ref 31, .type "Exception", .type "BaseException", .type "object"], ns := 43, qualname := "FontFault" }, slots := #[some (.ref 35), none, some (.str "FontFault" 218), some (.str "FontFault" 226), some (.builtin "Exception.__new__"), some (.bool true)] }),
  (45, { cls := .type "super", data := .fields #[.ref 44, .ref 44, .ref 44] }),
  (46, { cls := .type "builtin_function_or_method", data := .fields #[.builtin "object.__init_subclass__", .ref 44] }),
  (47, { cls := .type "tuple", data := .seq #[] }),
  (48, { cls := .none, data := .fields #[] }),
  (49, { cls := .type "tuple", data := .seq #[.str "octets" 239, .str "at" 240] }),
  (50, { cls := .type "tuple", data := .seq #[] }),
  (51, f0 (nS 4) "u16"),
  (52, { cls := .type "code", data := .fields #[.str "u16" 236, .str "u16" 237, .str "/claim/cut.py" 238, .int 9 0, .int 2 0, .int 0 0, .int 0 0, .int 3 0, .ref 47, .bool true, .int 181 0, .ref 48, .none, .ref 49, .ref 50, .ref 51, .int 241 0, .int 9 0, .str "/claim/cut.py" 242] }),
  (53, f1 (nS 4) "u16" "outlinemill.sfnt" 234 52),
  (54, { cls := .type "tuple", data := .seq #[] }),
  (55, { cls := .none, data := .fields #[] }),
  (56, { cls := .type "tuple", data := .seq #[.str "octets" 247, .str "at" 248] }),
  (57, { cls := .type "tuple", data := .seq #[] }),
  (58, f0 (nS 5) "u32"),
  (59, { cls := .type "code", data := .fields #[.str "u32" 244, .str "u32" 245, .str "/claim/cut.py" 246, .int 13 0, .int 2 0, .int 0 0, .int 0 0, .int 3 0, .ref 54, .bool true, .int 181 0, .ref 55, .none, .ref 56, .ref 57, .ref 58, .int 249 0, .int 13 0, .str "/claim/cut.py" 250] }),
  (60, f1 (nS 5) "u32" "outlinemill.sfnt" 234 59),
  (61, { cls := .type "tuple", data := .seq #[] }),
  (62, { cls := .none, data := .fields #[] }),
  (63, { cls := .type "tuple", data := .seq #[.str "number" 255] }),
  (64, { cls := .type "tuple", data := .seq #[] }),
  (65, f0 (nS 6) "put16"),
  (66, { cls := .type "code", data := .fields #[.str "put16" 252, .str "put16" 253, .str "/claim/cut.py" 254, .int 15 0, .int 1 0, .int 0 0, .int 0 0, .int 3 0, .ref 61, .bool true, .int 181 0, .ref 62, .none, .ref 63, .ref 64, .ref 65, .int 256 0, .int 15 0, .str "/claim/cut.py" 257] }),
  (67, f1 (nS 6) "put16" "outlinemill.sfnt" 234 66),
  (68, { cls := .type "tuple", data := .seq #[] }),
  (69, { cls := .none, data := .fields #[] }),
  (70, { cls := .type "tuple", data := .seq #[.str "number" 262] }),
  (71, { cls := .type "tuple", data := .seq #[] }),
  (72, f0 (nS 7) "put32"),
  (73, { cls := .type "code", data := .fields #[.str "put32" 259, .str "put32" 260, .str "/claim/cut.py" 261, .int 17 0, .int 1 0, .int 0 0, .int 0 0, .int 3 0, .ref 68, .bool true, .int 181 0, .ref 69, .none, .ref 70, .ref 71, .ref 72, .int 263 0, .int 17 0, .str "/claim/cut.py" 264] }),
  (74, f1 (nS 7) "put32" "outlinemill.sfnt" 234 73),
  (75, { cls := .type "tuple", data := .seq #[] }),
  (76, { cls := .none, data := .fields #[] }),
  (77, { cls := .type "tuple", data := .seq #[.str "octets" 269, .str "at" 270, .str "size" 271] }),
  (78, { cls := .type "tuple", data := .seq #[] }),
  (79, f0 (nS 8) "part_of"),
  (80, { cls := .type "code", data := .fields #[.str "part_of" 266, .str "part_of" 267, .str "/claim/cut.py" 268, .int 19 0, .int 3 0, .int 0 0, .int 0 0, .int 3 0, .ref 75, .bool true, .int 181 0, .ref 76, .none, .ref 77, .ref 78, .ref 79, .int 272 0, .int 19 0, .str "/claim/cut.py" 273] }),
  (81, f1 (nS 8) "part_of" "outlinemill.sfnt" 234 80)]
noncomputable def t160 (P : Params) : BT := puts (t121 P) [
  (3, { cls := .type "dict", data := .dict #[en P "__name__" 165 (.str "outlinemill.cmap" 275), en P "__doc__" 166 (.none), en P "__package__" 167 (.none), en P "__loader__" 168 (.builtin "__main__.__loader__#opaque"), en P "__spec__" 169 (.none), en P "__annotations__" 170 (.ref 6), en P "__builtins__" 171 (.ref 4), en P "__file__" 173 (.str "/claim/cut.py" 172), en P "__cached__" 174 (.none), en P "MillError" 217 (.ref 31), en P "FontFault" 233 (.ref 44), en P "u16" 243 (.ref 53), en P "u32" 251 (.ref 60), en P "put16" 258 (.ref 67), en P "put32" 265 (.ref 74), en P "part_of" 274 (.ref 81), en P "LAST_CODE" 278 (.int 65535 277), en P "BEST" 295 (.ref 90), en P "ByteMap" 332 (.ref 114)] 19 }),
  (12, { cls := .none, data := .fields #[.int 2 0, .int 0 0, .ref 20, .int 6 0, .int 0 0, .ref 40, .int 9 0, .int 0 0, .ref 52, .int 13 0, .int 0 0, .ref 59, .int 15 0, .int 0 0, .ref 66, .int 17 0, .int 0 0, .ref 73, .int 19 0, .int 0 0, .ref 80, .int 26 0, .int 0 0, .ref 96] }),
  (82, { cls := .type "tuple", data := .seq #[.int 3 279, .int 10 280] }),
  (83, { cls := .type "tuple", data := .seq #[.int 0 281, .int 4 282] }),
  (84, { cls := .type "tuple", data := .seq #[.int 0 283, .int 3 284] }),
  (85, { cls := .type "tuple", data := .seq #[.int 3 285, .int 1 286] }),
  (86, { cls := .type "tuple", data := .seq #[.int 0 287, .int 1 288] }),
  (87, { cls := .type "tuple", data := .seq #[.int 0 289, .int 0 290] }),
  (88, { cls := .type "tuple", data := .seq #[.int 3 291, .int 0 292] }),
  (89, { cls := .type "tuple", data := .seq #[.int 1 293, .int 0 294] }),
  (90, { cls := .type "tuple", data := .seq #[.ref 82, .ref 83, .ref 84, .ref 85, .ref 86, .ref 87, .ref 88, .ref 89] }),
  (91, { cls := .type "tuple", data := .seq #[] }),
  (92, { cls := .type "builtin_function_or_method", data := .fields #[.builtin "type.__prepare__", .type "type"] }),
  (93, { cls := .type "dict", data := .dict #[en P "__module__" 303 (.str "outlinemill.cmap" 275), en P "__qualname__" 305 (.str "ByteMap" 304), en P "__firstlineno__" 307 (.int 26 306), en P "__init__" 315 (.ref 104), en P "find" 323 (.ref 111), en P "__static_attributes__" 325 (.ref 112)] 6 }),
  (94, { cls := .type "tuple", data := .seq #[] }),
  (95, { cls := .none, data := .fields #[.int 28 0, .int 4 0, .ref 103, .int 31 0, .int 4 0, .ref 110] }),
  (96, { cls := .type "code", data := .fields #[.str "ByteMap" 298, .str "ByteMap" 299, .str "/claim/cut.py" 300, .int 26 0, .int 0 0, .int 0 0, .int 0 0, .int 0 0, .ref 94, .bool false, .int 181 0, .ref 95, .none, .none, .none, .none, .int 301 0, .int 26 0, .str "/claim/cut.py" 302] }),
  (97, { cls := .type "frame", slots := #[some (.ref 96), some (.ref 3), some (.ref 93), none, some (.str "outlinemill.cmap" 275), none, some (.ref 0)] }),
  (98, { cls := .type "tuple", data := .seq #[] }),
  (99, { cls := .none, data := .fields #[] }),
  (100, { cls := .type "tuple", data := .seq #[.str "self" 311, .str "octets" 312] }),
  (101, { cls := .type "tuple", data := .seq #[] }),
  (102, f0 (nM 12 0) "ByteMap.__init__"),
  (103, { cls := .type "code", data := .fields #[.str "__init__" 308, .str "ByteMap.__init__" 309, .str "/claim/cut.py" 310, .int 28 0, .int 2 0, .int 0 0, .int 0 0, .int 3 0, .ref 98, .bool true, .int 181 0, .ref 99, .none, .ref 100, .ref 101, .ref 102, .int 313 0, .int 28 0, .str "/claim/cut.py" 314] }),
  (104, f1 (nM 12 0) "ByteMap.__init__" "outlinemill.cmap" 275 103),
  (105, { cls := .type "tuple", data := .seq #[] }),
  (106, { cls := .none, data := .fields #[] }),
  (107, { cls := .type "tuple", data := .seq #[.str "self" 319, .str "code" 320] }),
  (108, { cls := .type "tuple", data := .seq #[] }),
  (109, f0 (nM 12 1) "ByteMap.find"),
  (110, { cls := .type "code", data := .fields #[.str "find" 316, .str "ByteMap.find" 317, .str "/claim/cut.py" 318, .int 31 0, .int 2 0, .int 0 0, .int 0 0, .int 3 0, .ref 105, .bool true, .int 181 0, .ref 106, .none, .ref 107, .ref 108, .ref 109, .int 321 0, .int 31 0, .str "/claim/cut.py" 322] }),
  (111, f1 (nM 12 1) "ByteMap.find" "outlinemill.cmap" 275 110),
  (112, { cls := .type "tuple", data := .seq #[.str "glyphs" 324] }),
  (113, { cls := .type "dict", data := .dict #[en P "__module__" 303 (.str "outlinemill.cmap" 275), en P "__firstlineno__" 307 (.int 26 306), en P "__init__" 315 (.ref 104), en P "find" 323 (.ref 111), en P "__static_attributes__" 325 (.ref 112), en P "__dict__" 327 (.ref 115), en P "__weakref__" 329 (.ref 116), en P "__doc__" 330 (.none)] 4 }),
  (114, { cls := .type "type", data := .cls { name := "ByteMap", bases := [.type "object"], mro := [.ref 114, .type "object"], ns := 113, qualname := "ByteMap" }, slots := #[none, none, some (.str "ByteMap" 296), some (.str "ByteMap" 304), some (.builtin "object.__new__"), some (.bool true)] }),
  (115, { cls := .type "getset_descriptor", data := .fields #[.str "__dict__" 326, .ref 114, .builtin "function.__dict__", .builtin "function.__dict__#set"] }),
  (116, { cls := .type "getset_descriptor", data := .fields #[.str "__weakref__" 328, .ref 114, .builtin "ExceptionGroup.__weakref__", .none] }),
  (117, { cls := .type "super", data := .fields #[.ref 114, .ref 114, .ref 114] }),
  (118, { cls := .type "builtin_function_or_method", data := .fields #[.builtin "object.__init_subclass__", .ref 114] })]
noncomputable def t195 (P : Params) : BT := puts (t160 P) [
  (3, { cls := .type "dict", data := .dict #[en P "__name__" 165 (.str "outlinemill.cmap" 275), en P "__doc__" 166 (.none), en P "__package__" 167 (.none), en P "__loader__" 168 (.builtin "__main__.__loader__#opaque"), en P "__spec__" 169 (.none), en P "__annotations__" 170 (.ref 6), en P "__builtins__" 171 (.ref 4), en P "__file__" 173 (.str "/claim/cut.py" 172), en P "__cached__" 174 (.none), en P "MillError" 217 (.ref 31), en P "FontFault" 233 (.ref 44), en P "u16" 243 (.ref 53), en P "u32" 251 (.ref 60), en P "put16" 258 (.ref 67), en P "put32" 265 (.ref 74), en P "part_of" 274 (.ref 81), en P "LAST_CODE" 278 (.int 65535 277), en P "BEST" 295 (.ref 90), en P "ByteMap" 332 (.ref 114), en P "TrimmedMap" 369 (.ref 140), en P "first_from" 380 (.ref 151)] 21 }),
  (12, { cls := .none, data := .fields #[.int 2 0, .int 0 0, .ref 20, .int 6 0, .int 0 0, .ref 40, .int 9 0, .int 0 0, .ref 52, .int 13 0, .int 0 0, .ref 59, .int 15 0, .int 0 0, .ref 66, .int 17 0, .int 0 0, .ref 73, .int 19 0, .int 0 0, .ref 80, .int 26 0, .int 0 0, .ref 96, .int 33 0, .int 0 0, .ref 124, .int 42 0, .int 0 0, .ref 150] }),
  (119, { cls := .type "tuple", data := .seq #[] }),
  (120, { cls := .type "builtin_function_or_method", data := .fields #[.builtin "type.__prepare__", .type "type"] }),
  (121, { cls := .type "dict", data := .dict #[en P "__module__" 340 (.str "outlinemill.cmap" 275), en P "__qualname__" 342 (.str "TrimmedMap" 341), en P "__firstlineno__" 344 (.int 33 343), en P "__init__" 350 (.ref 130), en P "find" 359 (.ref 137), en P "__static_attributes__" 362 (.ref 138)] 6 }),
  (122, { cls := .type "tuple", data := .seq #[] }),
  (123, { cls := .none, data := .fields #[.int 35 0, .int 4 0, .ref 129, .int 39 0, .int 4 0, .ref 136] }),
  (124, { cls := .type "code", data := .fields #[.str "TrimmedMap" 335, .str "TrimmedMap" 336, .str "/claim/cut.py" 337, .int 33 0, .int 0 0, .int 0 0, .int 0 0, .int 0 0, .ref 122, .bool false, .int 181 0, .ref 123, .none, .none, .none, .none, .int 338 0, .int 33 0, .str "/claim/cut.py" 339] }),
  (125, { cls := .type "frame", slots := #[some (.ref 124), some (.ref 3), some (.ref 121), none, some (.str "outlinemill.cmap" 275), none, some (.ref 0)] }),
  (126, { cls := .type "tuple", data := .seq #[] }),
  (127, { cls := .none, data := .fields #[] }),
  (128, f0 (nM 13 0) "TrimmedMap.__init__"),
  (129, { cls := .type "code", data := .fields #[.str "__init__" 345, .str "TrimmedMap.__init__" 346, .str "/claim/cut.py" 347, .int 35 0, .int 2 0, .int 0 0, .int 0 0, .int 3 0, .ref 126, .bool true, .int 181 0, .ref 127, .none, .none, .none, .ref 128, .int 348 0, .int 35 0, .str "/claim/cut.py" 349] }),
  (130, f1 (nM 13 0) "TrimmedMap.__init__" "outlinemill.cmap" 275 129),
  (131, { cls := .type "tuple", data := .seq #[] }),
  (132, { cls := .none, data := .fields #[] }),
  (133, { cls := .type "tuple", data := .seq #[.str "self" 354, .str "code" 355, .str "at" 356] }),
  (134, { cls := .type "tuple", data := .seq #[] }),
  (135, f0 (nM 13 1) "TrimmedMap.find"),
  (136, { cls := .type "code", data := .fields #[.str "find" 351, .str "TrimmedMap.find" 352, .str "/claim/cut.py" 353, .int 39 0, .int 2 0, .int 0 0, .int 0 0, .int 3 0, .ref 131, .bool true, .int 181 0, .ref 132, .none, .ref 133, .ref 134, .ref 135, .int 357 0, .int 39 0, .str "/claim/cut.py" 358] }),
  (137, f1 (nM 13 1) "TrimmedMap.find" "outlinemill.cmap" 275 136),
  (138, { cls := .type "tuple", data := .seq #[.str "first" 360, .str "glyphs" 361] }),
  (139, { cls := .type "dict", data := .dict #[en P "__module__" 340 (.str "outlinemill.cmap" 275), en P "__firstlineno__" 344 (.int 33 343), en P "__init__" 350 (.ref 130), en P "find" 359 (.ref 137), en P "__static_attributes__" 362 (.ref 138), en P "__dict__" 364 (.ref 141), en P "__weakref__" 366 (.ref 142), en P "__doc__" 367 (.none)] 4 }),
  (140, { cls := .type "type", data := .cls { name := "TrimmedMap", bases := [.type "object"], mro := [.ref 140, .type "object"], ns := 139, qualname := "TrimmedMap" }, slots := #[none, none, some (.str "TrimmedMap" 333), some (.str "TrimmedMap" 341), some (.builtin "object.__new__"), some (.bool true)] }),
  (141, { cls := .type "getset_descriptor", data := .fields #[.str "__dict__" 363, .ref 140, .builtin "function.__dict__", .builtin "function.__dict__#set"] }),
  (142, { cls := .type "getset_descriptor", data := .fields #[.str "__weakref__" 365, .ref 140, .builtin "ExceptionGroup.__weakref__", .none] }),
  (143, { cls := .type "super", data := .fields #[.ref 140, .ref 140, .ref 140] }),
  (144, { cls := .type "builtin_function_or_method", data := .fields #[.builtin "object.__init_subclass__", .ref 140] }),
  (145, { cls := .type "tuple", data := .seq #[] }),
  (146, { cls := .none, data := .fields #[] }),
  (147, { cls := .type "tuple", data := .seq #[.str "ends" 373, .str "code" 374, .str "low" 375, .str "high" 376, .str "half" 377] }),
  (148, { cls := .type "tuple", data := .seq #[] }),
  (149, f0 (nS 14) "first_from"),
  (150, { cls := .type "code", data := .fields #[.str "first_from" 370, .str "first_from" 371, .str "/claim/cut.py" 372, .int 42 0, .int 2 0, .int 0 0, .int 0 0, .int 3 0, .ref 145, .bool true, .int 181 0, .ref 146, .none, .ref 147, .ref 148, .ref 149, .int 378 0, .int 42 0, .str "/claim/cut.py" 379] }),
  (151, f1 (nS 14) "first_from" "outlinemill.cmap" 275 150)]
noncomputable def t223 (P : Params) : BT := puts (t195 P) [
  (3, { cls := .type "dict", data := .dict #[en P "__name__" 165 (.str "outlinemill.cmap" 275), en P "__doc__" 166 (.none), en P "__package__" 167 (.none), en P "__loader__" 168 (.builtin "__main__.__loader__#opaque"), en P "__spec__" 169 (.none), en P "__annotations__" 170 (.ref 6), en P "__builtins__" 171 (.ref 4), en P "__file__" 173 (.str "/claim/cut.py" 172), en P "__cached__" 174 (.none), en P "MillError" 217 (.ref 31), en P "FontFault" 233 (.ref 44), en P "u16" 243 (.ref 53), en P "u32" 251 (.ref 60), en P "put16" 258 (.ref 67), en P "put32" 265 (.ref 74), en P "part_of" 274 (.ref 81), en P "LAST_CODE" 278 (.int 65535 277), en P "BEST" 295 (.ref 90), en P "ByteMap" 332 (.ref 114), en P "TrimmedMap" 369 (.ref 140), en P "first_from" 380 (.ref 151), en P "SegmentMap" 422 (.ref 173)] 22 }),
  (12, { cls := .none, data := .fields #[.int 2 0, .int 0 0, .ref 20, .int 6 0, .int 0 0, .ref 40, .int 9 0, .int 0 0, .ref 52, .int 13 0, .int 0 0, .ref 59, .int 15 0, .int 0 0, .ref 66, .int 17 0, .int 0 0, .ref 73, .int 19 0, .int 0 0, .ref 80, .int 26 0, .int 0 0, .ref 96, .int 33 0, .int 0 0, .ref 124, .int 42 0, .int 0 0, .ref 150, .int 52 0, .int 0 0, .ref 157] }),
  (152, { cls := .type "tuple", data := .seq #[] }),
  (153, { cls := .type "builtin_function_or_method", data := .fields #[.builtin "type.__prepare__", .type "type"] }),
  (154, { cls := .type "dict", data := .dict #[en P "__module__" 388 (.str "outlinemill.cmap" 275), en P "__qualname__" 390 (.str "SegmentMap" 389), en P "__firstlineno__" 392 (.int 52 391), en P "__init__" 398 (.ref 163), en P "find" 408 (.ref 170), en P "__static_attributes__" 415 (.ref 171)] 6 }),
  (155, { cls := .type "tuple", data := .seq #[] }),
  (156, { cls := .none, data := .fields #[.int 54 0, .int 4 0, .ref 162, .int 67 0, .int 4 0, .ref 169] }),
  (157, { cls := .type "code", data := .fields #[.str "SegmentMap" 383, .str "SegmentMap" 384, .str "/claim/cut.py" 385, .int 52 0, .int 0 0, .int 0 0, .int 0 0, .int 0 0, .ref 155, .bool false, .int 181 0, .ref 156, .none, .none, .none, .none, .int 386 0, .int 52 0, .str "/claim/cut.py" 387] }),
  (158, { cls := .type "frame", slots := #[some (.ref 157), some (.ref 3), some (.ref 154), none, some (.str "outlinemill.cmap" 275), none, some (.ref 0)] }),
  (159, { cls := .type "tuple", data := .seq #[] }),
  (160, { cls := .none, data := .fields #[] }),
  (161, f0 (nM 15 0) "SegmentMap.__init__"),
  (162, { cls := .type "code", data := .fields #[.str "__init__" 393, .str "SegmentMap.__init__" 394, .str "/claim/cut.py" 395, .int 54 0, .int 2 0, .int 0 0, .int 0 0, .int 3 0, .ref 159, .bool true, .int 181 0, .ref 160, .none, .none, .none, .ref 161, .int 396 0, .int 54 0, .str "/claim/cut.py" 397] }),
  (163, f1 (nM 15 0) "SegmentMap.__init__" "outlinemill.cmap" 275 162),
  (164, { cls := .type "tuple", data := .seq #[] }),
  (165, { cls := .none, data := .fields #[] }),
  (166, { cls := .type "tuple", data := .seq #[.str "self" 402, .str "code" 403, .str "at" 404, .str "glyph" 405] }),
  (167, { cls := .type "tuple", data := .seq #[] }),
  (168, f0 (nM 15 1) "SegmentMap.find"),
  (169, { cls := .type "code", data := .fields #[.str "find" 399, .str "SegmentMap.find" 400, .str "/claim/cut.py" 401, .int 67 0, .int 2 0, .int 0 0, .int 0 0, .int 3 0, .ref 164, .bool true, .int 181 0, .ref 165, .none, .ref 166, .ref 167, .ref 168, .int 406 0, .int 67 0, .str "/claim/cut.py" 407] }),
  (170, f1 (nM 15 1) "SegmentMap.find" "outlinemill.cmap" 275 169),
  (171, { cls := .type "tuple", data := .seq #[.str "begin" 409, .str "deltas" 410, .str "ends" 411, .str "octets" 412, .str "offsets" 413, .str "starts" 414] }),
  (172, { cls := .type "dict", data := .dict #[en P "__module__" 388 (.str "outlinemill.cmap" 275), en P "__firstlineno__" 392 (.int 52 391), en P "__init__" 398 (.ref 163), en P "find" 408 (.ref 170), en P "__static_attributes__" 415 (.ref 171), en P "__dict__" 417 (.ref 174), en P "__weakref__" 419 (.ref 175), en P "__doc__" 420 (.none)] 4 }),
  (173, { cls := .type "type", data := .cls { name := "SegmentMap", bases := [.type "object"], mro := [.ref 173, .type "object"], ns := 172, qualname := "SegmentMap" }, slots := #[none, none, some (.str "SegmentMap" 381), some (.str "SegmentMap" 389), some (.builtin "object.__new__"), some (.bool true)] }),
  (174, { cls := .type "getset_descriptor", data := .fields #[.str "__dict__" 416, .ref 173, .builtin "function.__dict__", .builtin "function.__dict__#set"] }),
  (175, { cls := .type "getset_descriptor", data := .fields #[.str "__weakref__" 418, .ref 173, .builtin "ExceptionGroup.__weakref__", .none] }),
  (176, { cls := .type "super", data := .fields #[.ref 173, .ref 173, .ref 173] }),
  (177, { cls := .type "builtin_function_or_method", data := .fields #[.builtin "object.__init_subclass__", .ref 173] })]
noncomputable def t275 (P : Params) : BT := puts (t223 P) [
  (3, { cls := .type "dict", data := .dict #[en P "__name__" 165 (.str "outlinemill.cmap" 275), en P "__doc__" 166 (.none), en P "__package__" 167 (.none), en P "__loader__" 168 (.builtin "__main__.__loader__#opaque"), en P "__spec__" 169 (.none), en P "__annotations__" 170 (.ref 6), en P "__builtins__" 171 (.ref 4), en P "__file__" 173 (.str "/claim/cut.py" 172), en P "__cached__" 174 (.none), en P "MillError" 217 (.ref 31), en P "FontFault" 233 (.ref 44), en P "u16" 243 (.ref 53), en P "u32" 251 (.ref 60), en P "put16" 258 (.ref 67), en P "put32" 265 (.ref 74), en P "part_of" 274 (.ref 81), en P "LAST_CODE" 278 (.int 65535 277), en P "BEST" 295 (.ref 90), en P "ByteMap" 332 (.ref 114), en P "TrimmedMap" 369 (.ref 140), en P "first_from" 380 (.ref 151), en P "SegmentMap" 422 (.ref 173), en P "GroupMap" 460 (.ref 199), en P "read_map" 468 (.ref 210), en P "read_rows" 474 (.ref 215), en P "read_cmap" 486 (.ref 222), en P "write_format_0" 492 (.ref 227)] 27 }),
  (12, { cls := .none, data := .fields #[.int 2 0, .int 0 0, .ref 20, .int 6 0, .int 0 0, .ref 40, .int 9 0, .int 0 0, .ref 52, .int 13 0, .int 0 0, .ref 59, .int 15 0, .int 0 0, .ref 66, .int 17 0, .int 0 0, .ref 73, .int 19 0, .int 0 0, .ref 80, .int 26 0, .int 0 0, .ref 96, .int 33 0, .int 0 0, .ref 124, .int 42 0, .int 0 0, .ref 150, .int 52 0, .int 0 0, .ref 157, .int 75 0, .int 0 0, .ref 183, .int 93 0, .int 0 0, .ref 209, .int 104 0, .int 0 0, .ref 214, .int 106 0, .int 0 0, .ref 221, .int 115 0, .int 0 0, .ref 226] }),
  (178, { cls := .type "tuple", data := .seq #[] }),
  (179, { cls := .type "builtin_function_or_method", data := .fields #[.builtin "type.__prepare__", .type "type"] }),
  (180, { cls := .type "dict", data := .dict #[en P "__module__" 430 (.str "outlinemill.cmap" 275), en P "__qualname__" 432 (.str "GroupMap" 431), en P "__firstlineno__" 434 (.int 75 433), en P "__init__" 440 (.ref 189), en P "find" 449 (.ref 196), en P "__static_attributes__" 453 (.ref 197)] 6 }),
  (181, { cls := .type "tuple", data := .seq #[] }),
  (182, { cls := .none, data := .fields #[.int 77 0, .int 4 0, .ref 188, .int 88 0, .int 4 0, .ref 195] }),
  (183, { cls := .type "code", data := .fields #[.str "GroupMap" 425, .str "GroupMap" 426, .str "/claim/cut.py" 427, .int 75 0, .int 0 0, .int 0 0, .int 0 0, .int 0 0, .ref 181, .bool false, .int 181 0, .ref 182, .none, .none, .none, .none, .int 428 0, .int 75 0, .str "/claim/cut.py" 429] }),
  (184, { cls := .type "frame", slots := #[some (.ref 183), some (.ref 3), some (.ref 180), none, some (.str "outlinemill.cmap" 275), none, some (.ref 0)] }),
  (185, { cls := .type "tuple", data := .seq #[] }),
  (186, { cls := .none, data := .fields #[] }),
  (187, f0 (nM 16 0) "GroupMap.__init__"),
  (188, { cls := .type "code", data := .fields #[.str "__init__" 435, .str "GroupMap.__init__" 436, .str "/claim/cut.py" 437, .int 77 0, .int 2 0, .int 0 0, .int 0 0, .int 3 0, .ref 185, .bool true, .int 181 0, .ref 186, .none, .none, .none, .ref 187, .int 438 0, .int 77 0, .str "/claim/cut.py" 439] }),
  (189, f1 (nM 16 0) "GroupMap.__init__" "outlinemill.cmap" 275 188),
  (190, { cls := .type "tuple", data := .seq #[] }),
  (191, { cls := .none, data := .fields #[] }),
  (192, { cls := .type "tuple", data := .seq #[.str "self" 444, .str "code" 445, .str "at" 446] }),
  (193, { cls := .type "tuple", data := .seq #[] }),
  (194, f0 (nM 16 1) "GroupMap.find"),
  (195, { cls := .type "code", data := .fields #[.str "find" 441, .str "GroupMap.find" 442, .str "/claim/cut.py" 443, .int 88 0, .int 2 0, .int 0 0, .int 0 0, .int 3 0, .ref 190, .bool true, .int 181 0, .ref 191, .none, .ref 192, .ref 193, .ref 194, .int 447 0, .int 88 0, .str "/claim/cut.py" 448] }),
  (196, f1 (nM 16 1) "GroupMap.find" "outlinemill.cmap" 275 195),
  (197, { cls := .type "tuple", data := .seq #[.str "ends" 450, .str "glyphs" 451, .str "starts" 452] }),
  (198, { cls := .type "dict", data := .dict #[en P "__module__" 430 (.str "outlinemill.cmap" 275), en P "__firstlineno__" 434 (.int 75 433), en P "__init__" 440 (.ref 189), en P "find" 449 (.ref 196), en P "__static_attributes__" 453 (.ref 197), en P "__dict__" 455 (.ref 200), en P "__weakref__" 457 (.ref 201), en P "__doc__" 458 (.none)] 4 }),
  (199, { cls := .type "type", data := .cls { name := "GroupMap", bases := [.type "object"], mro := [.ref 199, .type "object"], ns := 198, qualname := "GroupMap" }, slots := #[none, none, some (.str "GroupMap" 423), some (.str "GroupMap" 431), some (.builtin "object.__new__"), some (.bool true)] }),
  (200, { cls := .type "getset_descriptor", data := .fields #[.str "__dict__" 454, .ref 199, .builtin "function.__dict__", .builtin "function.__dict__#set"] }),
  (201, { cls := .type "getset_descriptor", data := .fields #[.str "__weakref__" 456, .ref 199, .builtin "ExceptionGroup.__weakref__", .none] }),
  (202, { cls := .type "super", data := .fields #[.ref 199, .ref 199, .ref 199] }),
  (203, { cls := .type "builtin_function_or_method", data := .fields #[.builtin "object.__init_subclass__", .ref 199] }),
  (204, { cls := .type "tuple", data := .seq #[] }),
  (205, { cls := .none, data := .fields #[] }),
  (206, { cls := .type "tuple", data := .seq #[.str "octets" 464, .str "form" 465] }),
  (207, { cls := .type "tuple", data := .seq #[] }),
  (208, f0 (nS 17) "read_map"),
  (209, { cls := .type "code", data := .fields #[.str "read_map" 461, .str "read_map" 462, .str "/claim/cut.py" 463, .int 93 0, .int 1 0, .int 0 0, .int 0 0, .int 3 0, .ref 204, .bool true, .int 181 0, .ref 205, .none, .ref 206, .ref 207, .ref 208, .int 466 0, .int 93 0, .str "/claim/cut.py" 467] }),
  (210, f1 (nS 17) "read_map" "outlinemill.cmap" 275 209),
  (211, { cls := .type "tuple", data := .seq #[] }),
  (212, { cls := .none, data := .fields #[] }),
  (213, f0 (nS 18) "read_rows"),
  (214, { cls := .type "code", data := .fields #[.str "read_rows" 469, .str "read_rows" 470, .str "/claim/cut.py" 471, .int 104 0, .int 1 0, .int 0 0, .int 0 0, .int 3 0, .ref 211, .bool true, .int 181 0, .ref 212, .none, .none, .none, .ref 213, .int 472 0, .int 104 0, .str "/claim/cut.py" 473] }),
  (215, f1 (nS 18) "read_rows" "outlinemill.cmap" 275 214),
  (216, { cls := .type "tuple", data := .seq #[] }),
  (217, { cls := .none, data := .fields #[] }),
  (218, { cls := .type "tuple", data := .seq #[.str "octets" 478, .str "rows" 479, .str "best" 480, .str "platform" 481, .str "encoding" 482, .str "place" 483] }),
  (219, { cls := .type "tuple", data := .seq #[] }),
  (220, f0 (nS 19) "read_cmap"),
  (221, { cls := .type "code", data := .fields #[.str "read_cmap" 475, .str "read_cmap" 476, .str "/claim/cut.py" 477, .int 106 0, .int 1 0, .int 0 0, .int 0 0, .int 3 0, .ref 216, .bool true, .int 181 0, .ref 217, .none, .ref 218, .ref 219, .ref 220, .int 484 0, .int 106 0, .str "/claim/cut.py" 485] }),
  (222, f1 (nS 19) "read_cmap" "outlinemill.cmap" 275 221),
  (223, { cls := .type "tuple", data := .seq #[] }),
  (224, { cls := .none, data := .fields #[] }),
  (225, f0 (nS 20) "write_format_0"),
  (226, { cls := .type "code", data := .fields #[.str "write_format_0" 487, .str "write_format_0" 488, .str "/claim/cut.py" 489, .int 115 0, .int 1 0, .int 0 0, .int 0 0, .int 3 0, .ref 223, .bool true, .int 181 0, .ref 224, .none, .none, .none, .ref 225, .int 490 0, .int 115 0, .str "/claim/cut.py" 491] }),
  (227, f1 (nS 20) "write_format_0" "outlinemill.cmap" 275 226)]
noncomputable def t357 (P : Params) : BT := puts (t275 P) [
  (3, { cls := .type "dict", data := .dict #[en P "__name__" 165 (.str "law_nu0024_01" 565), en P "__doc__" 166 (.none), en P "__package__" 167 (.none), en P "__loader__" 168 (.builtin "__main__.__loader__#opaque"), en P "__spec__" 169 (.none), en P "__annotations__" 170 (.ref 6), en P "__builtins__" 171 (.ref 4), en P "__file__" 173 (.str "/claim/cut.py" 172), en P "__cached__" 174 (.none), en P "MillError" 217 (.ref 31), en P "FontFault" 233 (.ref 44), en P "u16" 243 (.ref 53), en P "u32" 251 (.ref 60), en P "put16" 258 (.ref 67), en P "put32" 265 (.ref 74), en P "part_of" 274 (.ref 81), en P "LAST_CODE" 278 (.int 65535 277), en P "BEST" 295 (.ref 90), en P "ByteMap" 332 (.ref 114), en P "TrimmedMap" 369 (.ref 140), en P "first_from" 380 (.ref 151), en P "SegmentMap" 422 (.ref 173), en P "GroupMap" 460 (.ref 199), en P "read_map" 468 (.ref 210), en P "read_rows" 474 (.ref 215), en P "read_cmap" 486 (.ref 222), en P "write_format_0" 492 (.ref 227), en P "write_format_6" 504 (.ref 234), en P "runs_of" 513 (.ref 241), en P "is_even_run" 523 (.ref 248), en P "write_format_4" 529 (.ref 253), en P "exponent_of" 537 (.ref 260), en P "write_format_12" 543 (.ref 265), en P "write_map" 551 (.ref 272), en P "write_cmap" 564 (.ref 279), en P "_law_pool" 576 (.ref 286), en P "_law_take" 585 (.ref 293), en P "_law_one" 593 (.ref 300), en P "_law_codes" 603 (.ref 307)] 39 }),
  (12, { cls := .none, data := .fields #[.int 2 0, .int 0 0, .ref 20, .int 6 0, .int 0 0, .ref 40, .int 9 0, .int 0 0, .ref 52, .int 13 0, .int 0 0, .ref 59, .int 15 0, .int 0 0, .ref 66, .int 17 0, .int 0 0, .ref 73, .int 19 0, .int 0 0, .ref 80, .int 26 0, .int 0 0, .ref 96, .int 33 0, .int 0 0, .ref 124, .int 42 0, .int 0 0, .ref 150, .int 52 0, .int 0 0, .ref 157, .int 75 0, .int 0 0, .ref 183, .int 93 0, .int 0 0, .ref 209, .int 104 0, .int 0 0, .ref 214, .int 106 0, .int 0 0, .ref 221, .int 115 0, .int 0 0, .ref 226, .int 118 0, .int 0 0, .ref 233, .int 126 0, .int 0 0, .ref 240, .int 134 0, .int 0 0, .ref 247, .int 139 0, .int 0 0, .ref 252, .int 161 0, .int 0 0, .ref 259, .int 167 0, .int 0 0, .ref 264, .int 176 0, .int 0 0, .ref 271, .int 186 0, .int 0 0, .ref 278, .int 195 0, .int 0 0, .ref 285, .int 199 0, .int 0 0, .ref 292, .int 206 0, .int 0 0, .ref 299, .int 208 0, .int 0 0, .ref 306] }),
  (228, { cls := .type "tuple", data := .seq #[] }),
  (229, { cls := .none, data := .fields #[] }),
  (230, { cls := .type "tuple", data := .seq #[.str "codes" 496, .str "known" 497, .str "first" 498, .str "last" 499, .str "found" 500, .str "code" 501] }),
  (231, { cls := .type "tuple", data := .seq #[] }),
  (232, f0 (nS 21) "write_format_6"),
  (233, { cls := .type "code", data := .fields #[.str "write_format_6" 493, .str "write_format_6" 494, .str "/claim/cut.py" 495, .int 118 0, .int 1 0, .int 0 0, .int 0 0, .int 3 0, .ref 228, .bool true, .int 181 0, .ref 229, .none, .ref 230, .ref 231, .ref 232, .int 502 0, .int 118 0, .str "/claim/cut.py" 503] }),
  (234, f1 (nS 21) "write_format_6" "outlinemill.cmap" 275 233),
  (235, { cls := .type "tuple", data := .seq #[] }),
  (236, { cls := .none, data := .fields #[] }),
  (237, { cls := .type "tuple", data := .seq #[.str "codes" 508, .str "found" 509, .str "code" 510] }),
  (238, { cls := .type "tuple", data := .seq #[] }),
  (239, f0 (nS 22) "runs_of"),
  (240, { cls := .type "code", data := .fields #[.str "runs_of" 505, .str "runs_of" 506, .str "/claim/cut.py" 507, .int 126 0, .int 1 0, .int 0 0, .int 0 0, .int 3 0, .ref 235, .bool true, .int 181 0, .ref 236, .none, .ref 237, .ref 238, .ref 239, .int 511 0, .int 126 0, .str "/claim/cut.py" 512] }),
  (241, f1 (nS 22) "runs_of" "outlinemill.cmap" 275 240),
  (242, { cls := .type "tuple", data := .seq #[] }),
  (243, { cls := .none, data := .fields #[] }),
  (244, { cls := .type "tuple", data := .seq #[.str "codes" 517, .str "first" 518, .str "last" 519, .str "code" 520] }),
  (245, { cls := .type "tuple", data := .seq #[] }),
  (246, f0 (nS 23) "is_even_run"),
  (247, { cls := .type "code", data := .fields #[.str "is_even_run" 514, .str "is_even_run" 515, .str "/claim/cut.py" 516, .int 134 0, .int 3 0, .int 0 0, .int 0 0, .int 3 0, .ref 242, .bool true, .int 181 0, .ref 243, .none, .ref 244, .ref 245, .ref 246, .int 521 0, .int 134 0, .str "/claim/cut.py" 522] }),
  (248, f1 (nS 23) "is_even_run" "outlinemill.cmap" 275 247),
  (249, { cls := .type "tuple", data := .seq #[] }),
  (250, { cls := .none, data := .fields #[] }),
  (251, f0 (nS 24) "write_format_4"),
  (252, { cls := .type "code", data := .fields #[.str "write_format_4" 524, .str "write_format_4" 525, .str "/claim/cut.py" 526, .int 139 0, .int 1 0, .int 0 0, .int 0 0, .int 3 0, .ref 249, .bool true, .int 181 0, .ref 250, .none, .none, .none, .ref 251, .int 527 0, .int 139 0, .str "/claim/cut.py" 528] }),
  (253, f1 (nS 24) "write_format_4" "outlinemill.cmap" 275 252),
  (254, { cls := .type "tuple", data := .seq #[] }),
  (255, { cls := .none, data := .fields #[] }),
  (256, { cls := .type "tuple", data := .seq #[.str "power" 533, .str "found" 534] }),
  (257, { cls := .type "tuple", data := .seq #[] }),
  (258, f0 (nS 25) "exponent_of"),
  (259, { cls := .type "code", data := .fields #[.str "exponent_of" 530, .str "exponent_of" 531, .str "/claim/cut.py" 532, .int 161 0, .int 1 0, .int 0 0, .int 0 0, .int 3 0, .ref 254, .bool true, .int 181 0, .ref 255, .none, .ref 256, .ref 257, .ref 258, .int 535 0, .int 161 0, .str "/claim/cut.py" 536] }),
  (260, f1 (nS 25) "exponent_of" "outlinemill.cmap" 275 259),
  (261, { cls := .type "tuple", data := .seq #[] }),
  (262, { cls := .none, data := .fields #[] }),
  (263, f0 (nS 26) "write_format_12"),
  (264, { cls := .type "code", data := .fields #[.str "write_format_12" 538, .str "write_format_12" 539, .str "/claim/cut.py" 540, .int 167 0, .int 1 0, .int 0 0, .int 0 0, .int 3 0, .ref 261, .bool true, .int 181 0, .ref 262, .none, .none, .none, .ref 263, .int 541 0, .int 167 0, .str "/claim/cut.py" 542] }),
  (265, f1 (nS 26) "write_format_12" "outlinemill.cmap" 275 264),
  (266, { cls := .type "tuple", data := .seq #[] }),
  (267, { cls := .none, data := .fields #[] }),
  (268, { cls := .type "tuple", data := .seq #[.str "form" 547, .str "codes" 548] }),
  (269, { cls := .type "tuple", data := .seq #[] }),
  (270, f0 (nS 27) "write_map"),
  (271, { cls := .type "code", data := .fields #[.str "write_map" 544, .str "write_map" 545, .str "/claim/cut.py" 546, .int 176 0, .int 2 0, .int 0 0, .int 0 0, .int 3 0, .ref 266, .bool true, .int 181 0, .ref 267, .none, .ref 268, .ref 269, .ref 270, .int 549 0, .int 176 0, .str "/claim/cut.py" 550] }),
  (272, f1 (nS 27) "write_map" "outlinemill.cmap" 275 271),
  (273, { cls := .type "tuple", data := .seq #[] }),
  (274, { cls := .none, data := .fields #[] }),
  (275, { cls := .type "tuple", data := .seq #[.str "rows" 555, .str "found" 556, .str "place" 557, .str "maps" 558, .str "platform" 559, .str "encoding" 560, .str "octets" 561] }),
  (276, { cls := .type "tuple", data := .seq #[] }),
  (277, f0 (nS 28) "write_cmap"),
  (278, { cls := .type "code", data := .fields #[.str "write_cmap" 552, .str "write_cmap" 553, .str "/claim/cut.py" 554, .int 186 0, .int 1 0, .int 0 0, .int 0 0, .int 3 0, .ref 273, .bool true, .int 181 0, .ref 274, .none, .ref 275, .ref 276, .ref 277, .int 562 0, .int 186 0, .str "/claim/cut.py" 563] }),
  (279, f1 (nS 28) "write_cmap" "outlinemill.cmap" 275 278),
  (280, { cls := .type "tuple", data := .seq #[] }),
  (281, { cls := .none, data := .fields #[] }),
  (282, { cls := .type "tuple", data := .seq #[.str "script" 570, .str "k" 571, .str "cell" 572, .str "big" 573] }),
  (283, { cls := .type "tuple", data := .seq #[] }),
  (284, f0 (nS 30) "_law_pool"),
  (285, { cls := .type "code", data := .fields #[.str "_law_pool" 567, .str "_law_pool" 568, .str "/claim/cut.py" 569, .int 195 0, .int 2 0, .int 0 0, .int 0 0, .int 3 0, .ref 280, .bool true, .int 181 0, .ref 281, .none, .ref 282, .ref 283, .ref 284, .int 574 0, .int 195 0, .str "/claim/cut.py" 575] }),
  (286, f1 (nS 30) "_law_pool" "law_nu0024_01" 565 285),
  (287, { cls := .type "tuple", data := .seq #[] }),
  (288, { cls := .none, data := .fields #[] }),
  (289, { cls := .type "tuple", data := .seq #[.str "source" 580, .str "top" 581, .str "drawn" 582] }),
  (290, { cls := .type "tuple", data := .seq #[] }),
  (291, f0 (nS 31) "_law_take"),
  (292, { cls := .type "code", data := .fields #[.str "_law_take" 577, .str "_law_take" 578, .str "/claim/cut.py" 579, .int 199 0, .int 2 0, .int 0 0, .int 0 0, .int 3 0, .ref 287, .bool true, .int 181 0, .ref 288, .none, .ref 289, .ref 290, .ref 291, .int 583 0, .int 199 0, .str "/claim/cut.py" 584] }),
  (293, f1 (nS 31) "_law_take" "law_nu0024_01" 565 292),
  (294, { cls := .type "tuple", data := .seq #[] }),
  (295, { cls := .none, data := .fields #[] }),
  (296, { cls := .type "tuple", data := .seq #[.str "source" 589, .str "things" 590] }),
  (297, { cls := .type "tuple", data := .seq #[] }),
  (298, f0 (nS 32) "_law_one"),
  (299, { cls := .type "code", data := .fields #[.str "_law_one" 586, .str "_law_one" 587, .str "/claim/cut.py" 588, .int 206 0, .int 2 0, .int 0 0, .int 0 0, .int 3 0, .ref 294, .bool true, .int 181 0, .ref 295, .none, .ref 296, .ref 297, .ref 298, .int 591 0, .int 206 0, .str "/claim/cut.py" 592] }),
  (300, f1 (nS 32) "_law_one" "law_nu0024_01" 565 299),
  (301, { cls := .type "tuple", data := .seq #[] }),
  (302, { cls := .none, data := .fields #[] }),
  (303, { cls := .type "tuple", data := .seq #[.str "source" 597, .str "found" 598, .str "code" 599, .str "turn" 600] }),
  (304, { cls := .type "tuple", data := .seq #[] }),
  (305, f0 (nS 33) "_law_codes"),
  (306, { cls := .type "code", data := .fields #[.str "_law_codes" 594, .str "_law_codes" 595, .str "/claim/cut.py" 596, .int 208 0, .int 1 0, .int 0 0, .int 0 0, .int 3 0, .ref 301, .bool true, .int 181 0, .ref 302, .none, .ref 303, .ref 304, .ref 305, .int 601 0, .int 208 0, .str "/claim/cut.py" 602] }),
  (307, f1 (nS 33) "_law_codes" "law_nu0024_01" 565 306)]
noncomputable def t385 (P : Params) : BT := puts (t357 P) [
  (3, { cls := .type "dict", data := .dict #[en P "__name__" 165 (.str "law_nu0024_01" 565), en P "__doc__" 166 (.none), en P "__package__" 167 (.none), en P "__loader__" 168 (.builtin "__main__.__loader__#opaque"), en P "__spec__" 169 (.none), en P "__annotations__" 170 (.ref 6), en P "__builtins__" 171 (.ref 4), en P "__file__" 173 (.str "/claim/cut.py" 172), en P "__cached__" 174 (.none), en P "MillError" 217 (.ref 31), en P "FontFault" 233 (.ref 44), en P "u16" 243 (.ref 53), en P "u32" 251 (.ref 60), en P "put16" 258 (.ref 67), en P "put32" 265 (.ref 74), en P "part_of" 274 (.ref 81), en P "LAST_CODE" 278 (.int 65535 277), en P "BEST" 295 (.ref 90), en P "ByteMap" 332 (.ref 114), en P "TrimmedMap" 369 (.ref 140), en P "first_from" 380 (.ref 151), en P "SegmentMap" 422 (.ref 173), en P "GroupMap" 460 (.ref 199), en P "read_map" 468 (.ref 210), en P "read_rows" 474 (.ref 215), en P "read_cmap" 486 (.ref 222), en P "write_format_0" 492 (.ref 227), en P "write_format_6" 504 (.ref 234), en P "runs_of" 513 (.ref 241), en P "is_even_run" 523 (.ref 248), en P "write_format_4" 529 (.ref 253), en P "exponent_of" 537 (.ref 260), en P "write_format_12" 543 (.ref 265), en P "write_map" 551 (.ref 272), en P "write_cmap" 564 (.ref 279), en P "_law_pool" 576 (.ref 286), en P "_law_take" 585 (.ref 293), en P "_law_one" 593 (.ref 300), en P "_law_codes" 603 (.ref 307), en P "_law_beside" 612 (.ref 314), en P "_law_map_right" 622 (.ref 321), en P "_law_fell" 629 (.ref 328), en P "law" 635 (.ref 333)] 43 }),
  (12, { cls := .none, data := .fields #[.int 2 0, .int 0 0, .ref 20, .int 6 0, .int 0 0, .ref 40, .int 9 0, .int 0 0, .ref 52, .int 13 0, .int 0 0, .ref 59, .int 15 0, .int 0 0, .ref 66, .int 17 0, .int 0 0, .ref 73, .int 19 0, .int 0 0, .ref 80, .int 26 0, .int 0 0, .ref 96, .int 33 0, .int 0 0, .ref 124, .int 42 0, .int 0 0, .ref 150, .int 52 0, .int 0 0, .ref 157, .int 75 0, .int 0 0, .ref 183, .int 93 0, .int 0 0, .ref 209, .int 104 0, .int 0 0, .ref 214, .int 106 0, .int 0 0, .ref 221, .int 115 0, .int 0 0, .ref 226, .int 118 0, .int 0 0, .ref 233, .int 126 0, .int 0 0, .ref 240, .int 134 0, .int 0 0, .ref 247, .int 139 0, .int 0 0, .ref 252, .int 161 0, .int 0 0, .ref 259, .int 167 0, .int 0 0, .ref 264, .int 176 0, .int 0 0, .ref 271, .int 186 0, .int 0 0, .ref 278, .int 195 0, .int 0 0, .ref 285, .int 199 0, .int 0 0, .ref 292, .int 206 0, .int 0 0, .ref 299, .int 208 0, .int 0 0, .ref 306, .int 215 0, .int 0 0, .ref 313, .int 220 0, .int 0 0, .ref 320, .int 225 0, .int 0 0, .ref 327, .int 231 0, .int 0 0, .ref 332] }),
  (308, { cls := .type "tuple", data := .seq #[] }),
  (309, { cls := .none, data := .fields #[] }),
  (310, { cls := .type "tuple", data := .seq #[.str "codes" 607, .str "found" 608, .str "code" 609] }),
  (311, { cls := .type "tuple", data := .seq #[] }),
  (312, f0 (nS 34) "_law_beside"),
  (313, { cls := .type "code", data := .fields #[.str "_law_beside" 604, .str "_law_beside" 605, .str "/claim/cut.py" 606, .int 215 0, .int 1 0, .int 0 0, .int 0 0, .int 3 0, .ref 308, .bool true, .int 181 0, .ref 309, .none, .ref 310, .ref 311, .ref 312, .int 610 0, .int 215 0, .str "/claim/cut.py" 611] }),
  (314, f1 (nS 34) "_law_beside" "law_nu0024_01" 565 313),
  (315, { cls := .type "tuple", data := .seq #[] }),
  (316, { cls := .none, data := .fields #[] }),
  (317, { cls := .type "tuple", data := .seq #[.str "told" 616, .str "codes" 617, .str "most" 618, .str "code" 619] }),
  (318, { cls := .type "tuple", data := .seq #[] }),
  (319, f0 (nS 35) "_law_map_right"),
  (320, { cls := .type "code", data := .fields #[.str "_law_map_right" 613, .str "_law_map_right" 614, .str "/claim/cut.py" 615, .int 220 0, .int 3 0, .int 0 0, .int 0 0, .int 3 0, .ref 315, .bool true, .int 181 0, .ref 316, .none, .ref 317, .ref 318, .ref 319, .int 620 0, .int 220 0, .str "/claim/cut.py" 621] }),
  (321, f1 (nS 35) "_law_map_right" "law_nu0024_01" 565 320),
  (322, { cls := .type "tuple", data := .seq #[] }),
  (323, { cls := .none, data := .fields #[] }),
  (324, { cls := .type "tuple", data := .seq #[.str "octets" 626] }),
  (325, { cls := .type "tuple", data := .seq #[] }),
  (326, f0 (nS 36) "_law_fell"),
  (327, { cls := .type "code", data := .fields #[.str "_law_fell" 623, .str "_law_fell" 624, .str "/claim/cut.py" 625, .int 225 0, .int 1 0, .int 0 0, .int 0 0, .int 3 0, .ref 322, .bool true, .int 181 0, .ref 323, .none, .ref 324, .ref 325, .ref 326, .int 627 0, .int 225 0, .str "/claim/cut.py" 628] }),
  (328, f1 (nS 36) "_law_fell" "law_nu0024_01" 565 327),
  (329, { cls := .type "tuple", data := .seq #[] }),
  (330, { cls := .none, data := .fields #[] }),
  (331, f0 (nS 37) "law"),
  (332, { cls := .type "code", data := .fields #[.str "law" 630, .str "law" 631, .str "/claim/cut.py" 632, .int 231 0, .int 1 0, .int 0 0, .int 0 0, .int 3 0, .ref 329, .bool true, .int 181 0, .ref 330, .none, .none, .none, .ref 331, .int 633 0, .int 231 0, .str "/claim/cut.py" 634] }),
  (333, f1 (nS 37) "law" "law_nu0024_01" 565 332)]
noncomputable def env : Env := { scope := pr.main.scope, locals := mainNs, globals := mainNs, cells := [], code := .ref 13, frame := some 14 }
noncomputable abbrev cd : Code := .body (behindTheImports pr) env
noncomputable def cut (a n : Nat) : List Stmt := (pr.main.body.drop a).take n
noncomputable abbrev p0 : Pos := ⟨0, 0, 0, 0⟩
noncomputable abbrev at_ (t : Params → BT) (n k : Nat) (w : World) (os : OsState) : SharedT := { tree := t w.params, n := n, life := {}, gens := #[], drawn := {}, toks := k, os := os }
noncomputable def Goes (f : Nat) (t : Params → BT) (n k : Nat) (l : List Stmt) (p : Pos) (t' : Params → BT) (n' k' : Nat) (p' : Pos) : Prop := ∀ w : World, (fun os => segRunT treeTable pr w 11 (some (.ref 6)) 1 f (at_ t n k w os) (piecesOf l env cd p [topFrame p0])) = fun os => some (.next, at_ t' n' k' w os, cd, p')
theorem g71 : Goes 238 t47 15 187 (cut 0 2) ⟨0, 0, 0, 0⟩ t71 35 218 ⟨2, 0, 5, 30⟩ := fun w => by kernel_rfl
theorem g121 : Goes 390 t71 35 218 (cut 2 9) ⟨2, 0, 5, 30⟩ t121 82 279 ⟨24, 0, 24, 9⟩ := fun w => by kernel_rfl
theorem g160 : Goes 297 t121 82 279 (cut 11 2) ⟨24, 0, 24, 9⟩ t160 119 333 ⟨26, 0, 32, 58⟩ := fun w => by kernel_rfl
theorem g195 : Goes 286 t160 119 333 (cut 13 2) ⟨26, 0, 32, 58⟩ t195 152 381 ⟨42, 0, 51, 14⟩ := fun w => by kernel_rfl
theorem g223 : Goes 258 t195 152 381 (cut 15 1) ⟨42, 0, 51, 14⟩ t223 178 423 ⟨52, 0, 74, 69⟩ := fun w => by kernel_rfl
theorem g275 : Goes 370 t223 178 423 (cut 16 5) ⟨52, 0, 74, 69⟩ t275 228 493 ⟨115, 0, 117, 102⟩ := fun w => by kernel_rfl
theorem g357 : Goes 379 t275 228 493 (cut 21 13) ⟨115, 0, 117, 102⟩ t357 308 604 ⟨208, 0, 214, 16⟩ := fun w => by kernel_rfl
theorem g385 : Goes 119 t357 308 604 (cut 34 4) ⟨208, 0, 214, 16⟩ t385 334 636 ⟨231, 0, 257, 103⟩ := fun w => by kernel_rfl

noncomputable def hA (P : Params) : Heap := absHeap (t47 P) 15 {}
noncomputable def hE (P : Params) : Heap := absHeap (t385 P) 334 {}
theorem e47 : ∀ w : World, (fun os => topGo treeTable pr w 11 (some (.ref 6)) 12 { heap := boot_heap w.params, drawn := boot_drawn, toks := boot_toks, os := os } (topStub pr)) = fun os => some ({ heap := hA w.params, toks := 187, os := os }, { cur := denote treeTable cd, code := cd, pos := p0, stack := [topFrame p0] }) := fun w => by kernel_rfl
theorem e49 : ∀ w : World, (fun os => segRun treeTable pr w 11 (some (.ref 6)) 1 1 { heap := hA w.params, toks := 187, os := os } (blockOf (behindTheImports pr) env cd p0 [topFrame p0])) = fun os => some (Flow.next, (at_ t47 15 187 w os).abs, cd, p0) := fun w => by kernel_rfl
theorem e388 : ∀ w : World, (fun os => topRun treeTable pr w 11 (some (.ref 6)) 2 (at_ t385 334 636 w os).abs { cur := doneF .next, code := cd, pos := ⟨231, 0, 257, 103⟩, stack := [topFrame p0] }) = fun os => some { heap := hE w.params, toks := 636, os := os } := fun w => by kernel_rfl
theorem body_cut : behindTheImports pr = cut 0 2 ++ (cut 2 9 ++ (cut 11 2 ++ (cut 13 2 ++ (cut 15 1 ++ (cut 16 5 ++ (cut 21 13 ++ (cut 34 4 ++ []))))))) := by kernel_rfl
theorem rest_eq {w : World} {N : Nat} {s r : Shared} {l l' : List Stmt} {c : Code} {p : Pos} (h : l = l') (k : topRun treeTable pr w 11 (some (.ref 6)) N s (restOf l' env c p [topFrame p0]) = some r) : topRun treeTable pr w 11 (some (.ref 6)) N s (restOf l env c p [topFrame p0]) = some r := h ▸ k
theorem goes_cons {f N n k n' k' : Nat} {t t' : Params → BT} {l rest : List Stmt} {p p' : Pos} (h : Goes f t n k l p t' n' k' p') {w : World} {os : OsState} {r : Shared} (q : topRun treeTable pr w 11 (some (.ref 6)) N (at_ t' n' k' w os).abs (restOf rest env cd p' [topFrame p0]) = some r) : topRun treeTable pr w 11 (some (.ref 6)) (f + N) (at_ t n k w os).abs (restOf (l ++ rest) env cd p [topFrame p0]) = some r :=
  piece_app (segRun_of (congrFun (h w) os)) q
theorem top_run : ∀ (w : World) (os : OsState), topRun treeTable pr w 11 (some (.ref 6)) (12 + (1 + (238 + (390 + (297 + (286 + (258 + (370 + (379 + (119 + 2)))))))))) { heap := boot_heap w.params, drawn := boot_drawn, toks := boot_toks, os := os } (topStub pr) = some { heap := hE w.params, toks := 636, os := os } := fun w os =>
  go_top (congrFun (e47 w) os) (piece_block (congrFun (e49 w) os) (rest_eq body_cut (goes_cons g71 (goes_cons g121 (goes_cons g160 (goes_cons g195 (goes_cons g223 (goes_cons g275 (goes_cons g357 (goes_cons g385 (congrFun (e388 w) os)))))))))))
noncomputable def view : Program := { pr with main := { pr.main with body := [1, 2, 4, 5, 6, 7, 8, 10, 11, 12, 13, 14, 15, 16, 17, 18, 19, 20, 21, 22, 23, 24, 25, 26, 27, 28, 30, 31, 32, 33, 34, 35, 36, 37].map nS } }
noncomputable def asK : List Addr := [2, 3, 15, 22, 24, 25, 27, 28, 29, 30, 31, 32, 35, 42, 43, 44, 47, 49, 50, 52, 53, 54, 56, 57, 59, 60, 61, 63, 64, 66, 67, 68, 70, 71, 73, 74, 75, 77, 78, 80, 81, 82, 83, 84, 85, 86, 87, 88, 89, 90, 98, 100, 101, 103, 104, 105, 107, 108, 110, 111, 112, 113, 114, 115, 116, 126, 129, 130, 131, 133, 134, 136, 137, 138, 139, 140, 141, 142, 145, 147, 148, 150, 151, 159, 162, 163, 164, 166, 167, 169, 170, 171, 172, 173, 174, 175, 185, 188, 189, 190, 192, 193, 195, 196, 197, 198, 199, 200, 201, 204, 206, 207, 209, 210, 211, 214, 215, 216, 218, 219, 221, 222, 223, 226, 227, 228, 230, 231, 233, 234, 235, 237, 238, 240, 241, 242, 244, 245, 247, 248, 249, 252, 253, 254, 256, 257, 259, 260, 261, 264, 265, 266, 268, 269, 271, 272, 273, 275, 276, 278, 279, 280, 282, 283, 285, 286, 287, 289, 290, 292, 293, 294, 296, 297, 299, 300, 301, 303, 304, 306, 307, 308, 310, 311, 313, 314, 315, 317, 318, 320, 321, 322, 324, 325, 327, 328, 329, 332, 333]
noncomputable def kP (P : Params) : Frag := [
  (2, { cls := .none, data := .dict #[en P "type.__subclasses__.Exception.0" 214 (.int 31 0), en P "type.__subclasses__.Exception.n" 215 (.int 1 0)] 2 }),
  (3, { cls := .type "dict", data := .dict #[en P "__name__" 165 (.str "law_nu0024_01" 565), en P "__doc__" 166 (.none), en P "__package__" 167 (.none), en P "__loader__" 168 (.builtin "__main__.__loader__#opaque"), en P "__spec__" 169 (.none), en P "__annotations__" 170 (.ref 6), en P "__builtins__" 171 (.ref 4), en P "__file__" 173 (.str "/claim/cut.py" 172), en P "__cached__" 174 (.none), en P "MillError" 217 (.ref 31), en P "FontFault" 233 (.ref 44), en P "u16" 243 (.ref 53), en P "u32" 251 (.ref 60), en P "put16" 258 (.ref 67), en P "put32" 265 (.ref 74), en P "part_of" 274 (.ref 81), en P "LAST_CODE" 278 (.int 65535 277), en P "BEST" 295 (.ref 90), en P "ByteMap" 332 (.ref 114), en P "TrimmedMap" 369 (.ref 140), en P "first_from" 380 (.ref 151), en P "SegmentMap" 422 (.ref 173), en P "GroupMap" 460 (.ref 199), en P "read_map" 468 (.ref 210), en P "read_rows" 474 (.ref 215), en P "read_cmap" 486 (.ref 222), en P "write_format_0" 492 (.ref 227), en P "write_format_6" 504 (.ref 234), en P "runs_of" 513 (.ref 241), en P "is_even_run" 523 (.ref 248), en P "write_format_4" 529 (.ref 253), en P "exponent_of" 537 (.ref 260), en P "write_format_12" 543 (.ref 265), en P "write_map" 551 (.ref 272), en P "write_cmap" 564 (.ref 279), en P "_law_pool" 576 (.ref 286), en P "_law_take" 585 (.ref 293), en P "_law_one" 593 (.ref 300), en P "_law_codes" 603 (.ref 307), en P "_law_beside" 612 (.ref 314), en P "_law_map_right" 622 (.ref 321), en P "_law_fell" 629 (.ref 328), en P "law" 635 (.ref 333)] 43 }),
  (15, { cls := .type "tuple", data := .seq #[.type "Exception"] }),
  (22, { cls := .type "tuple", data := .seq #[] }),
  (24, { cls := .type "tuple", data := .seq #[.str "self" 204, .str "message" 205] }),
  (25, { cls := .type "tuple", data := .seq #[] }),
  (27, { cls := .type "code", data := .fields #[.str "__init__" 201, .str "MillError.__init__" 202, .str "/claim/cut.py" 203, .int 4 0, .int 2 0, .int 0 0, .int 0 0, .int 3 0, .ref 22, .bool true, .int 181 0, .ref 23, .none, .ref 24, .ref 25, .ref 26, .int 206 0, .int 4 0, .str "/claim/cut.py" 207] }),
  (28, f1 (nM 1 0) "MillError.__init__" "outlinemill.errors" 187 27),
  (29, { cls := .type "tuple", data := .seq #[.str "message" 209] }),
  (30, { cls := .type "dict", data := .dict #[en P "__module__" 196 (.str "outlinemill.errors" 187), en P "__firstlineno__" 200 (.int 2 199), en P "__init__" 208 (.ref 28), en P "__static_attributes__" 210 (.ref 29), en P "__weakref__" 212 (.ref 32), en P "__doc__" 213 (.none)] 3 }),
  (31, { cls := .type "type", data := .cls { name := "MillError", bases := [.type "Exception"], mro := [.ref 31, .type "Exception", .type "BaseException", .type "object"], ns := 30, qualname := "MillError", subclasses := [.ref 44] }, slots := #[some (.ref 15), none, some (.str "MillError" 189), some (.str "MillError" 197), some (.builtin "Exception.__new__"), some (.bool true)] }),
  (32, { cls := .type "getset_descriptor", data := .fields #[.str "__weakref__" 211, .ref 31, .builtin "ExceptionGroup.__weakref__", .none] }),
  (35, { cls := .type "tuple", data := .seq #[.ref 31] }),
  (42, { cls := .type "tuple", data := .seq #[] }),
  (43, { cls := .type "dict", data := .dict #[en P "__module__" 225 (.str "outlinemill.errors" 187), en P "__firstlineno__" 229 (.int 6 228), en P "__static_attributes__" 230 (.ref 42), en P "__doc__" 231 (.none)] 2 }),
  (44, { cls := .type "type", data := .cls { name := "FontFault", bases := [.ref 31], mro := [.ref 44, .ref 31, .type "Exception", .type "BaseException", .type "object"], ns := 43, qualname := "FontFault" }, slots := #[some (.ref 35), none, some (.str "FontFault" 218), some (.str "FontFault" 226), some (.builtin "Exception.__new__"), some (.bool true)] }),
  (47, { cls := .type "tuple", data := .seq #[] }),
  (49, { cls := .type "tuple", data := .seq #[.str "octets" 239, .str "at" 240] }),
  (50, { cls := .type "tuple", data := .seq #[] }),
  (52, { cls := .type "code", data := .fields #[.str "u16" 236, .str "u16" 237, .str "/claim/cut.py" 238, .int 9 0, .int 2 0, .int 0 0, .int 0 0, .int 3 0, .ref 47, .bool true, .int 181 0, .ref 48, .none, .ref 49, .ref 50, .ref 51, .int 241 0, .int 9 0, .str "/claim/cut.py" 242] }),
  (53, f1 (nS 4) "u16" "outlinemill.sfnt" 234 52),
  (54, { cls := .type "tuple", data := .seq #[] }),
  (56, { cls := .type "tuple", data := .seq #[.str "octets" 247, .str "at" 248] }),
  (57, { cls := .type "tuple", data := .seq #[] }),
  (59, { cls := .type "code", data := .fields #[.str "u32" 244, .str "u32" 245, .str "/claim/cut.py" 246, .int 13 0, .int 2 0, .int 0 0, .int 0 0, .int 3 0, .ref 54, .bool true, .int 181 0, .ref 55, .none, .ref 56, .ref 57, .ref 58, .int 249 0, .int 13 0, .str "/claim/cut.py" 250] }),
  (60, f1 (nS 5) "u32" "outlinemill.sfnt" 234 59),
  (61, { cls := .type "tuple", data := .seq #[] }),
  (63, { cls := .type "tuple", data := .seq #[.str "number" 255] }),
  (64, { cls := .type "tuple", data := .seq #[] }),
  (66, { cls := .type "code", data := .fields #[.str "put16" 252, .str "put16" 253, .str "/claim/cut.py" 254, .int 15 0, .int 1 0, .int 0 0, .int 0 0, .int 3 0, .ref 61, .bool true, .int 181 0, .ref 62, .none, .ref 63, .ref 64, .ref 65, .int 256 0, .int 15 0, .str "/claim/cut.py" 257] }),
  (67, f1 (nS 6) "put16" "outlinemill.sfnt" 234 66),
  (68, { cls := .type "tuple", data := .seq #[] }),
  (70, { cls := .type "tuple", data := .seq #[.str "number" 262] }),
  (71, { cls := .type "tuple", data := .seq #[] }),
  (73, { cls := .type "code", data := .fields #[.str "put32" 259, .str "put32" 260, .str "/claim/cut.py" 261, .int 17 0, .int 1 0, .int 0 0, .int 0 0, .int 3 0, .ref 68, .bool true, .int 181 0, .ref 69, .none, .ref 70, .ref 71, .ref 72, .int 263 0, .int 17 0, .str "/claim/cut.py" 264] }),
  (74, f1 (nS 7) "put32" "outlinemill.sfnt" 234 73),
  (75, { cls := .type "tuple", data := .seq #[] }),
  (77, { cls := .type "tuple", data := .seq #[.str "octets" 269, .str "at" 270, .str "size" 271] }),
  (78, { cls := .type "tuple", data := .seq #[] }),
  (80, { cls := .type "code", data := .fields #[.str "part_of" 266, .str "part_of" 267, .str "/claim/cut.py" 268, .int 19 0, .int 3 0, .int 0 0, .int 0 0, .int 3 0, .ref 75, .bool true, .int 181 0, .ref 76, .none, .ref 77, .ref 78, .ref 79, .int 272 0, .int 19 0, .str "/claim/cut.py" 273] }),
  (81, f1 (nS 8) "part_of" "outlinemill.sfnt" 234 80),
  (82, { cls := .type "tuple", data := .seq #[.int 3 279, .int 10 280] }),
  (83, { cls := .type "tuple", data := .seq #[.int 0 281, .int 4 282] }),
  (84, { cls := .type "tuple", data := .seq #[.int 0 283, .int 3 284] }),
  (85, { cls := .type "tuple", data := .seq #[.int 3 285, .int 1 286] }),
  (86, { cls := .type "tuple", data := .seq #[.int 0 287, .int 1 288] }),
  (87, { cls := .type "tuple", data := .seq #[.int 0 289, .int 0 290] }),
  (88, { cls := .type "tuple", data := .seq #[.int 3 291, .int 0 292] }),
  (89, { cls := .type "tuple", data := .seq #[.int 1 293, .int 0 294] }),
  (90, { cls := .type "tuple", data := .seq #[.ref 82, .ref 83, .ref 84, .ref 85, .ref 86, .ref 87, .ref 88, .ref 89] }),
  (98, { cls := .type "tuple", data := .seq #[] }),
  (100, { cls := .type "tuple", data := .seq #[.str "self" 311, .str "octets" 312] }),
  (101, { cls := .type "tuple", data := .seq #[] }),
  (103, { cls := .type "code", data := .fields #[.str "__init__" 308, .str "ByteMap.__init__" 309, .str "/claim/cut.py" 310, .int 28 0, .int 2 0, .int 0 0, .int 0 0, .int 3 0, .ref 98, .bool true, .int 181 0, .ref 99, .none, .ref 100, .ref 101, .ref 102, .int 313 0, .int 28 0, .str "/claim/cut.py" 314] }),
  (104, f1 (nM 12 0) "ByteMap.__init__" "outlinemill.cmap" 275 103),
  (105, { cls := .type "tuple", data := .seq #[] }),
  (107, { cls := .type "tuple", data := .seq #[.str "self" 319, .str "code" 320] }),
  (108, { cls := .type "tuple", data := .seq #[] }),
  (110, { cls := .type "code", data := .fields #[.str "find" 316, .str "ByteMap.find" 317, .str "/claim/cut.py" 318, .int 31 0, .int 2 0, .int 0 0, .int 0 0, .int 3 0, .ref 105, .bool true, .int 181 0, .ref 106, .none, .ref 107, .ref 108, .ref 109, .int 321 0, .int 31 0, .str "/claim/cut.py" 322] }),
  (111, f1 (nM 12 1) "ByteMap.find" "outlinemill.cmap" 275 110),
  (112, { cls := .type "tuple", data := .seq #[.str "glyphs" 324] }),
  (113, { cls := .type "dict", data := .dict #[en P "__module__" 303 (.str "outlinemill.cmap" 275), en P "__firstlineno__" 307 (.int 26 306), en P "__init__" 315 (.ref 104), en P "find" 323 (.ref 111), en P "__static_attributes__" 325 (.ref 112), en P "__dict__" 327 (.ref 115), en P "__weakref__" 329 (.ref 116), en P "__doc__" 330 (.none)] 4 }),
  (114, { cls := .type "type", data := .cls { name := "ByteMap", bases := [.type "object"], mro := [.ref 114, .type "object"], ns := 113, qualname := "ByteMap" }, slots := #[none, none, some (.str "ByteMap" 296), some (.str "ByteMap" 304), some (.builtin "object.__new__"), some (.bool true)] }),
  (115, { cls := .type "getset_descriptor", data := .fields #[.str "__dict__" 326, .ref 114, .builtin "function.__dict__", .builtin "function.__dict__#set"] }),
  (116, { cls := .type "getset_descriptor", data := .fields #[.str "__weakref__" 328, .ref 114, .builtin "ExceptionGroup.__weakref__", .none] }),
  (126, { cls := .type "tuple", data := .seq #[] }),
  (129, { cls := .type "code", data := .fields #[.str "__init__" 345, .str "TrimmedMap.__init__" 346, .str "/claim/cut.py" 347, .int 35 0, .int 2 0, .int 0 0, .int 0 0, .int 3 0, .ref 126, .bool true, .int 181 0, .ref 127, .none, .none, .none, .ref 128, .int 348 0, .int 35 0, .str "/claim/cut.py" 349] }),
  (130, f1 (nM 13 0) "TrimmedMap.__init__" "outlinemill.cmap" 275 129),
  (131, { cls := .type "tuple", data := .seq #[] }),
  (133, { cls := .type "tuple", data := .seq #[.str "self" 354, .str "code" 355, .str "at" 356] }),
  (134, { cls := .type "tuple", data := .seq #[] }),
  (136, { cls := .type "code", data := .fields #[.str "find" 351, .str "TrimmedMap.find" 352, .str "/claim/cut.py" 353, .int 39 0, .int 2 0, .int 0 0, .int 0 0, .int 3 0, .ref 131, .bool true, .int 181 0, .ref 132, .none, .ref 133, .ref 134, .ref 135, .int 357 0, .int 39 0, .str "/claim/cut.py" 358] }),
  (137, f1 (nM 13 1) "TrimmedMap.find" "outlinemill.cmap" 275 136),
  (138, { cls := .type "tuple", data := .seq #[.str "first" 360, .str "glyphs" 361] }),
  (139, { cls := .type "dict", data := .dict #[en P "__module__" 340 (.str "outlinemill.cmap" 275), en P "__firstlineno__" 344 (.int 33 343), en P "__init__" 350 (.ref 130), en P "find" 359 (.ref 137), en P "__static_attributes__" 362 (.ref 138), en P "__dict__" 364 (.ref 141), en P "__weakref__" 366 (.ref 142), en P "__doc__" 367 (.none)] 4 }),
  (140, { cls := .type "type", data := .cls { name := "TrimmedMap", bases := [.type "object"], mro := [.ref 140, .type "object"], ns := 139, qualname := "TrimmedMap" }, slots := #[none, none, some (.str "TrimmedMap" 333), some (.str "TrimmedMap" 341), some (.builtin "object.__new__"), some (.bool true)] }),
  (141, { cls := .type "getset_descriptor", data := .fields #[.str "__dict__" 363, .ref 140, .builtin "function.__dict__", .builtin "function.__dict__#set"] }),
  (142, { cls := .type "getset_descriptor", data := .fields #[.str "__weakref__" 365, .ref 140, .builtin "ExceptionGroup.__weakref__", .none] }),
  (145, { cls := .type "tuple", data := .seq #[] }),
  (147, { cls := .type "tuple", data := .seq #[.str "ends" 373, .str "code" 374, .str "low" 375, .str "high" 376, .str "half" 377] }),
  (148, { cls := .type "tuple", data := .seq #[] }),
  (150, { cls := .type "code", data := .fields #[.str "first_from" 370, .str "first_from" 371, .str "/claim/cut.py" 372, .int 42 0, .int 2 0, .int 0 0, .int 0 0, .int 3 0, .ref 145, .bool true, .int 181 0, .ref 146, .none, .ref 147, .ref 148, .ref 149, .int 378 0, .int 42 0, .str "/claim/cut.py" 379] }),
  (151, f1 (nS 14) "first_from" "outlinemill.cmap" 275 150),
  (159, { cls := .type "tuple", data := .seq #[] }),
  (162, { cls := .type "code", data := .fields #[.str "__init__" 393, .str "SegmentMap.__init__" 394, .str "/claim/cut.py" 395, .int 54 0, .int 2 0, .int 0 0, .int 0 0, .int 3 0, .ref 159, .bool true, .int 181 0, .ref 160, .none, .none, .none, .ref 161, .int 396 0, .int 54 0, .str "/claim/cut.py" 397] }),
  (163, f1 (nM 15 0) "SegmentMap.__init__" "outlinemill.cmap" 275 162),
  (164, { cls := .type "tuple", data := .seq #[] }),
  (166, { cls := .type "tuple", data := .seq #[.str "self" 402, .str "code" 403, .str "at" 404, .str "glyph" 405] }),
  (167, { cls := .type "tuple", data := .seq #[] }),
  (169, { cls := .type "code", data := .fields #[.str "find" 399, .str "SegmentMap.find" 400, .str "/claim/cut.py" 401, .int 67 0, .int 2 0, .int 0 0, .int 0 0, .int 3 0, .ref 164, .bool true, .int 181 0, .ref 165, .none, .ref 166, .ref 167, .ref 168, .int 406 0, .int 67 0, .str "/claim/cut.py" 407] }),
  (170, f1 (nM 15 1) "SegmentMap.find" "outlinemill.cmap" 275 169),
  (171, { cls := .type "tuple", data := .seq #[.str "begin" 409, .str "deltas" 410, .str "ends" 411, .str "octets" 412, .str "offsets" 413, .str "starts" 414] }),
  (172, { cls := .type "dict", data := .dict #[en P "__module__" 388 (.str "outlinemill.cmap" 275), en P "__firstlineno__" 392 (.int 52 391), en P "__init__" 398 (.ref 163), en P "find" 408 (.ref 170), en P "__static_attributes__" 415 (.ref 171), en P "__dict__" 417 (.ref 174), en P "__weakref__" 419 (.ref 175), en P "__doc__" 420 (.none)] 4 }),
  (173, { cls := .type "type", data := .cls { name := "SegmentMap", bases := [.type "object"], mro := [.ref 173, .type "object"], ns := 172, qualname := "SegmentMap" }, slots := #[none, none, some (.str "SegmentMap" 381), some (.str "SegmentMap" 389), some (.builtin "object.__new__"), some (.bool true)] }),
  (174, { cls := .type "getset_descriptor", data := .fields #[.str "__dict__" 416, .ref 173, .builtin "function.__dict__", .builtin "function.__dict__#set"] }),
  (175, { cls := .type "getset_descriptor", data := .fields #[.str "__weakref__" 418, .ref 173, .builtin "ExceptionGroup.__weakref__", .none] }),
  (185, { cls := .type "tuple", data := .seq #[] }),
  (188, { cls := .type "code", data := .fields #[.str "__init__" 435, .str "GroupMap.__init__" 436, .str "/claim/cut.py" 437, .int 77 0, .int 2 0, .int 0 0, .int 0 0, .int 3 0, .ref 185, .bool true, .int 181 0, .ref 186, .none, .none, .none, .ref 187, .int 438 0, .int 77 0, .str "/claim/cut.py" 439] }),
  (189, f1 (nM 16 0) "GroupMap.__init__" "outlinemill.cmap" 275 188),
  (190, { cls := .type "tuple", data := .seq #[] }),
  (192, { cls := .type "tuple", data := .seq #[.str "self" 444, .str "code" 445, .str "at" 446] }),
  (193, { cls := .type "tuple", data := .seq #[] }),
  (195, { cls := .type "code", data := .fields #[.str "find" 441, .str "GroupMap.find" 442, .str "/claim/cut.py" 443, .int 88 0, .int 2 0, .int 0 0, .int 0 0, .int 3 0, .ref 190, .bool true, .int 181 0, .ref 191, .none, .ref 192, .ref 193, .ref 194, .int 447 0, .int 88 0, .str "/claim/cut.py" 448] }),
  (196, f1 (nM 16 1) "GroupMap.find" "outlinemill.cmap" 275 195),
  (197, { cls := .type "tuple", data := .seq #[.str "ends" 450, .str "glyphs" 451, .str "starts" 452] }),
  (198, { cls := .type "dict", data := .dict #[en P "__module__" 430 (.str "outlinemill.cmap" 275), en P "__firstlineno__" 434 (.int 75 433), en P "__init__" 440 (.ref 189), en P "find" 449 (.ref 196), en P "__static_attributes__" 453 (.ref 197), en P "__dict__" 455 (.ref 200), en P "__weakref__" 457 (.ref 201), en P "__doc__" 458 (.none)] 4 }),
  (199, { cls := .type "type", data := .cls { name := "GroupMap", bases := [.type "object"], mro := [.ref 199, .type "object"], ns := 198, qualname := "GroupMap" }, slots := #[none, none, some (.str "GroupMap" 423), some (.str "GroupMap" 431), some (.builtin "object.__new__"), some (.bool true)] }),
  (200, { cls := .type "getset_descriptor", data := .fields #[.str "__dict__" 454, .ref 199, .builtin "function.__dict__", .builtin "function.__dict__#set"] }),
  (201, { cls := .type "getset_descriptor", data := .fields #[.str "__weakref__" 456, .ref 199, .builtin "ExceptionGroup.__weakref__", .none] }),
  (204, { cls := .type "tuple", data := .seq #[] }),
  (206, { cls := .type "tuple", data := .seq #[.str "octets" 464, .str "form" 465] }),
  (207, { cls := .type "tuple", data := .seq #[] }),
  (209, { cls := .type "code", data := .fields #[.str "read_map" 461, .str "read_map" 462, .str "/claim/cut.py" 463, .int 93 0, .int 1 0, .int 0 0, .int 0 0, .int 3 0, .ref 204, .bool true, .int 181 0, .ref 205, .none, .ref 206, .ref 207, .ref 208, .int 466 0, .int 93 0, .str "/claim/cut.py" 467] }),
  (210, f1 (nS 17) "read_map" "outlinemill.cmap" 275 209),
  (211, { cls := .type "tuple", data := .seq #[] }),
  (214, { cls := .type "code", data := .fields #[.str "read_rows" 469, .str "read_rows" 470, .str "/claim/cut.py" 471, .int 104 0, .int 1 0, .int 0 0, .int 0 0, .int 3 0, .ref 211, .bool true, .int 181 0, .ref 212, .none, .none, .none, .ref 213, .int 472 0, .int 104 0, .str "/claim/cut.py" 473] }),
  (215, f1 (nS 18) "read_rows" "outlinemill.cmap" 275 214),
  (216, { cls := .type "tuple", data := .seq #[] }),
  (218, { cls := .type "tuple", data := .seq #[.str "octets" 478, .str "rows" 479, .str "best" 480, .str "platform" 481, .str "encoding" 482, .str "place" 483] }),
  (219, { cls := .type "tuple", data := .seq #[] }),
  (221, { cls := .type "code", data := .fields #[.str "read_cmap" 475, .str "read_cmap" 476, .str "/claim/cut.py" 477, .int 106 0, .int 1 0, .int 0 0, .int 0 0, .int 3 0, .ref 216, .bool true, .int 181 0, .ref 217, .none, .ref 218, .ref 219, .ref 220, .int 484 0, .int 106 0, .str "/claim/cut.py" 485] }),
  (222, f1 (nS 19) "read_cmap" "outlinemill.cmap" 275 221),
  (223, { cls := .type "tuple", data := .seq #[] }),
  (226, { cls := .type "code", data := .fields #[.str "write_format_0" 487, .str "write_format_0" 488, .str "/claim/cut.py" 489, .int 115 0, .int 1 0, .int 0 0, .int 0 0, .int 3 0, .ref 223, .bool true, .int 181 0, .ref 224, .none, .none, .none, .ref 225, .int 490 0, .int 115 0, .str "/claim/cut.py" 491] }),
  (227, f1 (nS 20) "write_format_0" "outlinemill.cmap" 275 226),
  (228, { cls := .type "tuple", data := .seq #[] }),
  (230, { cls := .type "tuple", data := .seq #[.str "codes" 496, .str "known" 497, .str "first" 498, .str "last" 499, .str "found" 500, .str "code" 501] }),
  (231, { cls := .type "tuple", data := .seq #[] }),
  (233, { cls := .type "code", data := .fields #[.str "write_format_6" 493, .str "write_format_6" 494, .str "/claim/cut.py" 495, .int 118 0, .int 1 0, .int 0 0, .int 0 0, .int 3 0, .ref 228, .bool true, .int 181 0, .ref 229, .none, .ref 230, .ref 231, .ref 232, .int 502 0, .int 118 0, .str "/claim/cut.py" 503] }),
  (234, f1 (nS 21) "write_format_6" "outlinemill.cmap" 275 233),
  (235, { cls := .type "tuple", data := .seq #[] }),
  (237, { cls := .type "tuple", data := .seq #[.str "codes" 508, .str "found" 509, .str "code" 510] }),
  (238, { cls := .type "tuple", data := .seq #[] }),
  (240, { cls := .type "code", data := .fields #[.str "runs_of" 505, .str "runs_of" 506, .str "/claim/cut.py" 507, .int 126 0, .int 1 0, .int 0 0, .int 0 0, .int 3 0, .ref 235, .bool true, .int 181 0, .ref 236, .none, .ref 237, .ref 238, .ref 239, .int 511 0, .int 126 0, .str "/claim/cut.py" 512] }),
  (241, f1 (nS 22) "runs_of" "outlinemill.cmap" 275 240),
  (242, { cls := .type "tuple", data := .seq #[] }),
  (244, { cls := .type "tuple", data := .seq #[.str "codes" 517, .str "first" 518, .str "last" 519, .str "code" 520] }),
  (245, { cls := .type "tuple", data := .seq #[] }),
  (247, { cls := .type "code", data := .fields #[.str "is_even_run" 514, .str "is_even_run" 515, .str "/claim/cut.py" 516, .int 134 0, .int 3 0, .int 0 0, .int 0 0, .int 3 0, .ref 242, .bool true, .int 181 0, .ref 243, .none, .ref 244, .ref 245, .ref 246, .int 521 0, .int 134 0, .str "/claim/cut.py" 522] }),
  (248, f1 (nS 23) "is_even_run" "outlinemill.cmap" 275 247),
  (249, { cls := .type "tuple", data := .seq #[] }),
  (252, { cls := .type "code", data := .fields #[.str "write_format_4" 524, .str "write_format_4" 525, .str "/claim/cut.py" 526, .int 139 0, .int 1 0, .int 0 0, .int 0 0, .int 3 0, .ref 249, .bool true, .int 181 0, .ref 250, .none, .none, .none, .ref 251, .int 527 0, .int 139 0, .str "/claim/cut.py" 528] }),
  (253, f1 (nS 24) "write_format_4" "outlinemill.cmap" 275 252),
  (254, { cls := .type "tuple", data := .seq #[] }),
  (256, { cls := .type "tuple", data := .seq #[.str "power" 533, .str "found" 534] }),
  (257, { cls := .type "tuple", data := .seq #[] }),
  (259, { cls := .type "code", data := .fields #[.str "exponent_of" 530, .str "exponent_of" 531, .str "/claim/cut.py" 532, .int 161 0, .int 1 0, .int 0 0, .int 0 0, .int 3 0, .ref 254, .bool true, .int 181 0, .ref 255, .none, .ref 256, .ref 257, .ref 258, .int 535 0, .int 161 0, .str "/claim/cut.py" 536] }),
  (260, f1 (nS 25) "exponent_of" "outlinemill.cmap" 275 259),
  (261, { cls := .type "tuple", data := .seq #[] }),
  (264, { cls := .type "code", data := .fields #[.str "write_format_12" 538, .str "write_format_12" 539, .str "/claim/cut.py" 540, .int 167 0, .int 1 0, .int 0 0, .int 0 0, .int 3 0, .ref 261, .bool true, .int 181 0, .ref 262, .none, .none, .none, .ref 263, .int 541 0, .int 167 0, .str "/claim/cut.py" 542] }),
  (265, f1 (nS 26) "write_format_12" "outlinemill.cmap" 275 264),
  (266, { cls := .type "tuple", data := .seq #[] }),
  (268, { cls := .type "tuple", data := .seq #[.str "form" 547, .str "codes" 548] }),
  (269, { cls := .type "tuple", data := .seq #[] }),
  (271, { cls := .type "code", data := .fields #[.str "write_map" 544, .str "write_map" 545, .str "/claim/cut.py" 546, .int 176 0, .int 2 0, .int 0 0, .int 0 0, .int 3 0, .ref 266, .bool true, .int 181 0, .ref 267, .none, .ref 268, .ref 269, .ref 270, .int 549 0, .int 176 0, .str "/claim/cut.py" 550] }),
  (272, f1 (nS 27) "write_map" "outlinemill.cmap" 275 271),
  (273, { cls := .type "tuple", data := .seq #[] }),
  (275, { cls := .type "tuple", data := .seq #[.str "rows" 555, .str "found" 556, .str "place" 557, .str "maps" 558, .str "platform" 559, .str "encoding" 560, .str "octets" 561] }),
  (276, { cls := .type "tuple", data := .seq #[] }),
  (278, { cls := .type "code", data := .fields #[.str "write_cmap" 552, .str "write_cmap" 553, .str "/claim/cut.py" 554, .int 186 0, .int 1 0, .int 0 0, .int 0 0, .int 3 0, .ref 273, .bool true, .int 181 0, .ref 274, .none, .ref 275, .ref 276, .ref 277, .int 562 0, .int 186 0, .str "/claim/cut.py" 563] }),
  (279, f1 (nS 28) "write_cmap" "outlinemill.cmap" 275 278),
  (280, { cls := .type "tuple", data := .seq #[] }),
  (282, { cls := .type "tuple", data := .seq #[.str "script" 570, .str "k" 571, .str "cell" 572, .str "big" 573] }),
  (283, { cls := .type "tuple", data := .seq #[] }),
  (285, { cls := .type "code", data := .fields #[.str "_law_pool" 567, .str "_law_pool" 568, .str "/claim/cut.py" 569, .int 195 0, .int 2 0, .int 0 0, .int 0 0, .int 3 0, .ref 280, .bool true, .int 181 0, .ref 281, .none, .ref 282, .ref 283, .ref 284, .int 574 0, .int 195 0, .str "/claim/cut.py" 575] }),
  (286, f1 (nS 30) "_law_pool" "law_nu0024_01" 565 285),
  (287, { cls := .type "tuple", data := .seq #[] }),
  (289, { cls := .type "tuple", data := .seq #[.str "source" 580, .str "top" 581, .str "drawn" 582] }),
  (290, { cls := .type "tuple", data := .seq #[] }),
  (292, { cls := .type "code", data := .fields #[.str "_law_take" 577, .str "_law_take" 578, .str "/claim/cut.py" 579, .int 199 0, .int 2 0, .int 0 0, .int 0 0, .int 3 0, .ref 287, .bool true, .int 181 0, .ref 288, .none, .ref 289, .ref 290, .ref 291, .int 583 0, .int 199 0, .str "/claim/cut.py" 584] }),
  (293, f1 (nS 31) "_law_take" "law_nu0024_01" 565 292),
  (294, { cls := .type "tuple", data := .seq #[] }),
  (296, { cls := .type "tuple", data := .seq #[.str "source" 589, .str "things" 590] }),
  (297, { cls := .type "tuple", data := .seq #[] }),
  (299, { cls := .type "code", data := .fields #[.str "_law_one" 586, .str "_law_one" 587, .str "/claim/cut.py" 588, .int 206 0, .int 2 0, .int 0 0, .int 0 0, .int 3 0, .ref 294, .bool true, .int 181 0, .ref 295, .none, .ref 296, .ref 297, .ref 298, .int 591 0, .int 206 0, .str "/claim/cut.py" 592] }),
  (300, f1 (nS 32) "_law_one" "law_nu0024_01" 565 299),
  (301, { cls := .type "tuple", data := .seq #[] }),
  (303, { cls := .type "tuple", data := .seq #[.str "source" 597, .str "found" 598, .str "code" 599, .str "turn" 600] }),
  (304, { cls := .type "tuple", data := .seq #[] }),
  (306, { cls := .type "code", data := .fields #[.str "_law_codes" 594, .str "_law_codes" 595, .str "/claim/cut.py" 596, .int 208 0, .int 1 0, .int 0 0, .int 0 0, .int 3 0, .ref 301, .bool true, .int 181 0, .ref 302, .none, .ref 303, .ref 304, .ref 305, .int 601 0, .int 208 0, .str "/claim/cut.py" 602] }),
  (307, f1 (nS 33) "_law_codes" "law_nu0024_01" 565 306),
  (308, { cls := .type "tuple", data := .seq #[] }),
  (310, { cls := .type "tuple", data := .seq #[.str "codes" 607, .str "found" 608, .str "code" 609] }),
  (311, { cls := .type "tuple", data := .seq #[] }),
  (313, { cls := .type "code", data := .fields #[.str "_law_beside" 604, .str "_law_beside" 605, .str "/claim/cut.py" 606, .int 215 0, .int 1 0, .int 0 0, .int 0 0, .int 3 0, .ref 308, .bool true, .int 181 0, .ref 309, .none, .ref 310, .ref 311, .ref 312, .int 610 0, .int 215 0, .str "/claim/cut.py" 611] }),
  (314, f1 (nS 34) "_law_beside" "law_nu0024_01" 565 313),
  (315, { cls := .type "tuple", data := .seq #[] }),
  (317, { cls := .type "tuple", data := .seq #[.str "told" 616, .str "codes" 617, .str "most" 618, .str "code" 619] }),
  (318, { cls := .type "tuple", data := .seq #[] }),
  (320, { cls := .type "code", data := .fields #[.str "_law_map_right" 613, .str "_law_map_right" 614, .str "/claim/cut.py" 615, .int 220 0, .int 3 0, .int 0 0, .int 0 0, .int 3 0, .ref 315, .bool true, .int 181 0, .ref 316, .none, .ref 317, .ref 318, .ref 319, .int 620 0, .int 220 0, .str "/claim/cut.py" 621] }),
  (321, f1 (nS 35) "_law_map_right" "law_nu0024_01" 565 320),
  (322, { cls := .type "tuple", data := .seq #[] }),
  (324, { cls := .type "tuple", data := .seq #[.str "octets" 626] }),
  (325, { cls := .type "tuple", data := .seq #[] }),
  (327, { cls := .type "code", data := .fields #[.str "_law_fell" 623, .str "_law_fell" 624, .str "/claim/cut.py" 625, .int 225 0, .int 1 0, .int 0 0, .int 0 0, .int 3 0, .ref 322, .bool true, .int 181 0, .ref 323, .none, .ref 324, .ref 325, .ref 326, .int 627 0, .int 225 0, .str "/claim/cut.py" 628] }),
  (328, f1 (nS 36) "_law_fell" "law_nu0024_01" 565 327),
  (329, { cls := .type "tuple", data := .seq #[] }),
  (332, { cls := .type "code", data := .fields #[.str "law" 630, .str "law" 631, .str "/claim/cut.py" 632, .int 231 0, .int 1 0, .int 0 0, .int 0 0, .int 3 0, .ref 329, .bool true, .int 181 0, .ref 330, .none, .none, .none, .ref 331, .int 633 0, .int 231 0, .str "/claim/cut.py" 634] }),
  (333, f1 (nS 37) "law" "law_nu0024_01" 565 332)]
theorem asK_eq : ∀ P, asK = (kP P).map (·.1) := fun _ => by kernel_rfl
noncomputable abbrev HK : Hook := kHook kP asK asK_eq
theorem open_ok : ∀ w : World, (fencedOpening treeTable pr w 4784).map (fun s => (s.heap, s.gens, s.drawn, s.toks)) = some (boot_heap w.params, #[], boot_drawn, boot_toks) := fun w => by kernel_rfl
theorem size_ok : ∀ w : World, ((boot_heap w.params).isNs mainGlobals && (#[] : Array GenState).size == 0, (boot_heap w.params).objs.size, (boot_heap w.params).nsMap mainGlobals "__annotations__") = (true, 11, some (.ref 6)) := fun w => by kernel_rfl
theorem look1 : ∀ w : World, (fun os => (staticsOk (importedModules pr.main.body) (boot_heap w.params) (hE w.params) && namesBound pr (hE w.params) && gensDone { heap := hE w.params, toks := 636, os := os } && laidKept (boot_heap w.params) (hE w.params))) = fun _ => true := fun w => by kernel_rfl
end Mine
theorem Mine.left : LeftO Mine.pr Mine.view [] (fun s => xlAt Mine.view [] s && recOk PySem.Challenge.rw_nu0024_01.row.records s) Mine.HK.obs Mine.HK.val 4784 := LeftO.of_pieces Mine.open_ok Mine.size_ok Mine.top_run rfl fun w => by kernel_rfl
namespace Mine
local macro_rules | `(tactic| omega) => `(tactic| lia)
theorem nofree_of {l : List (Str × NameKind)} (h : l.all (fun p => p.2 != .free) = true) : ∀ p ∈ l, p.2 ≠ .free := fun p hp => by
  have := List.all_eq_true.mp h p hp; simpa using this
theorem vals1 {P : List Value → Prop} {k : Nat} (e : k = 1) (h : ∀ x, P [x]) : ∀ vals : List Value, vals.length = k → P vals
  | [x], _ => h x
  | [], q => by subst e; cases q
  | _ :: _ :: _, q => by subst e; cases q
theorem vals2 {P : List Value → Prop} {k : Nat} (e : k = 2) (h : ∀ x y, P [x, y]) : ∀ vals : List Value, vals.length = k → P vals
  | [x, y], _ => h x y
  | [], q | [_], q | _ :: _ :: _ :: _, q => by subst e; cases q
theorem vals3 {P : List Value → Prop} {k : Nat} (e : k = 3) (h : ∀ x y z, P [x, y, z]) : ∀ vals : List Value, vals.length = k → P vals
  | [x, y, z], _ => h x y z
  | [], q | [_], q | [_, _], q | _ :: _ :: _ :: _ :: _, q => by subst e; cases q
section
variable {C : Cx} {P : Params}
theorem fnis_u16 (hK : C.K = kP P) : FnIs C 53 (defOf (Str.ofString "u16")) := by
  refine ⟨⟨_, _, by rw [hK]; rfl, rfl, rfl, rfl, rfl, rfl, rfl, rfl, rfl, rfl, rfl, vals2 (by rfl) (by intros; kernel_rfl), by rw [hK]; kernel_rfl⟩, by rw [hK]; kernel_rfl, by rw [hK]; kernel_rfl, by decide +kernel, by decide +kernel, by decide +kernel, by decide +kernel, nofree_of (by decide +kernel)⟩
theorem fnis_u32 (hK : C.K = kP P) : FnIs C 60 (defOf (Str.ofString "u32")) := by
  refine ⟨⟨_, _, by rw [hK]; rfl, rfl, rfl, rfl, rfl, rfl, rfl, rfl, rfl, rfl, rfl, vals2 (by rfl) (by intros; kernel_rfl), by rw [hK]; kernel_rfl⟩, by rw [hK]; kernel_rfl, by rw [hK]; kernel_rfl, by decide +kernel, by decide +kernel, by decide +kernel, by decide +kernel, nofree_of (by decide +kernel)⟩
theorem fnis_put16 (hK : C.K = kP P) : FnIs C 67 (defOf (Str.ofString "put16")) := by
  refine ⟨⟨_, _, by rw [hK]; rfl, rfl, rfl, rfl, rfl, rfl, rfl, rfl, rfl, rfl, rfl, vals1 (by rfl) (by intros; kernel_rfl), by rw [hK]; kernel_rfl⟩, by rw [hK]; kernel_rfl, by rw [hK]; kernel_rfl, by decide +kernel, by decide +kernel, by decide +kernel, by decide +kernel, nofree_of (by decide +kernel)⟩
theorem fnis_put32 (hK : C.K = kP P) : FnIs C 74 (defOf (Str.ofString "put32")) := by
  refine ⟨⟨_, _, by rw [hK]; rfl, rfl, rfl, rfl, rfl, rfl, rfl, rfl, rfl, rfl, rfl, vals1 (by rfl) (by intros; kernel_rfl), by rw [hK]; kernel_rfl⟩, by rw [hK]; kernel_rfl, by rw [hK]; kernel_rfl, by decide +kernel, by decide +kernel, by decide +kernel, by decide +kernel, nofree_of (by decide +kernel)⟩
theorem fnis_part_of (hK : C.K = kP P) : FnIs C 81 (defOf (Str.ofString "part_of")) := by
  refine ⟨⟨_, _, by rw [hK]; rfl, rfl, rfl, rfl, rfl, rfl, rfl, rfl, rfl, rfl, rfl, vals3 (by rfl) (by intros; kernel_rfl), by rw [hK]; kernel_rfl⟩, by rw [hK]; kernel_rfl, by rw [hK]; kernel_rfl, by decide +kernel, by decide +kernel, by decide +kernel, by decide +kernel, nofree_of (by decide +kernel)⟩
theorem fnis_first_from (hK : C.K = kP P) : FnIs C 151 (defOf (Str.ofString "first_from")) := by
  refine ⟨⟨_, _, by rw [hK]; rfl, rfl, rfl, rfl, rfl, rfl, rfl, rfl, rfl, rfl, rfl, vals2 (by rfl) (by intros; kernel_rfl), by rw [hK]; kernel_rfl⟩, by rw [hK]; kernel_rfl, by rw [hK]; kernel_rfl, by decide +kernel, by decide +kernel, by decide +kernel, by decide +kernel, nofree_of (by decide +kernel)⟩
theorem fnis_read_map (hK : C.K = kP P) : FnIs C 210 (defOf (Str.ofString "read_map")) := by
  refine ⟨⟨_, _, by rw [hK]; rfl, rfl, rfl, rfl, rfl, rfl, rfl, rfl, rfl, rfl, rfl, vals1 (by rfl) (by intros; kernel_rfl), by rw [hK]; kernel_rfl⟩, by rw [hK]; kernel_rfl, by rw [hK]; kernel_rfl, by decide +kernel, by decide +kernel, by decide +kernel, by decide +kernel, nofree_of (by decide +kernel)⟩
theorem fnis_read_rows (hK : C.K = kP P) : FnIs C 215 (defOf (Str.ofString "read_rows")) := by
  refine ⟨⟨_, _, by rw [hK]; rfl, rfl, rfl, rfl, rfl, rfl, rfl, rfl, rfl, rfl, rfl, vals1 (by rfl) (by intros; kernel_rfl), by rw [hK]; kernel_rfl⟩, by rw [hK]; kernel_rfl, by rw [hK]; kernel_rfl, by decide +kernel, by decide +kernel, by decide +kernel, by decide +kernel, nofree_of (by decide +kernel)⟩
theorem fnis_read_cmap (hK : C.K = kP P) : FnIs C 222 (defOf (Str.ofString "read_cmap")) := by
  refine ⟨⟨_, _, by rw [hK]; rfl, rfl, rfl, rfl, rfl, rfl, rfl, rfl, rfl, rfl, rfl, vals1 (by rfl) (by intros; kernel_rfl), by rw [hK]; kernel_rfl⟩, by rw [hK]; kernel_rfl, by rw [hK]; kernel_rfl, by decide +kernel, by decide +kernel, by decide +kernel, by decide +kernel, nofree_of (by decide +kernel)⟩
theorem fnis_write_format_0 (hK : C.K = kP P) : FnIs C 227 (defOf (Str.ofString "write_format_0")) := by
  refine ⟨⟨_, _, by rw [hK]; rfl, rfl, rfl, rfl, rfl, rfl, rfl, rfl, rfl, rfl, rfl, vals1 (by rfl) (by intros; kernel_rfl), by rw [hK]; kernel_rfl⟩, by rw [hK]; kernel_rfl, by rw [hK]; kernel_rfl, by decide +kernel, by decide +kernel, by decide +kernel, by decide +kernel, nofree_of (by decide +kernel)⟩
theorem fnis_write_format_6 (hK : C.K = kP P) : FnIs C 234 (defOf (Str.ofString "write_format_6")) := by
  refine ⟨⟨_, _, by rw [hK]; rfl, rfl, rfl, rfl, rfl, rfl, rfl, rfl, rfl, rfl, rfl, vals1 (by rfl) (by intros; kernel_rfl), by rw [hK]; kernel_rfl⟩, by rw [hK]; kernel_rfl, by rw [hK]; kernel_rfl, by decide +kernel, by decide +kernel, by decide +kernel, by decide +kernel, nofree_of (by decide +kernel)⟩
theorem fnis_runs_of (hK : C.K = kP P) : FnIs C 241 (defOf (Str.ofString "runs_of")) := by
  refine ⟨⟨_, _, by rw [hK]; rfl, rfl, rfl, rfl, rfl, rfl, rfl, rfl, rfl, rfl, rfl, vals1 (by rfl) (by intros; kernel_rfl), by rw [hK]; kernel_rfl⟩, by rw [hK]; kernel_rfl, by rw [hK]; kernel_rfl, by decide +kernel, by decide +kernel, by decide +kernel, by decide +kernel, nofree_of (by decide +kernel)⟩
theorem fnis_is_even_run (hK : C.K = kP P) : FnIs C 248 (defOf (Str.ofString "is_even_run")) := by
  refine ⟨⟨_, _, by rw [hK]; rfl, rfl, rfl, rfl, rfl, rfl, rfl, rfl, rfl, rfl, rfl, vals3 (by rfl) (by intros; kernel_rfl), by rw [hK]; kernel_rfl⟩, by rw [hK]; kernel_rfl, by rw [hK]; kernel_rfl, by decide +kernel, by decide +kernel, by decide +kernel, by decide +kernel, nofree_of (by decide +kernel)⟩
theorem fnis_write_format_4 (hK : C.K = kP P) : FnIs C 253 (defOf (Str.ofString "write_format_4")) := by
  refine ⟨⟨_, _, by rw [hK]; rfl, rfl, rfl, rfl, rfl, rfl, rfl, rfl, rfl, rfl, rfl, vals1 (by rfl) (by intros; kernel_rfl), by rw [hK]; kernel_rfl⟩, by rw [hK]; kernel_rfl, by rw [hK]; kernel_rfl, by decide +kernel, by decide +kernel, by decide +kernel, by decide +kernel, nofree_of (by decide +kernel)⟩
theorem fnis_exponent_of (hK : C.K = kP P) : FnIs C 260 (defOf (Str.ofString "exponent_of")) := by
  refine ⟨⟨_, _, by rw [hK]; rfl, rfl, rfl, rfl, rfl, rfl, rfl, rfl, rfl, rfl, rfl, vals1 (by rfl) (by intros; kernel_rfl), by rw [hK]; kernel_rfl⟩, by rw [hK]; kernel_rfl, by rw [hK]; kernel_rfl, by decide +kernel, by decide +kernel, by decide +kernel, by decide +kernel, nofree_of (by decide +kernel)⟩
theorem fnis_write_format_12 (hK : C.K = kP P) : FnIs C 265 (defOf (Str.ofString "write_format_12")) := by
  refine ⟨⟨_, _, by rw [hK]; rfl, rfl, rfl, rfl, rfl, rfl, rfl, rfl, rfl, rfl, rfl, vals1 (by rfl) (by intros; kernel_rfl), by rw [hK]; kernel_rfl⟩, by rw [hK]; kernel_rfl, by rw [hK]; kernel_rfl, by decide +kernel, by decide +kernel, by decide +kernel, by decide +kernel, nofree_of (by decide +kernel)⟩
theorem fnis_write_map (hK : C.K = kP P) : FnIs C 272 (defOf (Str.ofString "write_map")) := by
  refine ⟨⟨_, _, by rw [hK]; rfl, rfl, rfl, rfl, rfl, rfl, rfl, rfl, rfl, rfl, rfl, vals2 (by rfl) (by intros; kernel_rfl), by rw [hK]; kernel_rfl⟩, by rw [hK]; kernel_rfl, by rw [hK]; kernel_rfl, by decide +kernel, by decide +kernel, by decide +kernel, by decide +kernel, nofree_of (by decide +kernel)⟩
theorem fnis_write_cmap (hK : C.K = kP P) : FnIs C 279 (defOf (Str.ofString "write_cmap")) := by
  refine ⟨⟨_, _, by rw [hK]; rfl, rfl, rfl, rfl, rfl, rfl, rfl, rfl, rfl, rfl, rfl, vals1 (by rfl) (by intros; kernel_rfl), by rw [hK]; kernel_rfl⟩, by rw [hK]; kernel_rfl, by rw [hK]; kernel_rfl, by decide +kernel, by decide +kernel, by decide +kernel, by decide +kernel, nofree_of (by decide +kernel)⟩
theorem fnis_law_pool (hK : C.K = kP P) : FnIs C 286 (defOf (Str.ofString "_law_pool")) := by
  refine ⟨⟨_, _, by rw [hK]; rfl, rfl, rfl, rfl, rfl, rfl, rfl, rfl, rfl, rfl, rfl, vals2 (by rfl) (by intros; kernel_rfl), by rw [hK]; kernel_rfl⟩, by rw [hK]; kernel_rfl, by rw [hK]; kernel_rfl, by decide +kernel, by decide +kernel, by decide +kernel, by decide +kernel, nofree_of (by decide +kernel)⟩
theorem fnis_law_take (hK : C.K = kP P) : FnIs C 293 (defOf (Str.ofString "_law_take")) := by
  refine ⟨⟨_, _, by rw [hK]; rfl, rfl, rfl, rfl, rfl, rfl, rfl, rfl, rfl, rfl, rfl, vals2 (by rfl) (by intros; kernel_rfl), by rw [hK]; kernel_rfl⟩, by rw [hK]; kernel_rfl, by rw [hK]; kernel_rfl, by decide +kernel, by decide +kernel, by decide +kernel, by decide +kernel, nofree_of (by decide +kernel)⟩
theorem fnis_law_one (hK : C.K = kP P) : FnIs C 300 (defOf (Str.ofString "_law_one")) := by
  refine ⟨⟨_, _, by rw [hK]; rfl, rfl, rfl, rfl, rfl, rfl, rfl, rfl, rfl, rfl, rfl, vals2 (by rfl) (by intros; kernel_rfl), by rw [hK]; kernel_rfl⟩, by rw [hK]; kernel_rfl, by rw [hK]; kernel_rfl, by decide +kernel, by decide +kernel, by decide +kernel, by decide +kernel, nofree_of (by decide +kernel)⟩
theorem fnis_law_codes (hK : C.K = kP P) : FnIs C 307 (defOf (Str.ofString "_law_codes")) := by
  refine ⟨⟨_, _, by rw [hK]; rfl, rfl, rfl, rfl, rfl, rfl, rfl, rfl, rfl, rfl, rfl, vals1 (by rfl) (by intros; kernel_rfl), by rw [hK]; kernel_rfl⟩, by rw [hK]; kernel_rfl, by rw [hK]; kernel_rfl, by decide +kernel, by decide +kernel, by decide +kernel, by decide +kernel, nofree_of (by decide +kernel)⟩
theorem fnis_law_beside (hK : C.K = kP P) : FnIs C 314 (defOf (Str.ofString "_law_beside")) := by
  refine ⟨⟨_, _, by rw [hK]; rfl, rfl, rfl, rfl, rfl, rfl, rfl, rfl, rfl, rfl, rfl, vals1 (by rfl) (by intros; kernel_rfl), by rw [hK]; kernel_rfl⟩, by rw [hK]; kernel_rfl, by rw [hK]; kernel_rfl, by decide +kernel, by decide +kernel, by decide +kernel, by decide +kernel, nofree_of (by decide +kernel)⟩
theorem fnis_law_map_right (hK : C.K = kP P) : FnIs C 321 (defOf (Str.ofString "_law_map_right")) := by
  refine ⟨⟨_, _, by rw [hK]; rfl, rfl, rfl, rfl, rfl, rfl, rfl, rfl, rfl, rfl, rfl, vals3 (by rfl) (by intros; kernel_rfl), by rw [hK]; kernel_rfl⟩, by rw [hK]; kernel_rfl, by rw [hK]; kernel_rfl, by decide +kernel, by decide +kernel, by decide +kernel, by decide +kernel, nofree_of (by decide +kernel)⟩
theorem fnis_law_fell (hK : C.K = kP P) : FnIs C 328 (defOf (Str.ofString "_law_fell")) := by
  refine ⟨⟨_, _, by rw [hK]; rfl, rfl, rfl, rfl, rfl, rfl, rfl, rfl, rfl, rfl, rfl, vals1 (by rfl) (by intros; kernel_rfl), by rw [hK]; kernel_rfl⟩, by rw [hK]; kernel_rfl, by rw [hK]; kernel_rfl, by decide +kernel, by decide +kernel, by decide +kernel, by decide +kernel, nofree_of (by decide +kernel)⟩
theorem fnis_ByteMap_init (hK : C.K = kP P) : FnIs C 104 (methOf (Str.ofString "ByteMap") "__init__") := by
  refine ⟨⟨_, _, by rw [hK]; rfl, rfl, rfl, rfl, rfl, rfl, rfl, rfl, rfl, rfl, rfl, vals2 (by rfl) (by intros; kernel_rfl), by rw [hK]; kernel_rfl⟩, by rw [hK]; kernel_rfl, by rw [hK]; kernel_rfl, by decide +kernel, by decide +kernel, by decide +kernel, by decide +kernel, nofree_of (by decide +kernel)⟩
theorem fnis_ByteMap_find (hK : C.K = kP P) : FnIs C 111 (methOf (Str.ofString "ByteMap") "find") := by
  refine ⟨⟨_, _, by rw [hK]; rfl, rfl, rfl, rfl, rfl, rfl, rfl, rfl, rfl, rfl, rfl, vals2 (by rfl) (by intros; kernel_rfl), by rw [hK]; kernel_rfl⟩, by rw [hK]; kernel_rfl, by rw [hK]; kernel_rfl, by decide +kernel, by decide +kernel, by decide +kernel, by decide +kernel, nofree_of (by decide +kernel)⟩
theorem clsis_ByteMap (hK : C.K = kP P) : ClsIs C (Str.ofString "ByteMap") 114 := by
  refine ⟨by rw [hK]; kernel_rfl, by rw [hK]; kernel_rfl, ⟨104, by rw [hK]; kernel_rfl, fnis_ByteMap_init hK⟩, ⟨111, by rw [hK]; kernel_rfl, fnis_ByteMap_find hK⟩, fun y => by rw [hK]; show plainGet (kP P) 114 "find" = true; kernel_rfl, by rw [hK]; kernel_rfl, by rw [hK]; kernel_rfl, by rw [hK]; kernel_rfl, fun y hy => ?_⟩
  simp only [isField, fieldNames, List.any_cons, List.any_nil, Bool.or_eq_true, decide_eq_true_eq, Bool.or_false] at hy
  rw [hK]
  rcases hy with rfl | rfl | rfl | rfl | rfl | rfl | rfl | rfl <;> exact ⟨by kernel_rfl, by kernel_rfl⟩
theorem fnis_TrimmedMap_init (hK : C.K = kP P) : FnIs C 130 (methOf (Str.ofString "TrimmedMap") "__init__") := by
  refine ⟨⟨_, _, by rw [hK]; rfl, rfl, rfl, rfl, rfl, rfl, rfl, rfl, rfl, rfl, rfl, vals2 (by rfl) (by intros; kernel_rfl), by rw [hK]; kernel_rfl⟩, by rw [hK]; kernel_rfl, by rw [hK]; kernel_rfl, by decide +kernel, by decide +kernel, by decide +kernel, by decide +kernel, nofree_of (by decide +kernel)⟩
theorem fnis_TrimmedMap_find (hK : C.K = kP P) : FnIs C 137 (methOf (Str.ofString "TrimmedMap") "find") := by
  refine ⟨⟨_, _, by rw [hK]; rfl, rfl, rfl, rfl, rfl, rfl, rfl, rfl, rfl, rfl, rfl, vals2 (by rfl) (by intros; kernel_rfl), by rw [hK]; kernel_rfl⟩, by rw [hK]; kernel_rfl, by rw [hK]; kernel_rfl, by decide +kernel, by decide +kernel, by decide +kernel, by decide +kernel, nofree_of (by decide +kernel)⟩
theorem clsis_TrimmedMap (hK : C.K = kP P) : ClsIs C (Str.ofString "TrimmedMap") 140 := by
  refine ⟨by rw [hK]; kernel_rfl, by rw [hK]; kernel_rfl, ⟨130, by rw [hK]; kernel_rfl, fnis_TrimmedMap_init hK⟩, ⟨137, by rw [hK]; kernel_rfl, fnis_TrimmedMap_find hK⟩, fun y => by rw [hK]; show plainGet (kP P) 140 "find" = true; kernel_rfl, by rw [hK]; kernel_rfl, by rw [hK]; kernel_rfl, by rw [hK]; kernel_rfl, fun y hy => ?_⟩
  simp only [isField, fieldNames, List.any_cons, List.any_nil, Bool.or_eq_true, decide_eq_true_eq, Bool.or_false] at hy
  rw [hK]
  rcases hy with rfl | rfl | rfl | rfl | rfl | rfl | rfl | rfl <;> exact ⟨by kernel_rfl, by kernel_rfl⟩
theorem fnis_SegmentMap_init (hK : C.K = kP P) : FnIs C 163 (methOf (Str.ofString "SegmentMap") "__init__") := by
  refine ⟨⟨_, _, by rw [hK]; rfl, rfl, rfl, rfl, rfl, rfl, rfl, rfl, rfl, rfl, rfl, vals2 (by rfl) (by intros; kernel_rfl), by rw [hK]; kernel_rfl⟩, by rw [hK]; kernel_rfl, by rw [hK]; kernel_rfl, by decide +kernel, by decide +kernel, by decide +kernel, by decide +kernel, nofree_of (by decide +kernel)⟩
theorem fnis_SegmentMap_find (hK : C.K = kP P) : FnIs C 170 (methOf (Str.ofString "SegmentMap") "find") := by
  refine ⟨⟨_, _, by rw [hK]; rfl, rfl, rfl, rfl, rfl, rfl, rfl, rfl, rfl, rfl, rfl, vals2 (by rfl) (by intros; kernel_rfl), by rw [hK]; kernel_rfl⟩, by rw [hK]; kernel_rfl, by rw [hK]; kernel_rfl, by decide +kernel, by decide +kernel, by decide +kernel, by decide +kernel, nofree_of (by decide +kernel)⟩
theorem clsis_SegmentMap (hK : C.K = kP P) : ClsIs C (Str.ofString "SegmentMap") 173 := by
  refine ⟨by rw [hK]; kernel_rfl, by rw [hK]; kernel_rfl, ⟨163, by rw [hK]; kernel_rfl, fnis_SegmentMap_init hK⟩, ⟨170, by rw [hK]; kernel_rfl, fnis_SegmentMap_find hK⟩, fun y => by rw [hK]; show plainGet (kP P) 173 "find" = true; kernel_rfl, by rw [hK]; kernel_rfl, by rw [hK]; kernel_rfl, by rw [hK]; kernel_rfl, fun y hy => ?_⟩
  simp only [isField, fieldNames, List.any_cons, List.any_nil, Bool.or_eq_true, decide_eq_true_eq, Bool.or_false] at hy
  rw [hK]
  rcases hy with rfl | rfl | rfl | rfl | rfl | rfl | rfl | rfl <;> exact ⟨by kernel_rfl, by kernel_rfl⟩
theorem fnis_GroupMap_init (hK : C.K = kP P) : FnIs C 189 (methOf (Str.ofString "GroupMap") "__init__") := by
  refine ⟨⟨_, _, by rw [hK]; rfl, rfl, rfl, rfl, rfl, rfl, rfl, rfl, rfl, rfl, rfl, vals2 (by rfl) (by intros; kernel_rfl), by rw [hK]; kernel_rfl⟩, by rw [hK]; kernel_rfl, by rw [hK]; kernel_rfl, by decide +kernel, by decide +kernel, by decide +kernel, by decide +kernel, nofree_of (by decide +kernel)⟩
theorem fnis_GroupMap_find (hK : C.K = kP P) : FnIs C 196 (methOf (Str.ofString "GroupMap") "find") := by
  refine ⟨⟨_, _, by rw [hK]; rfl, rfl, rfl, rfl, rfl, rfl, rfl, rfl, rfl, rfl, rfl, vals2 (by rfl) (by intros; kernel_rfl), by rw [hK]; kernel_rfl⟩, by rw [hK]; kernel_rfl, by rw [hK]; kernel_rfl, by decide +kernel, by decide +kernel, by decide +kernel, by decide +kernel, nofree_of (by decide +kernel)⟩
theorem clsis_GroupMap (hK : C.K = kP P) : ClsIs C (Str.ofString "GroupMap") 199 := by
  refine ⟨by rw [hK]; kernel_rfl, by rw [hK]; kernel_rfl, ⟨189, by rw [hK]; kernel_rfl, fnis_GroupMap_init hK⟩, ⟨196, by rw [hK]; kernel_rfl, fnis_GroupMap_find hK⟩, fun y => by rw [hK]; show plainGet (kP P) 199 "find" = true; kernel_rfl, by rw [hK]; kernel_rfl, by rw [hK]; kernel_rfl, by rw [hK]; kernel_rfl, fun y hy => ?_⟩
  simp only [isField, fieldNames, List.any_cons, List.any_nil, Bool.or_eq_true, decide_eq_true_eq, Bool.or_false] at hy
  rw [hK]
  rcases hy with rfl | rfl | rfl | rfl | rfl | rfl | rfl | rfl <;> exact ⟨by kernel_rfl, by kernel_rfl⟩
theorem fnis_mill (hK : C.K = kP P) : FnIs C 28 (methOf "MillError" "__init__") := by
  refine ⟨⟨_, _, by rw [hK]; rfl, rfl, rfl, rfl, rfl, rfl, rfl, rfl, rfl, rfl, rfl, vals2 (by rfl) (by intros; kernel_rfl), by rw [hK]; kernel_rfl⟩, by rw [hK]; kernel_rfl, by rw [hK]; kernel_rfl, by decide +kernel, by decide +kernel, by decide +kernel, by decide +kernel, nofree_of (by decide +kernel)⟩
theorem excok (hK : C.K = kP P) : ExcOK C := by
  refine ⟨⟨44, 31, _, _, _, _, _, _, _, _, _, _, _, _, _, _, 28, by rw [hK]; kernel_rfl, by rw [hK]; rfl, by rw [hK]; kernel_rfl, fnis_mill hK, by rw [hK]; kernel_rfl, by rw [hK]; kernel_rfl, by rw [hK]; kernel_rfl⟩, ⟨_, _, _, _, _, _, _, rfl, rfl, rfl, rfl, rfl⟩⟩

theorem best_vr (hK : C.K = kP P) : VR C C.base [] [] bestV (.ref 90) := by
  have g : ∀ a o, (kP P).lookup a = some o → C.base.get? a = some o := fun a o e => C.inK a o (by rw [hK]; exact e)
  refine .obj _ [90] 90 (.tup _ _ _ 0 (g 90 _ rfl) ?_ rfl) (by simp)
  refine .cons _ _ _ _ (.obj _ [82] 82 (.tup _ _ _ 0 (g 82 _ rfl) (.cons _ _ _ _ (.int _ _) (.cons _ _ _ _ (.int _ _) .nil)) rfl) (by simp)) (.cons _ _ _ _ (.obj _ [83] 83 (.tup _ _ _ 0 (g 83 _ rfl) (.cons _ _ _ _ (.int _ _) (.cons _ _ _ _ (.int _ _) .nil)) rfl) (by simp)) (.cons _ _ _ _ (.obj _ [84] 84 (.tup _ _ _ 0 (g 84 _ rfl) (.cons _ _ _ _ (.int _ _) (.cons _ _ _ _ (.int _ _) .nil)) rfl) (by simp)) (.cons _ _ _ _ (.obj _ [85] 85 (.tup _ _ _ 0 (g 85 _ rfl) (.cons _ _ _ _ (.int _ _) (.cons _ _ _ _ (.int _ _) .nil)) rfl) (by simp)) (.cons _ _ _ _ (.obj _ [86] 86 (.tup _ _ _ 0 (g 86 _ rfl) (.cons _ _ _ _ (.int _ _) (.cons _ _ _ _ (.int _ _) .nil)) rfl) (by simp)) (.cons _ _ _ _ (.obj _ [87] 87 (.tup _ _ _ 0 (g 87 _ rfl) (.cons _ _ _ _ (.int _ _) (.cons _ _ _ _ (.int _ _) .nil)) rfl) (by simp)) (.cons _ _ _ _ (.obj _ [88] 88 (.tup _ _ _ 0 (g 88 _ rfl) (.cons _ _ _ _ (.int _ _) (.cons _ _ _ _ (.int _ _) .nil)) rfl) (by simp)) (.cons _ _ _ _ (.obj _ [89] 89 (.tup _ _ _ 0 (g 89 _ rfl) (.cons _ _ _ _ (.int _ _) (.cons _ _ _ _ (.int _ _) .nil)) rfl) (by simp)) (.nil))))))))
theorem gok (hK : C.K = kP P) : GOK C where
  fn := fun x hx => by
    simp only [isFnName, fnNames, List.any_cons, List.any_nil, Bool.or_eq_true, decide_eq_true_eq, Bool.or_false] at hx
    rcases hx with rfl | rfl | rfl | rfl | rfl | rfl | rfl | rfl | rfl | rfl | rfl | rfl | rfl | rfl | rfl | rfl | rfl | rfl | rfl | rfl | rfl | rfl | rfl | rfl | rfl
    · exact ⟨53, by rw [hK]; kernel_rfl, fnis_u16 hK⟩
    · exact ⟨60, by rw [hK]; kernel_rfl, fnis_u32 hK⟩
    · exact ⟨67, by rw [hK]; kernel_rfl, fnis_put16 hK⟩
    · exact ⟨74, by rw [hK]; kernel_rfl, fnis_put32 hK⟩
    · exact ⟨81, by rw [hK]; kernel_rfl, fnis_part_of hK⟩
    · exact ⟨151, by rw [hK]; kernel_rfl, fnis_first_from hK⟩
    · exact ⟨210, by rw [hK]; kernel_rfl, fnis_read_map hK⟩
    · exact ⟨215, by rw [hK]; kernel_rfl, fnis_read_rows hK⟩
    · exact ⟨222, by rw [hK]; kernel_rfl, fnis_read_cmap hK⟩
    · exact ⟨227, by rw [hK]; kernel_rfl, fnis_write_format_0 hK⟩
    · exact ⟨234, by rw [hK]; kernel_rfl, fnis_write_format_6 hK⟩
    · exact ⟨241, by rw [hK]; kernel_rfl, fnis_runs_of hK⟩
    · exact ⟨248, by rw [hK]; kernel_rfl, fnis_is_even_run hK⟩
    · exact ⟨253, by rw [hK]; kernel_rfl, fnis_write_format_4 hK⟩
    · exact ⟨260, by rw [hK]; kernel_rfl, fnis_exponent_of hK⟩
    · exact ⟨265, by rw [hK]; kernel_rfl, fnis_write_format_12 hK⟩
    · exact ⟨272, by rw [hK]; kernel_rfl, fnis_write_map hK⟩
    · exact ⟨279, by rw [hK]; kernel_rfl, fnis_write_cmap hK⟩
    · exact ⟨286, by rw [hK]; kernel_rfl, fnis_law_pool hK⟩
    · exact ⟨293, by rw [hK]; kernel_rfl, fnis_law_take hK⟩
    · exact ⟨300, by rw [hK]; kernel_rfl, fnis_law_one hK⟩
    · exact ⟨307, by rw [hK]; kernel_rfl, fnis_law_codes hK⟩
    · exact ⟨314, by rw [hK]; kernel_rfl, fnis_law_beside hK⟩
    · exact ⟨321, by rw [hK]; kernel_rfl, fnis_law_map_right hK⟩
    · exact ⟨328, by rw [hK]; kernel_rfl, fnis_law_fell hK⟩
  cls := fun x hx => by
    simp only [isClsName, clsNames, List.any_cons, List.any_nil, Bool.or_eq_true, decide_eq_true_eq, Bool.or_false] at hx
    rcases hx with rfl | rfl | rfl | rfl
    · exact ⟨114, by rw [hK]; kernel_rfl, clsis_ByteMap hK⟩
    · exact ⟨140, by rw [hK]; kernel_rfl, clsis_TrimmedMap hK⟩
    · exact ⟨173, by rw [hK]; kernel_rfl, clsis_SegmentMap hK⟩
    · exact ⟨199, by rw [hK]; kernel_rfl, clsis_GroupMap hK⟩
  last := ⟨277, by rw [hK]; kernel_rfl⟩
  best := ⟨.ref 90, by rw [hK]; kernel_rfl, best_vr hK⟩
  blt := fun x hx => by
    simp only [List.mem_cons, List.not_mem_nil, or_false] at hx
    rw [hK]
    rcases hx with rfl | rfl | rfl | rfl | rfl | rfl | rfl <;> kernel_rfl
end

section
variable {C : Cx} {F : Frm} {vs : Vars} {n : Nat}
noncomputable def wf1 (keep : Bool) (W : Nat → V → WS Unit) : WF := fun args hp K X => w1 args fun a => W hp.length a hp (fun _ hp2 => Rt keep hp.length .none hp2 K) (fun v hp2 => Rt keep hp.length v hp2 K) X
noncomputable def wf2 (keep : Bool) (W : Nat → V → V → WS Unit) : WF := fun args hp K X => w2 args fun a b => W hp.length a b hp (fun _ hp2 => Rt keep hp.length .none hp2 K) (fun v hp2 => Rt keep hp.length v hp2 K) X
noncomputable def wf3 (keep : Bool) (W : Nat → V → V → V → WS Unit) : WF := fun args hp K X => match args with
  | [a, b, c] => W hp.length a b c hp (fun _ hp2 => Rt keep hp.length .none hp2 K) (fun v hp2 => Rt keep hp.length v hp2 K) X
  | _ => False
theorem SS.false {α : Type} {st : α → Vars} {ss} {W : WS α} (h : ∀ hp Kn Kr X, ¬ W hp Kn Kr X) : SS C n F st vs ss W := ⟨fun _ _ _ _ w => (h _ _ _ _ w).elim⟩

theorem SF.of1 {fi x body keep} {W : Nat → V → WS Unit} (eB : fi.body = body) (ha : fi.args.map (·.arg) = [x]) (hk : fi.keep = keep) (hpar : parOK fi = true) (h : ∀ low a, SS C n ⟨fi.names, keep, low⟩ (fun _ => []) [(x, a)] body (W low a)) : SF C (n + 1) fi (wf1 keep W) := by
  subst eB hk
  refine SF.weaken (SF.of hpar (W := fun low args => match args with | [a] => W low a | _ => fun _ _ _ _ => False) fun low args => ?_) fun args hp K X w => ?_
  · rw [ha]
    match args with
    | [] => exact SS.false fun _ _ _ _ h => h
    | [a] => exact h low a
    | _ :: _ :: _ => exact SS.false fun _ _ _ _ h => h
  · obtain ⟨a, rfl, w⟩ := w.inv
    exact ⟨(congrArg List.length ha).symm.trans (List.length_map _), w⟩
theorem SF.of2 {fi x y body keep} {W : Nat → V → V → WS Unit} (eB : fi.body = body) (ha : fi.args.map (·.arg) = [x, y]) (hk : fi.keep = keep) (hpar : parOK fi = true) (h : ∀ low a b, SS C n ⟨fi.names, keep, low⟩ (fun _ => []) [(x, a), (y, b)] body (W low a b)) : SF C (n + 1) fi (wf2 keep W) := by
  subst eB hk
  refine SF.weaken (SF.of hpar (W := fun low args => match args with | [a, b] => W low a b | _ => fun _ _ _ _ => False) fun low args => ?_) fun args hp K X w => ?_
  · rw [ha]
    match args with
    | [] => exact SS.false fun _ _ _ _ h => h
    | [_] => exact SS.false fun _ _ _ _ h => h
    | [a, b] => exact h low a b
    | _ :: _ :: _ :: _ => exact SS.false fun _ _ _ _ h => h
  · obtain ⟨a, b, rfl, w⟩ := w.inv
    exact ⟨(congrArg List.length ha).symm.trans (List.length_map _), w⟩
theorem SF.of3 {fi x y z body keep} {W : Nat → V → V → V → WS Unit} (eB : fi.body = body) (ha : fi.args.map (·.arg) = [x, y, z]) (hk : fi.keep = keep) (hpar : parOK fi = true) (h : ∀ low a b c, SS C n ⟨fi.names, keep, low⟩ (fun _ => []) [(x, a), (y, b), (z, c)] body (W low a b c)) : SF C (n + 1) fi (wf3 keep W) := by
  subst eB hk
  refine SF.weaken (SF.of hpar (W := fun low args => match args with | [a, b, c] => W low a b c | _ => fun _ _ _ _ => False) fun low args => ?_) fun args hp K X w => ?_
  · rw [ha]
    match args with
    | [] => exact SS.false fun _ _ _ _ h => h
    | [_] => exact SS.false fun _ _ _ _ h => h
    | [_, _] => exact SS.false fun _ _ _ _ h => h
    | [a, b, c] => exact h low a b c
    | _ :: _ :: _ :: _ :: _ => exact SS.false fun _ _ _ _ h => h
  · match args, w with
    | [a, b, c], w => exact ⟨(congrArg List.length ha).symm.trans (List.length_map _), w⟩
theorem SE.len {np args p WA g} (G : GOK C) (hB : BiOK C (.builtin "len") g) (hk : F.names.lookup (Str.ofString "len") = some .globalImplicit) (hA : SA C n F vs args WA) : SE C n F vs (.Call (.Name (Str.ofString "len") np) args [] p) (eCallB g WA) := SE.callB (x := "len") G (by decide) hk (by decide +kernel) (by decide) (keepOK_builtin _) hB hA
theorem SE.max {np args p WA g} (G : GOK C) (hB : BiOK C (.builtin "max") g) (hk : F.names.lookup (Str.ofString "max") = some .globalImplicit) (hA : SA C n F vs args WA) : SE C n F vs (.Call (.Name (Str.ofString "max") np) args [] p) (eCallB g WA) := SE.callB (x := "max") G (by decide) hk (by decide +kernel) (by decide) (keepOK_builtin _) hB hA
theorem SE.sorted {np args p WA g} (G : GOK C) (hB : BiOK C (.builtin "sorted") g) (hk : F.names.lookup (Str.ofString "sorted") = some .globalImplicit) (hA : SA C n F vs args WA) : SE C n F vs (.Call (.Name (Str.ofString "sorted") np) args [] p) (eCallB g WA) := SE.callB (x := "sorted") G (by decide) hk (by decide +kernel) (by decide) (keepOK_builtin _) hB hA
theorem SE.range {np args p WA g} (G : GOK C) (hB : BiOK C (.type "range") g) (hk : F.names.lookup (Str.ofString "range") = some .globalImplicit) (hA : SA C n F vs args WA) : SE C n F vs (.Call (.Name (Str.ofString "range") np) args [] p) (eCallB g WA) := SE.callB (x := "range") G (by decide) hk (by decide +kernel) (by decide) (keepOK_type _) hB hA
theorem SE.cbytes {np args p WA g} (G : GOK C) (hB : BiOK C (.type "bytes") g) (hk : F.names.lookup (Str.ofString "bytes") = some .globalImplicit) (hA : SA C n F vs args WA) : SE C n F vs (.Call (.Name (Str.ofString "bytes") np) args [] p) (eCallB g WA) := SE.callB (x := "bytes") G (by decide) hk (by decide +kernel) (by decide) (keepOK_type _) hB hA
theorem SE.cint {np args p WA g} (G : GOK C) (hB : BiOK C (.type "int") g) (hk : F.names.lookup (Str.ofString "int") = some .globalImplicit) (hA : SA C n F vs args WA) : SE C n F vs (.Call (.Name (Str.ofString "int") np) args [] p) (eCallB g WA) := SE.callB (x := "int") G (by decide) hk (by decide +kernel) (by decide) (keepOK_type _) hB hA
theorem SE.cstr {np args p WA g} (G : GOK C) (hB : BiOK C (.type "str") g) (hk : F.names.lookup (Str.ofString "str") = some .globalImplicit) (hA : SA C n F vs args WA) : SE C n F vs (.Call (.Name (Str.ofString "str") np) args [] p) (eCallB g WA) := SE.callB (x := "str") G (by decide) hk (by decide +kernel) (by decide) (keepOK_type _) hB hA
theorem Fr.nil {names : List (Str × NameKind)} : ∀ p ∈ ([] : Vars), names.lookup p.1 = some .free := fun _ h => by cases h
theorem Fr.cons {names : List (Str × NameKind)} {x : Str} {v : V} {r : Vars} (h : names.lookup x = some .free) (hr : ∀ p ∈ r, names.lookup p.1 = some .free) : ∀ p ∈ (x, v) :: r, names.lookup p.1 = some .free := fun p hp => (List.mem_cons.mp hp).elim (fun q => q ▸ h) (hr p)
noncomputable def tEnd (b : Bool) : WB := fun hp K _ => K b hp
theorem STs.endA : STs C n F vs .And [] (tEnd true) := STs.nil
theorem STs.endO : STs C n F vs .Or [] (tEnd false) := STs.nil
theorem S1.if0 {t b p T} {W : WS Unit} (ht : ST C n F vs t T) (hb : SS C n F (fun _ : Unit => vs) vs b W) : S1 C n F (fun _ : Unit => vs) vs (.If t b [] p) (sIf T W (sEnd ())) := S1.if ht hb (SS.nil () Sub.refl)
theorem swaps_used {elt : Expr} {gens : List Comprehension} {sc : Scope} {pos np : Pos} {x : Str} {l : Nat} {env : Env} {names : List (Str × NameKind)} (h1 : env.scope.kind = .function) (h2 : env.scope.names = names) (hb : (names.lookup x == some .local && np.line == pos.line && !(sc.names.any fun (n, k) => n == x && (k == .local || k == .cell))) = true) : swapsWith (.ListComp elt gens sc pos) (some (.Name x np)) l env = pure true := by
  show (pure (env.blockKind == .function && env.kindOf x == some .local && np.line == pos.line && !(sc.names.any fun (n, k) => n == x && (k == .local || k == .cell))) : Sem Bool) = _
  unfold Env.blockKind Env.kindOf
  rw [h1, h2]
  show (pure (true && names.lookup x == some .local && np.line == pos.line && !(sc.names.any fun (n, k) => n == x && (k == .local || k == .cell))) : Sem Bool) = _
  rw [Bool.true_and, hb]
end

noncomputable def shut (W : WF) : WF := Classical.choose (⟨W, rfl⟩ : ∃ x, x = W)
theorem shut_eq {W : WF} : shut W = W := Classical.choose_spec (⟨W, rfl⟩ : ∃ x, x = W)
theorem shut_of {W : WF} {args hp K X} (h : W args hp K X) : shut W args hp K X := by rw [shut_eq]; exact h
theorem SF.shut {C n fi} {W : WF} (h : SF C n fi W) : SF C n fi (Mine.shut W) := shut_eq.symm ▸ h
noncomputable def w_u16_1 (low : Nat) (v_octets v_at : V) : WS (Unit) := (sSeq (sIf (tOr (tCmp cLt (eV v_at) (eV (.int 0))) (tOr (tCmp cGt (eBin fAdd (eV v_at) (eV (.int 2))) (eCallB gLenB (aCons (eV v_octets) aNil))) (tEnd false))) (sRaise (eV (.str (Str.ofString "a font's table ends too early")))) (sEnd ())) fun _ => (sRet (eBin fAdd (eBin fMul (eItem iB (eV v_octets) (eV v_at)) (eV (.int 256))) (eItem iB (eV v_octets) (eBin fAdd (eV v_at) (eV (.int 1)))))))
noncomputable def wd_u16 : WF := wf2 false fun low v_octets v_at => (w_u16_1 low v_octets v_at)
theorem d_u16 {C : Cx} (G : GOK C) (X0 : ExcOK C) : SF C 3 (defOf (Str.ofString "u16")) wd_u16 := by
  have eB := Eq.refl (defOf (Str.ofString "u16")).body
  conv at eB => rhs; whnf
  exact SF.of2 (x := (Str.ofString "octets")) (y := (Str.ofString "at")) eB (by kernel_rfl) (by kernel_rfl) (by kernel_rfl) fun low a_octets a_at => (SS.cons (S1.if0 (ST.bool (STs.or (ST.cmp cpLt rfl (SE.name (by kernel_rfl) (by kernel_rfl)) SE.int) (STs.or (ST.cmp cpGt rfl (SE.bin opAdd (SE.name (by kernel_rfl) (by kernel_rfl)) SE.int) (SE.len G biLenB (by kernel_rfl) (SA.cons (SE.name (by kernel_rfl) (by kernel_rfl)) SA.nil rfl))) STs.endO))) (SS.one (S1.raise X0 (by decide) rfl (by kernel_rfl) SE.str))) fun _ => (SS.one (S1.ret (SE.bin opAdd (SE.bin opMul (SE.item itB (SE.name (by kernel_rfl) (by kernel_rfl)) (SE.name (by kernel_rfl) (by kernel_rfl))) SE.int) (SE.item itB (SE.name (by kernel_rfl) (by kernel_rfl)) (SE.bin opAdd (SE.name (by kernel_rfl) (by kernel_rfl)) SE.int))))))

noncomputable def cw_u16 : WF := shut wd_u16
theorem s_u16 {C : Cx} (G : GOK C) (X0 : ExcOK C) : SF C 3 (defOf (Str.ofString "u16")) cw_u16 := (d_u16 G X0).shut

noncomputable def wd_u32 : WF := wf2 false fun low v_octets v_at => (sRet (eBin fAdd (eBin fMul (eCall cw_u16 (aCons (eV v_octets) (aCons (eV v_at) aNil))) (eV (.int 65536))) (eCall cw_u16 (aCons (eV v_octets) (aCons (eBin fAdd (eV v_at) (eV (.int 2))) aNil)))))
theorem d_u32 {C : Cx} (G : GOK C) (X0 : ExcOK C) : SF C 6 (defOf (Str.ofString "u32")) wd_u32 := by
  have eB := Eq.refl (defOf (Str.ofString "u32")).body
  conv at eB => rhs; whnf
  exact SF.of2 (x := (Str.ofString "octets")) (y := (Str.ofString "at")) eB (by kernel_rfl) (by kernel_rfl) (by kernel_rfl) fun low a_octets a_at => (SS.one (S1.ret (SE.bin opAdd (SE.bin opMul (SE.callF G (by kernel_rfl) (by kernel_rfl) (by decide) (s_u16 G X0) (SA.cons (SE.name (by kernel_rfl) (by kernel_rfl)) (SA.cons (SE.name (by kernel_rfl) (by kernel_rfl)) SA.nil rfl) rfl)) SE.int) (SE.callF G (by kernel_rfl) (by kernel_rfl) (by decide) (s_u16 G X0) (SA.cons (SE.name (by kernel_rfl) (by kernel_rfl)) (SA.cons (SE.bin opAdd (SE.name (by kernel_rfl) (by kernel_rfl)) SE.int) SA.nil rfl) rfl)))))

noncomputable def cw_u32 : WF := shut wd_u32
theorem s_u32 {C : Cx} (G : GOK C) (X0 : ExcOK C) : SF C 6 (defOf (Str.ofString "u32")) cw_u32 := (d_u32 G X0).shut

noncomputable def wd_put16 : WF := wf1 false fun low v_number => (sRet (eCallB gBytesL (aCons (eList (aCons (eBin fMod (eBin fDiv (eV v_number) (eV (.int 256))) (eV (.int 256))) (aCons (eBin fMod (eV v_number) (eV (.int 256))) aNil))) aNil)))
theorem d_put16 {C : Cx} (G : GOK C) (X0 : ExcOK C) : SF C 3 (defOf (Str.ofString "put16")) wd_put16 := by
  have eB := Eq.refl (defOf (Str.ofString "put16")).body
  conv at eB => rhs; whnf
  exact SF.of1 (x := (Str.ofString "number")) eB (by kernel_rfl) (by kernel_rfl) (by kernel_rfl) fun low a_number => (SS.one (S1.ret (SE.cbytes G biBytesL (by kernel_rfl) (SA.cons (SE.list (SA.cons (SE.bin opMod (SE.bin opDiv (SE.name (by kernel_rfl) (by kernel_rfl)) SE.int) SE.int) (SA.cons (SE.bin opMod (SE.name (by kernel_rfl) (by kernel_rfl)) SE.int) SA.nil rfl) rfl)) SA.nil rfl))))

noncomputable def cw_put16 : WF := shut wd_put16
theorem s_put16 {C : Cx} (G : GOK C) (X0 : ExcOK C) : SF C 3 (defOf (Str.ofString "put16")) cw_put16 := (d_put16 G X0).shut

noncomputable def wd_put32 : WF := wf1 false fun low v_number => (sRet (eBin fAddB (eCall cw_put16 (aCons (eBin fDiv (eV v_number) (eV (.int 65536))) aNil)) (eCall cw_put16 (aCons (eV v_number) aNil))))
theorem d_put32 {C : Cx} (G : GOK C) (X0 : ExcOK C) : SF C 6 (defOf (Str.ofString "put32")) wd_put32 := by
  have eB := Eq.refl (defOf (Str.ofString "put32")).body
  conv at eB => rhs; whnf
  exact SF.of1 (x := (Str.ofString "number")) eB (by kernel_rfl) (by kernel_rfl) (by kernel_rfl) fun low a_number => (SS.one (S1.ret (SE.bin opAddB (SE.callF G (by kernel_rfl) (by kernel_rfl) (by decide) (s_put16 G X0) (SA.cons (SE.bin opDiv (SE.name (by kernel_rfl) (by kernel_rfl)) SE.int) SA.nil rfl)) (SE.callF G (by kernel_rfl) (by kernel_rfl) (by decide) (s_put16 G X0) (SA.cons (SE.name (by kernel_rfl) (by kernel_rfl)) SA.nil rfl)))))

noncomputable def cw_put32 : WF := shut wd_put32
theorem s_put32 {C : Cx} (G : GOK C) (X0 : ExcOK C) : SF C 6 (defOf (Str.ofString "put32")) cw_put32 := (d_put32 G X0).shut
noncomputable def w_part_of_1 (low : Nat) (v_octets v_at v_size : V) : WS (Unit) := (sSeq (sIf (tOr (tCmp cLt (eV v_at) (eV (.int 0))) (tOr (tCmp cLt (eV v_size) (eV (.int 0))) (tOr (tCmp cGt (eBin fAdd (eV v_at) (eV v_size)) (eCallB gLenB (aCons (eV v_octets) aNil))) (tEnd false)))) (sRaise (eV (.str (Str.ofString "a font's table ends too early")))) (sEnd ())) fun _ => (sRet (eCallB gBytesB (aCons (eCut (eV v_octets) (eV v_at) (eBin fAdd (eV v_at) (eV v_size))) aNil))))
noncomputable def wd_part_of : WF := wf3 false fun low v_octets v_at v_size => (w_part_of_1 low v_octets v_at v_size)
theorem d_part_of {C : Cx} (G : GOK C) (X0 : ExcOK C) : SF C 3 (defOf (Str.ofString "part_of")) wd_part_of := by
  have eB := Eq.refl (defOf (Str.ofString "part_of")).body
  conv at eB => rhs; whnf
  exact SF.of3 (x := (Str.ofString "octets")) (y := (Str.ofString "at")) (z := (Str.ofString "size")) eB (by kernel_rfl) (by kernel_rfl) (by kernel_rfl) fun low a_octets a_at a_size => (SS.cons (S1.if0 (ST.bool (STs.or (ST.cmp cpLt rfl (SE.name (by kernel_rfl) (by kernel_rfl)) SE.int) (STs.or (ST.cmp cpLt rfl (SE.name (by kernel_rfl) (by kernel_rfl)) SE.int) (STs.or (ST.cmp cpGt rfl (SE.bin opAdd (SE.name (by kernel_rfl) (by kernel_rfl)) (SE.name (by kernel_rfl) (by kernel_rfl))) (SE.len G biLenB (by kernel_rfl) (SA.cons (SE.name (by kernel_rfl) (by kernel_rfl)) SA.nil rfl))) STs.endO)))) (SS.one (S1.raise X0 (by decide) rfl (by kernel_rfl) SE.str))) fun _ => (SS.one (S1.ret (SE.cbytes G biBytesB (by kernel_rfl) (SA.cons (SE.cut (SE.name (by kernel_rfl) (by kernel_rfl)) (SE.name (by kernel_rfl) (by kernel_rfl)) (SE.bin opAdd (SE.name (by kernel_rfl) (by kernel_rfl)) (SE.name (by kernel_rfl) (by kernel_rfl)))) SA.nil rfl)))))

noncomputable def cw_part_of : WF := shut wd_part_of
theorem s_part_of {C : Cx} (G : GOK C) (X0 : ExcOK C) : SF C 3 (defOf (Str.ofString "part_of")) cw_part_of := (d_part_of G X0).shut
noncomputable def w_first_from_6 (low : Nat) (v_half v_high v_low v_ends v_code : V) : WS (V × V) := (sSeq (sSet (eBin fAdd (eV v_half) (eV (.int 1)))) fun b5 => (sEnd (v_high, b5)))
noncomputable def w_first_from_7 (low : Nat) (v_half v_high v_low v_ends v_code : V) : WS (V × V) := (sSeq (sSet (eV v_half)) fun b6 => (sEnd (b6, v_low)))
noncomputable def w_first_from_5 (low : Nat) (v_half v_high v_low v_ends v_code : V) : WS (V × V) := (sIf (tCmp cLt (eItem iL (eV v_ends) (eV v_half)) (eV v_code)) (w_first_from_6 low v_half v_high v_low v_ends v_code) (w_first_from_7 low v_half v_high v_low v_ends v_code))
noncomputable def w_first_from_4 (low : Nat) (v_high v_low v_ends v_code : V) : WS (V × V) := (sSeq (sSet (eBin fDiv (eBin fAdd (eV v_low) (eV v_high)) (eV (.int 2)))) fun b4 => (w_first_from_5 low b4 v_high v_low v_ends v_code))
noncomputable def w_first_from_3 (low : Nat) (v_high v_low v_ends v_code : V) : WS (Unit) := (sSeq (sWhile ((v_high, v_low) : V × V) (fun b3 => (tCmp cLt (eV b3.2) (eV b3.1))) fun b3 => (w_first_from_4 low b3.1 b3.2 v_ends v_code)) fun b3 => (sRet (eV b3.2)))
noncomputable def w_first_from_2 (low : Nat) (v_low v_ends v_code : V) : WS (Unit) := (sSeq (sSet (eCallB gLenL (aCons (eV v_ends) aNil))) fun b2 => (w_first_from_3 low b2 v_low v_ends v_code))
noncomputable def w_first_from_1 (low : Nat) (v_ends v_code : V) : WS (Unit) := (sSeq (sSet (eV (.int 0))) fun b1 => (w_first_from_2 low b1 v_ends v_code))
noncomputable def wd_first_from : WF := wf2 false fun low v_ends v_code => (w_first_from_1 low v_ends v_code)
theorem d_first_from {C : Cx} (G : GOK C) (X0 : ExcOK C) : SF C 3 (defOf (Str.ofString "first_from")) wd_first_from := by
  have eB := Eq.refl (defOf (Str.ofString "first_from")).body
  conv at eB => rhs; whnf
  exact SF.of2 (x := (Str.ofString "ends")) (y := (Str.ofString "code")) eB (by kernel_rfl) (by kernel_rfl) (by kernel_rfl) fun low a_ends a_code => (SS.cons (S1.set (by kernel_rfl) (fun _ => rfl) SE.int) fun d1 => (SS.cons (S1.set (by kernel_rfl) (fun _ => rfl) (SE.len G biLenL (by kernel_rfl) (SA.cons (SE.name (by kernel_rfl) (by kernel_rfl)) SA.nil rfl))) fun d2 => (SS.cons (S1.while (st := fun d3 : V × V => [((Str.ofString "high"), d3.1), ((Str.ofString "low"), d3.2), ((Str.ofString "ends"), a_ends), ((Str.ofString "code"), a_code)]) (d2, d1) (Sub.cons (by kernel_rfl) (Sub.cons (by kernel_rfl) (Sub.cons (by kernel_rfl) (Sub.cons (by kernel_rfl) Sub.nil)))) (fun d3 => (ST.cmp cpLt rfl (SE.name (by kernel_rfl) (by kernel_rfl)) (SE.name (by kernel_rfl) (by kernel_rfl)))) fun d3 => (SS.cons (S1.set (by kernel_rfl) (fun _ => rfl) (SE.bin opDiv (SE.bin opAdd (SE.name (by kernel_rfl) (by kernel_rfl)) (SE.name (by kernel_rfl) (by kernel_rfl))) SE.int)) fun d4 => (SS.one (S1.if (ST.cmp cpLt rfl (SE.item itL (SE.name (by kernel_rfl) (by kernel_rfl)) (SE.name (by kernel_rfl) (by kernel_rfl))) (SE.name (by kernel_rfl) (by kernel_rfl))) (SS.cons (S1.set (by kernel_rfl) (fun _ => rfl) (SE.bin opAdd (SE.name (by kernel_rfl) (by kernel_rfl)) SE.int)) fun d5 => (SS.nil (d3.1, d5) (Sub.cons (by kernel_rfl) (Sub.cons (by kernel_rfl) (Sub.cons (by kernel_rfl) (Sub.cons (by kernel_rfl) Sub.nil)))))) (SS.cons (S1.set (by kernel_rfl) (fun _ => rfl) (SE.name (by kernel_rfl) (by kernel_rfl))) fun d6 => (SS.nil (d6, d3.2) (Sub.cons (by kernel_rfl) (Sub.cons (by kernel_rfl) (Sub.cons (by kernel_rfl) (Sub.cons (by kernel_rfl) Sub.nil)))))))))) fun d3 => (SS.one (S1.ret (SE.name (by kernel_rfl) (by kernel_rfl)))))))

noncomputable def cw_first_from : WF := shut wd_first_from
theorem s_first_from {C : Cx} (G : GOK C) (X0 : ExcOK C) : SF C 3 (defOf (Str.ofString "first_from")) cw_first_from := (d_first_from G X0).shut
noncomputable def w_ByteMap_init_1 (low : Nat) (v_self v_octets : V) : WS (Unit) := (sSeq (sAttr (Str.ofString "glyphs") (eCall cw_part_of (aCons (eV v_octets) (aCons (eV (.int 6)) (aCons (eV (.int 256)) aNil)))) (eV v_self)) fun b1 => (sEnd ()))
noncomputable def wd_ByteMap_init : WF := wf2 false fun low v_self v_octets => (w_ByteMap_init_1 low v_self v_octets)
theorem d_ByteMap_init {C : Cx} (G : GOK C) (X0 : ExcOK C) : SF C 6 (methOf (Str.ofString "ByteMap") (Str.ofString "__init__")) wd_ByteMap_init := by
  have eB := Eq.refl (methOf (Str.ofString "ByteMap") (Str.ofString "__init__")).body
  conv at eB => rhs; whnf
  exact SF.of2 (x := (Str.ofString "self")) (y := (Str.ofString "octets")) eB (by kernel_rfl) (by kernel_rfl) (by kernel_rfl) fun low a_self a_octets => (SS.cons (S1.attr G (by kernel_rfl) (SE.callF G (by kernel_rfl) (by kernel_rfl) (by decide) (s_part_of G X0) (SA.cons (SE.name (by kernel_rfl) (by kernel_rfl)) (SA.cons SE.int (SA.cons SE.int SA.nil rfl) rfl) rfl)) (SE.name (by kernel_rfl) (by kernel_rfl))) fun d1 => (SS.nil () Sub.nil))

noncomputable def cw_ByteMap_init : WF := shut wd_ByteMap_init
theorem s_ByteMap_init {C : Cx} (G : GOK C) (X0 : ExcOK C) : SF C 6 (methOf (Str.ofString "ByteMap") (Str.ofString "__init__")) cw_ByteMap_init := (d_ByteMap_init G X0).shut

noncomputable def wd_ByteMap_find : WF := wf2 false fun low v_self v_code => (sRet (eIf (tCmp2 cLe cLt (eV (.int 0)) (eV v_code) (eV (.int 256))) (eItem iB (eAttr (Str.ofString "glyphs") (eV v_self)) (eV v_code)) (eV (.int 0))))
theorem d_ByteMap_find {C : Cx} (G : GOK C) (X0 : ExcOK C) : SF C 3 (methOf (Str.ofString "ByteMap") (Str.ofString "find")) wd_ByteMap_find := by
  have eB := Eq.refl (methOf (Str.ofString "ByteMap") (Str.ofString "find")).body
  conv at eB => rhs; whnf
  exact SF.of2 (x := (Str.ofString "self")) (y := (Str.ofString "code")) eB (by kernel_rfl) (by kernel_rfl) (by kernel_rfl) fun low a_self a_code => (SS.one (S1.ret (SE.ite (ST.cmp2 cpLe cpLt rfl SE.int (SE.name (by kernel_rfl) (by kernel_rfl)) SE.int) (SE.item itB (SE.attr G (by kernel_rfl) (SE.name (by kernel_rfl) (by kernel_rfl))) (SE.name (by kernel_rfl) (by kernel_rfl))) SE.int)))

noncomputable def cw_ByteMap_find : WF := shut wd_ByteMap_find
theorem s_ByteMap_find {C : Cx} (G : GOK C) (X0 : ExcOK C) : SF C 3 (methOf (Str.ofString "ByteMap") (Str.ofString "find")) cw_ByteMap_find := (d_ByteMap_find G X0).shut
noncomputable def w_TrimmedMap_init_2 (low : Nat) (v_self v_octets : V) : WS (Unit) := (sSeq (sAttr (Str.ofString "glyphs") (eComp (eCallB gRange1 (aCons (eCall cw_u16 (aCons (eV v_octets) (aCons (eV (.int 8)) aNil))) aNil)) sp1 (fun b3 => tT) (fun b3 => (eCall cw_u16 (aCons (eV v_octets) (aCons (eBin fAdd (eV (.int 10)) (eBin fMul (eV (.int 2)) (eV b3))) aNil))))) (eV v_self)) fun b2 => (sEnd ()))
noncomputable def w_TrimmedMap_init_1 (low : Nat) (v_self v_octets : V) : WS (Unit) := (sSeq (sAttr (Str.ofString "first") (eCall cw_u16 (aCons (eV v_octets) (aCons (eV (.int 6)) aNil))) (eV v_self)) fun b1 => (w_TrimmedMap_init_2 low v_self v_octets))
noncomputable def wd_TrimmedMap_init : WF := wf2 false fun low v_self v_octets => (w_TrimmedMap_init_1 low v_self v_octets)
theorem d_TrimmedMap_init {C : Cx} (G : GOK C) (X0 : ExcOK C) : SF C 6 (methOf (Str.ofString "TrimmedMap") (Str.ofString "__init__")) wd_TrimmedMap_init := by
  have eB := Eq.refl (methOf (Str.ofString "TrimmedMap") (Str.ofString "__init__")).body
  conv at eB => rhs; whnf
  exact SF.of2 (x := (Str.ofString "self")) (y := (Str.ofString "octets")) eB (by kernel_rfl) (by kernel_rfl) (by kernel_rfl) fun low a_self a_octets => (SS.cons (S1.attr G (by kernel_rfl) (SE.callF G (by kernel_rfl) (by kernel_rfl) (by decide) (s_u16 G X0) (SA.cons (SE.name (by kernel_rfl) (by kernel_rfl)) (SA.cons SE.int SA.nil rfl) rfl)) (SE.name (by kernel_rfl) (by kernel_rfl))) fun d1 => (SS.cons (S1.attr G (by kernel_rfl) (SE.comp [((Str.ofString "octets"), a_octets)] (by kernel_rfl) rfl (fun _ _ => rfl) (Sub.cons (by kernel_rfl) Sub.nil) (Fr.cons (by kernel_rfl) Fr.nil) (SE.range G biRange1 (by kernel_rfl) (SA.cons (SE.callF G (by kernel_rfl) (by kernel_rfl) (by decide) (s_u16 G X0) (SA.cons (SE.name (by kernel_rfl) (by kernel_rfl)) (SA.cons SE.int SA.nil rfl) rfl)) SA.nil rfl)) (TG.name (by kernel_rfl)) (fun d3 => SI.nil) (fun d3 => (SE.callF G (by kernel_rfl) (by kernel_rfl) (by decide) (s_u16 G X0) (SA.cons (SE.name (by kernel_rfl) (by kernel_rfl)) (SA.cons (SE.bin opAdd SE.int (SE.bin opMul SE.int (SE.name (by kernel_rfl) (by kernel_rfl)))) SA.nil rfl) rfl)))) (SE.name (by kernel_rfl) (by kernel_rfl))) fun d2 => (SS.nil () Sub.nil)))

noncomputable def cw_TrimmedMap_init : WF := shut wd_TrimmedMap_init
theorem s_TrimmedMap_init {C : Cx} (G : GOK C) (X0 : ExcOK C) : SF C 6 (methOf (Str.ofString "TrimmedMap") (Str.ofString "__init__")) cw_TrimmedMap_init := (d_TrimmedMap_init G X0).shut
noncomputable def w_TrimmedMap_find_1 (low : Nat) (v_self v_code : V) : WS (Unit) := (sSeq (sSet (eBin fSub (eV v_code) (eAttr (Str.ofString "first") (eV v_self)))) fun b1 => (sRet (eIf (tCmp2 cLe cLt (eV (.int 0)) (eV b1) (eCallB gLenL (aCons (eAttr (Str.ofString "glyphs") (eV v_self)) aNil))) (eItem iL (eAttr (Str.ofString "glyphs") (eV v_self)) (eV b1)) (eV (.int 0)))))
noncomputable def wd_TrimmedMap_find : WF := wf2 false fun low v_self v_code => (w_TrimmedMap_find_1 low v_self v_code)
theorem d_TrimmedMap_find {C : Cx} (G : GOK C) (X0 : ExcOK C) : SF C 3 (methOf (Str.ofString "TrimmedMap") (Str.ofString "find")) wd_TrimmedMap_find := by
  have eB := Eq.refl (methOf (Str.ofString "TrimmedMap") (Str.ofString "find")).body
  conv at eB => rhs; whnf
  exact SF.of2 (x := (Str.ofString "self")) (y := (Str.ofString "code")) eB (by kernel_rfl) (by kernel_rfl) (by kernel_rfl) fun low a_self a_code => (SS.cons (S1.set (by kernel_rfl) (fun _ => rfl) (SE.bin opSub (SE.name (by kernel_rfl) (by kernel_rfl)) (SE.attr G (by kernel_rfl) (SE.name (by kernel_rfl) (by kernel_rfl))))) fun d1 => (SS.one (S1.ret (SE.ite (ST.cmp2 cpLe cpLt rfl SE.int (SE.name (by kernel_rfl) (by kernel_rfl)) (SE.len G biLenL (by kernel_rfl) (SA.cons (SE.attr G (by kernel_rfl) (SE.name (by kernel_rfl) (by kernel_rfl))) SA.nil rfl))) (SE.item itL (SE.attr G (by kernel_rfl) (SE.name (by kernel_rfl) (by kernel_rfl))) (SE.name (by kernel_rfl) (by kernel_rfl))) SE.int))))

noncomputable def cw_TrimmedMap_find : WF := shut wd_TrimmedMap_find
theorem s_TrimmedMap_find {C : Cx} (G : GOK C) (X0 : ExcOK C) : SF C 3 (methOf (Str.ofString "TrimmedMap") (Str.ofString "find")) cw_TrimmedMap_find := (d_TrimmedMap_find G X0).shut
noncomputable def w_SegmentMap_init_10 (low : Nat) (v_at v_begin v_many v_self v_octets : V) : WS (Unit) := (sIf (tCmp cLe (eItem iL (eAttr (Str.ofString "ends") (eV v_self)) (eV v_at)) (eItem iL (eAttr (Str.ofString "ends") (eV v_self)) (eBin fSub (eV v_at) (eV (.int 1))))) (sRaise (eV (.str (Str.ofString "rows of signs that do not rise")))) (sEnd ()))
noncomputable def w_SegmentMap_init_9 (low : Nat) (v_begin v_many v_self v_octets : V) : WS (Unit) := (sSeq (sFor (eCallB gRange2 (aCons (eV (.int 1)) (aCons (eV v_many) aNil))) (() : Unit) sp1 fun b13 b14 => (w_SegmentMap_init_10 low b14 v_begin v_many v_self v_octets)) fun b13 => (sEnd ()))
noncomputable def w_SegmentMap_init_8 (low : Nat) (v_begin v_many v_self v_octets : V) : WS (Unit) := (sSeq (sAttr (Str.ofString "offsets") (eComp (eCallB gRange1 (aCons (eV v_many) aNil)) sp1 (fun b12 => tT) (fun b12 => (eCall cw_u16 (aCons (eV v_octets) (aCons (eBin fAdd (eAttr (Str.ofString "begin") (eV v_self)) (eBin fMul (eV (.int 2)) (eV b12))) aNil))))) (eV v_self)) fun b11 => (w_SegmentMap_init_9 low v_begin v_many v_self v_octets))
noncomputable def w_SegmentMap_init_7 (low : Nat) (v_begin v_many v_self v_octets : V) : WS (Unit) := (sSeq (sAttr (Str.ofString "begin") (eBin fAdd (eV v_begin) (eBin fMul (eV (.int 4)) (eV v_many))) (eV v_self)) fun b10 => (w_SegmentMap_init_8 low v_begin v_many v_self v_octets))
noncomputable def w_SegmentMap_init_6 (low : Nat) (v_begin v_many v_self v_octets : V) : WS (Unit) := (sSeq (sAttr (Str.ofString "deltas") (eComp (eCallB gRange1 (aCons (eV v_many) aNil)) sp1 (fun b9 => tT) (fun b9 => (eCall cw_u16 (aCons (eV v_octets) (aCons (eBin fAdd (eV v_begin) (eBin fMul (eV (.int 2)) (eBin fAdd (eV v_many) (eV b9)))) aNil))))) (eV v_self)) fun b8 => (w_SegmentMap_init_7 low v_begin v_many v_self v_octets))
noncomputable def w_SegmentMap_init_5 (low : Nat) (v_begin v_many v_self v_octets : V) : WS (Unit) := (sSeq (sAttr (Str.ofString "starts") (eComp (eCallB gRange1 (aCons (eV v_many) aNil)) sp1 (fun b7 => tT) (fun b7 => (eCall cw_u16 (aCons (eV v_octets) (aCons (eBin fAdd (eV v_begin) (eBin fMul (eV (.int 2)) (eV b7))) aNil))))) (eV v_self)) fun b6 => (w_SegmentMap_init_6 low v_begin v_many v_self v_octets))
noncomputable def w_SegmentMap_init_4 (low : Nat) (v_many v_self v_octets : V) : WS (Unit) := (sSeq (sSet (eBin fAdd (eV (.int 16)) (eBin fMul (eV (.int 2)) (eV v_many)))) fun b5 => (w_SegmentMap_init_5 low b5 v_many v_self v_octets))
noncomputable def w_SegmentMap_init_3 (low : Nat) (v_many v_self v_octets : V) : WS (Unit) := (sSeq (sAttr (Str.ofString "ends") (eComp (eCallB gRange1 (aCons (eV v_many) aNil)) sp1 (fun b4 => tT) (fun b4 => (eCall cw_u16 (aCons (eV v_octets) (aCons (eBin fAdd (eV (.int 14)) (eBin fMul (eV (.int 2)) (eV b4))) aNil))))) (eV v_self)) fun b3 => (w_SegmentMap_init_4 low v_many v_self v_octets))
noncomputable def w_SegmentMap_init_2 (low : Nat) (v_self v_octets : V) : WS (Unit) := (sSeq (sSet (eBin fDiv (eCall cw_u16 (aCons (eV v_octets) (aCons (eV (.int 6)) aNil))) (eV (.int 2)))) fun b2 => (w_SegmentMap_init_3 low b2 v_self v_octets))
noncomputable def w_SegmentMap_init_1 (low : Nat) (v_self v_octets : V) : WS (Unit) := (sSeq (sAttr (Str.ofString "octets") (eV v_octets) (eV v_self)) fun b1 => (w_SegmentMap_init_2 low v_self v_octets))
noncomputable def wd_SegmentMap_init : WF := wf2 false fun low v_self v_octets => (w_SegmentMap_init_1 low v_self v_octets)
theorem d_SegmentMap_init {C : Cx} (G : GOK C) (X0 : ExcOK C) : SF C 6 (methOf (Str.ofString "SegmentMap") (Str.ofString "__init__")) wd_SegmentMap_init := by
  have eB := Eq.refl (methOf (Str.ofString "SegmentMap") (Str.ofString "__init__")).body
  conv at eB => rhs; whnf
  exact SF.of2 (x := (Str.ofString "self")) (y := (Str.ofString "octets")) eB (by kernel_rfl) (by kernel_rfl) (by kernel_rfl) fun low a_self a_octets => (SS.cons (S1.attr G (by kernel_rfl) (SE.name (by kernel_rfl) (by kernel_rfl)) (SE.name (by kernel_rfl) (by kernel_rfl))) fun d1 => (SS.cons (S1.setC (by kernel_rfl) (fun _ => rfl) (SE.bin opDiv (SE.callF G (by kernel_rfl) (by kernel_rfl) (by decide) (s_u16 G X0) (SA.cons (SE.name (by kernel_rfl) (by kernel_rfl)) (SA.cons SE.int SA.nil rfl) rfl)) SE.int)) fun d2 => (SS.cons (S1.attr G (by kernel_rfl) (SE.comp [((Str.ofString "octets"), a_octets)] (by kernel_rfl) rfl (fun _ _ => rfl) (Sub.cons (by kernel_rfl) Sub.nil) (Fr.cons (by kernel_rfl) Fr.nil) (SE.range G biRange1 (by kernel_rfl) (SA.cons (SE.name (by kernel_rfl) (by kernel_rfl)) SA.nil rfl)) (TG.name (by kernel_rfl)) (fun d4 => SI.nil) (fun d4 => (SE.callF G (by kernel_rfl) (by kernel_rfl) (by decide) (s_u16 G X0) (SA.cons (SE.name (by kernel_rfl) (by kernel_rfl)) (SA.cons (SE.bin opAdd SE.int (SE.bin opMul SE.int (SE.name (by kernel_rfl) (by kernel_rfl)))) SA.nil rfl) rfl)))) (SE.name (by kernel_rfl) (by kernel_rfl))) fun d3 => (SS.cons (S1.setC (by kernel_rfl) (fun _ => rfl) (SE.bin opAdd SE.int (SE.bin opMul SE.int (SE.name (by kernel_rfl) (by kernel_rfl))))) fun d5 => (SS.cons (S1.attr G (by kernel_rfl) (SE.comp [((Str.ofString "begin"), d5), ((Str.ofString "octets"), a_octets)] (by kernel_rfl) rfl (fun _ _ => rfl) (Sub.cons (by kernel_rfl) (Sub.cons (by kernel_rfl) Sub.nil)) (Fr.cons (by kernel_rfl) (Fr.cons (by kernel_rfl) Fr.nil)) (SE.range G biRange1 (by kernel_rfl) (SA.cons (SE.name (by kernel_rfl) (by kernel_rfl)) SA.nil rfl)) (TG.name (by kernel_rfl)) (fun d7 => SI.nil) (fun d7 => (SE.callF G (by kernel_rfl) (by kernel_rfl) (by decide) (s_u16 G X0) (SA.cons (SE.name (by kernel_rfl) (by kernel_rfl)) (SA.cons (SE.bin opAdd (SE.name (by kernel_rfl) (by kernel_rfl)) (SE.bin opMul SE.int (SE.name (by kernel_rfl) (by kernel_rfl)))) SA.nil rfl) rfl)))) (SE.name (by kernel_rfl) (by kernel_rfl))) fun d6 => (SS.cons (S1.attr G (by kernel_rfl) (SE.comp [((Str.ofString "begin"), d5), ((Str.ofString "many"), d2), ((Str.ofString "octets"), a_octets)] (by kernel_rfl) rfl (fun _ _ => rfl) (Sub.cons (by kernel_rfl) (Sub.cons (by kernel_rfl) (Sub.cons (by kernel_rfl) Sub.nil))) (Fr.cons (by kernel_rfl) (Fr.cons (by kernel_rfl) (Fr.cons (by kernel_rfl) Fr.nil))) (SE.range G biRange1 (by kernel_rfl) (SA.cons (SE.name (by kernel_rfl) (by kernel_rfl)) SA.nil rfl)) (TG.name (by kernel_rfl)) (fun d9 => SI.nil) (fun d9 => (SE.callF G (by kernel_rfl) (by kernel_rfl) (by decide) (s_u16 G X0) (SA.cons (SE.name (by kernel_rfl) (by kernel_rfl)) (SA.cons (SE.bin opAdd (SE.name (by kernel_rfl) (by kernel_rfl)) (SE.bin opMul SE.int (SE.bin opAdd (SE.name (by kernel_rfl) (by kernel_rfl)) (SE.name (by kernel_rfl) (by kernel_rfl))))) SA.nil rfl) rfl)))) (SE.name (by kernel_rfl) (by kernel_rfl))) fun d8 => (SS.cons (S1.attr G (by kernel_rfl) (SE.bin opAdd (SE.name (by kernel_rfl) (by kernel_rfl)) (SE.bin opMul SE.int (SE.name (by kernel_rfl) (by kernel_rfl)))) (SE.name (by kernel_rfl) (by kernel_rfl))) fun d10 => (SS.cons (S1.attr G (by kernel_rfl) (SE.comp [((Str.ofString "self"), a_self), ((Str.ofString "octets"), a_octets)] (by kernel_rfl) rfl (fun _ _ => rfl) (Sub.cons (by kernel_rfl) (Sub.cons (by kernel_rfl) Sub.nil)) (Fr.cons (by kernel_rfl) (Fr.cons (by kernel_rfl) Fr.nil)) (SE.range G biRange1 (by kernel_rfl) (SA.cons (SE.name (by kernel_rfl) (by kernel_rfl)) SA.nil rfl)) (TG.name (by kernel_rfl)) (fun d12 => SI.nil) (fun d12 => (SE.callF G (by kernel_rfl) (by kernel_rfl) (by decide) (s_u16 G X0) (SA.cons (SE.name (by kernel_rfl) (by kernel_rfl)) (SA.cons (SE.bin opAdd (SE.attr G (by kernel_rfl) (SE.name (by kernel_rfl) (by kernel_rfl))) (SE.bin opMul SE.int (SE.name (by kernel_rfl) (by kernel_rfl)))) SA.nil rfl) rfl)))) (SE.name (by kernel_rfl) (by kernel_rfl))) fun d11 => (SS.cons (S1.for (st := fun d13 : Unit => [((Str.ofString "begin"), d5), ((Str.ofString "many"), d2), ((Str.ofString "self"), a_self), ((Str.ofString "octets"), a_octets)]) () (Sub.cons (by kernel_rfl) (Sub.cons (by kernel_rfl) (Sub.cons (by kernel_rfl) (Sub.cons (by kernel_rfl) Sub.nil)))) (SE.range G biRange2 (by kernel_rfl) (SA.cons SE.int (SA.cons (SE.name (by kernel_rfl) (by kernel_rfl)) SA.nil rfl) rfl)) (fun _ _ => rfl) (TG.name (by kernel_rfl)) fun d13 d14 => (SS.one (S1.if (ST.cmp cpLe rfl (SE.item itL (SE.attr G (by kernel_rfl) (SE.name (by kernel_rfl) (by kernel_rfl))) (SE.name (by kernel_rfl) (by kernel_rfl))) (SE.item itL (SE.attr G (by kernel_rfl) (SE.name (by kernel_rfl) (by kernel_rfl))) (SE.bin opSub (SE.name (by kernel_rfl) (by kernel_rfl)) SE.int))) (SS.one (S1.raise X0 (by decide) rfl (by kernel_rfl) SE.str)) (SS.nil () (Sub.cons (by kernel_rfl) (Sub.cons (by kernel_rfl) (Sub.cons (by kernel_rfl) (Sub.cons (by kernel_rfl) Sub.nil)))))))) fun d13 => (SS.nil () Sub.nil))))))))))

noncomputable def cw_SegmentMap_init : WF := shut wd_SegmentMap_init
theorem s_SegmentMap_init {C : Cx} (G : GOK C) (X0 : ExcOK C) : SF C 6 (methOf (Str.ofString "SegmentMap") (Str.ofString "__init__")) cw_SegmentMap_init := (d_SegmentMap_init G X0).shut
noncomputable def w_SegmentMap_find_4 (low : Nat) (v_at v_self v_code : V) : WS (Unit) := (sSeq (sSet (eCall cw_u16 (aCons (eAttr (Str.ofString "octets") (eV v_self)) (aCons (eBin fAdd (eBin fAdd (eBin fAdd (eAttr (Str.ofString "begin") (eV v_self)) (eBin fMul (eV (.int 2)) (eV v_at))) (eItem iL (eAttr (Str.ofString "offsets") (eV v_self)) (eV v_at))) (eBin fMul (eV (.int 2)) (eBin fSub (eV v_code) (eItem iL (eAttr (Str.ofString "starts") (eV v_self)) (eV v_at))))) aNil)))) fun b4 => (sRet (eIf (tCmp cNe (eV b4) (eV (.int 0))) (eBin fMod (eBin fAdd (eV b4) (eItem iL (eAttr (Str.ofString "deltas") (eV v_self)) (eV v_at))) (eV (.int 65536))) (eV (.int 0)))))
noncomputable def w_SegmentMap_find_3 (low : Nat) (v_at v_self v_code : V) : WS (Unit) := (sSeq (sIf (tCmp cEq (eItem iL (eAttr (Str.ofString "offsets") (eV v_self)) (eV v_at)) (eV (.int 0))) (sRet (eBin fMod (eBin fAdd (eV v_code) (eItem iL (eAttr (Str.ofString "deltas") (eV v_self)) (eV v_at))) (eV (.int 65536)))) (sEnd ())) fun _ => (w_SegmentMap_find_4 low v_at v_self v_code))
noncomputable def w_SegmentMap_find_2 (low : Nat) (v_at v_self v_code : V) : WS (Unit) := (sSeq (sIf (tOr (tCmp cEq (eV v_at) (eCallB gLenL (aCons (eAttr (Str.ofString "ends") (eV v_self)) aNil))) (tOr (tCmp cLt (eV v_code) (eItem iL (eAttr (Str.ofString "starts") (eV v_self)) (eV v_at))) (tEnd false))) (sRet (eV (.int 0))) (sEnd ())) fun _ => (w_SegmentMap_find_3 low v_at v_self v_code))
noncomputable def w_SegmentMap_find_1 (low : Nat) (v_self v_code : V) : WS (Unit) := (sSeq (sSet (eCall cw_first_from (aCons (eAttr (Str.ofString "ends") (eV v_self)) (aCons (eV v_code) aNil)))) fun b1 => (w_SegmentMap_find_2 low b1 v_self v_code))
noncomputable def wd_SegmentMap_find : WF := wf2 false fun low v_self v_code => (w_SegmentMap_find_1 low v_self v_code)
theorem d_SegmentMap_find {C : Cx} (G : GOK C) (X0 : ExcOK C) : SF C 6 (methOf (Str.ofString "SegmentMap") (Str.ofString "find")) wd_SegmentMap_find := by
  have eB := Eq.refl (methOf (Str.ofString "SegmentMap") (Str.ofString "find")).body
  conv at eB => rhs; whnf
  exact SF.of2 (x := (Str.ofString "self")) (y := (Str.ofString "code")) eB (by kernel_rfl) (by kernel_rfl) (by kernel_rfl) fun low a_self a_code => (SS.cons (S1.set (by kernel_rfl) (fun _ => rfl) (SE.callF G (by kernel_rfl) (by kernel_rfl) (by decide) (s_first_from G X0) (SA.cons (SE.attr G (by kernel_rfl) (SE.name (by kernel_rfl) (by kernel_rfl))) (SA.cons (SE.name (by kernel_rfl) (by kernel_rfl)) SA.nil rfl) rfl))) fun d1 => (SS.cons (S1.if0 (ST.bool (STs.or (ST.cmp cpEq rfl (SE.name (by kernel_rfl) (by kernel_rfl)) (SE.len G biLenL (by kernel_rfl) (SA.cons (SE.attr G (by kernel_rfl) (SE.name (by kernel_rfl) (by kernel_rfl))) SA.nil rfl))) (STs.or (ST.cmp cpLt rfl (SE.name (by kernel_rfl) (by kernel_rfl)) (SE.item itL (SE.attr G (by kernel_rfl) (SE.name (by kernel_rfl) (by kernel_rfl))) (SE.name (by kernel_rfl) (by kernel_rfl)))) STs.endO))) (SS.one (S1.ret SE.int))) fun _ => (SS.cons (S1.if0 (ST.cmp cpEq rfl (SE.item itL (SE.attr G (by kernel_rfl) (SE.name (by kernel_rfl) (by kernel_rfl))) (SE.name (by kernel_rfl) (by kernel_rfl))) SE.int) (SS.one (S1.ret (SE.bin opMod (SE.bin opAdd (SE.name (by kernel_rfl) (by kernel_rfl)) (SE.item itL (SE.attr G (by kernel_rfl) (SE.name (by kernel_rfl) (by kernel_rfl))) (SE.name (by kernel_rfl) (by kernel_rfl)))) SE.int)))) fun _ => (SS.cons (S1.set (by kernel_rfl) (fun _ => rfl) (SE.callF G (by kernel_rfl) (by kernel_rfl) (by decide) (s_u16 G X0) (SA.cons (SE.attr G (by kernel_rfl) (SE.name (by kernel_rfl) (by kernel_rfl))) (SA.cons (SE.bin opAdd (SE.bin opAdd (SE.bin opAdd (SE.attr G (by kernel_rfl) (SE.name (by kernel_rfl) (by kernel_rfl))) (SE.bin opMul SE.int (SE.name (by kernel_rfl) (by kernel_rfl)))) (SE.item itL (SE.attr G (by kernel_rfl) (SE.name (by kernel_rfl) (by kernel_rfl))) (SE.name (by kernel_rfl) (by kernel_rfl)))) (SE.bin opMul SE.int (SE.bin opSub (SE.name (by kernel_rfl) (by kernel_rfl)) (SE.item itL (SE.attr G (by kernel_rfl) (SE.name (by kernel_rfl) (by kernel_rfl))) (SE.name (by kernel_rfl) (by kernel_rfl)))))) SA.nil rfl) rfl))) fun d4 => (SS.one (S1.ret (SE.ite (ST.cmp cpNe rfl (SE.name (by kernel_rfl) (by kernel_rfl)) SE.int) (SE.bin opMod (SE.bin opAdd (SE.name (by kernel_rfl) (by kernel_rfl)) (SE.item itL (SE.attr G (by kernel_rfl) (SE.name (by kernel_rfl) (by kernel_rfl))) (SE.name (by kernel_rfl) (by kernel_rfl)))) SE.int) SE.int)))))))

noncomputable def cw_SegmentMap_find : WF := shut wd_SegmentMap_find
theorem s_SegmentMap_find {C : Cx} (G : GOK C) (X0 : ExcOK C) : SF C 6 (methOf (Str.ofString "SegmentMap") (Str.ofString "find")) cw_SegmentMap_find := (d_SegmentMap_find G X0).shut
noncomputable def w_GroupMap_init_7 (low : Nat) (v_at v_many v_self v_octets : V) : WS (Unit) := (sIf (tOr (tCmp cLt (eItem iL (eAttr (Str.ofString "ends") (eV v_self)) (eV v_at)) (eItem iL (eAttr (Str.ofString "starts") (eV v_self)) (eV v_at))) (tOr (tAnd (tCmp cGt (eV v_at) (eV (.int 0))) (tAnd (tCmp cLe (eItem iL (eAttr (Str.ofString "starts") (eV v_self)) (eV v_at)) (eItem iL (eAttr (Str.ofString "ends") (eV v_self)) (eBin fSub (eV v_at) (eV (.int 1))))) (tEnd true))) (tEnd false))) (sRaise (eV (.str (Str.ofString "rows of signs that do not rise")))) (sEnd ()))
noncomputable def w_GroupMap_init_6 (low : Nat) (v_many v_self v_octets : V) : WS (Unit) := (sSeq (sFor (eCallB gRange1 (aCons (eV v_many) aNil)) (() : Unit) sp1 fun b9 b10 => (w_GroupMap_init_7 low b10 v_many v_self v_octets)) fun b9 => (sEnd ()))
noncomputable def w_GroupMap_init_5 (low : Nat) (v_many v_self v_octets : V) : WS (Unit) := (sSeq (sAttr (Str.ofString "glyphs") (eComp (eCallB gRange1 (aCons (eV v_many) aNil)) sp1 (fun b8 => tT) (fun b8 => (eCall cw_u32 (aCons (eV v_octets) (aCons (eBin fAdd (eV (.int 24)) (eBin fMul (eV (.int 12)) (eV b8))) aNil))))) (eV v_self)) fun b7 => (w_GroupMap_init_6 low v_many v_self v_octets))
noncomputable def w_GroupMap_init_4 (low : Nat) (v_many v_self v_octets : V) : WS (Unit) := (sSeq (sAttr (Str.ofString "ends") (eComp (eCallB gRange1 (aCons (eV v_many) aNil)) sp1 (fun b6 => tT) (fun b6 => (eCall cw_u32 (aCons (eV v_octets) (aCons (eBin fAdd (eV (.int 20)) (eBin fMul (eV (.int 12)) (eV b6))) aNil))))) (eV v_self)) fun b5 => (w_GroupMap_init_5 low v_many v_self v_octets))
noncomputable def w_GroupMap_init_3 (low : Nat) (v_many v_self v_octets : V) : WS (Unit) := (sSeq (sAttr (Str.ofString "starts") (eComp (eCallB gRange1 (aCons (eV v_many) aNil)) sp1 (fun b4 => tT) (fun b4 => (eCall cw_u32 (aCons (eV v_octets) (aCons (eBin fAdd (eV (.int 16)) (eBin fMul (eV (.int 12)) (eV b4))) aNil))))) (eV v_self)) fun b3 => (w_GroupMap_init_4 low v_many v_self v_octets))
noncomputable def w_GroupMap_init_2 (low : Nat) (v_many v_self v_octets : V) : WS (Unit) := (sSeq (sIf (tCmp cGt (eBin fAdd (eV (.int 16)) (eBin fMul (eV (.int 12)) (eV v_many))) (eCallB gLenB (aCons (eV v_octets) aNil))) (sRaise (eV (.str (Str.ofString "cmap ends too early")))) (sEnd ())) fun _ => (w_GroupMap_init_3 low v_many v_self v_octets))
noncomputable def w_GroupMap_init_1 (low : Nat) (v_self v_octets : V) : WS (Unit) := (sSeq (sSet (eCall cw_u32 (aCons (eV v_octets) (aCons (eV (.int 12)) aNil)))) fun b1 => (w_GroupMap_init_2 low b1 v_self v_octets))
noncomputable def wd_GroupMap_init : WF := wf2 false fun low v_self v_octets => (w_GroupMap_init_1 low v_self v_octets)
theorem d_GroupMap_init {C : Cx} (G : GOK C) (X0 : ExcOK C) : SF C 9 (methOf (Str.ofString "GroupMap") (Str.ofString "__init__")) wd_GroupMap_init := by
  have eB := Eq.refl (methOf (Str.ofString "GroupMap") (Str.ofString "__init__")).body
  conv at eB => rhs; whnf
  exact SF.of2 (x := (Str.ofString "self")) (y := (Str.ofString "octets")) eB (by kernel_rfl) (by kernel_rfl) (by kernel_rfl) fun low a_self a_octets => (SS.cons (S1.set (by kernel_rfl) (fun _ => rfl) (SE.callF G (by kernel_rfl) (by kernel_rfl) (by decide) (s_u32 G X0) (SA.cons (SE.name (by kernel_rfl) (by kernel_rfl)) (SA.cons SE.int SA.nil rfl) rfl))) fun d1 => (SS.cons (S1.if0 (ST.cmp cpGt rfl (SE.bin opAdd SE.int (SE.bin opMul SE.int (SE.name (by kernel_rfl) (by kernel_rfl)))) (SE.len G biLenB (by kernel_rfl) (SA.cons (SE.name (by kernel_rfl) (by kernel_rfl)) SA.nil rfl))) (SS.one (S1.raise X0 (by decide) rfl (by kernel_rfl) SE.str))) fun _ => (SS.cons (S1.attr G (by kernel_rfl) (SE.comp [((Str.ofString "octets"), a_octets)] (by kernel_rfl) rfl (fun _ _ => rfl) (Sub.cons (by kernel_rfl) Sub.nil) (Fr.cons (by kernel_rfl) Fr.nil) (SE.range G biRange1 (by kernel_rfl) (SA.cons (SE.name (by kernel_rfl) (by kernel_rfl)) SA.nil rfl)) (TG.name (by kernel_rfl)) (fun d4 => SI.nil) (fun d4 => (SE.callF G (by kernel_rfl) (by kernel_rfl) (by decide) (s_u32 G X0) (SA.cons (SE.name (by kernel_rfl) (by kernel_rfl)) (SA.cons (SE.bin opAdd SE.int (SE.bin opMul SE.int (SE.name (by kernel_rfl) (by kernel_rfl)))) SA.nil rfl) rfl)))) (SE.name (by kernel_rfl) (by kernel_rfl))) fun d3 => (SS.cons (S1.attr G (by kernel_rfl) (SE.comp [((Str.ofString "octets"), a_octets)] (by kernel_rfl) rfl (fun _ _ => rfl) (Sub.cons (by kernel_rfl) Sub.nil) (Fr.cons (by kernel_rfl) Fr.nil) (SE.range G biRange1 (by kernel_rfl) (SA.cons (SE.name (by kernel_rfl) (by kernel_rfl)) SA.nil rfl)) (TG.name (by kernel_rfl)) (fun d6 => SI.nil) (fun d6 => (SE.callF G (by kernel_rfl) (by kernel_rfl) (by decide) (s_u32 G X0) (SA.cons (SE.name (by kernel_rfl) (by kernel_rfl)) (SA.cons (SE.bin opAdd SE.int (SE.bin opMul SE.int (SE.name (by kernel_rfl) (by kernel_rfl)))) SA.nil rfl) rfl)))) (SE.name (by kernel_rfl) (by kernel_rfl))) fun d5 => (SS.cons (S1.attr G (by kernel_rfl) (SE.comp [((Str.ofString "octets"), a_octets)] (by kernel_rfl) rfl (fun _ _ => rfl) (Sub.cons (by kernel_rfl) Sub.nil) (Fr.cons (by kernel_rfl) Fr.nil) (SE.range G biRange1 (by kernel_rfl) (SA.cons (SE.name (by kernel_rfl) (by kernel_rfl)) SA.nil rfl)) (TG.name (by kernel_rfl)) (fun d8 => SI.nil) (fun d8 => (SE.callF G (by kernel_rfl) (by kernel_rfl) (by decide) (s_u32 G X0) (SA.cons (SE.name (by kernel_rfl) (by kernel_rfl)) (SA.cons (SE.bin opAdd SE.int (SE.bin opMul SE.int (SE.name (by kernel_rfl) (by kernel_rfl)))) SA.nil rfl) rfl)))) (SE.name (by kernel_rfl) (by kernel_rfl))) fun d7 => (SS.cons (S1.for (st := fun d9 : Unit => [((Str.ofString "many"), d1), ((Str.ofString "self"), a_self), ((Str.ofString "octets"), a_octets)]) () (Sub.cons (by kernel_rfl) (Sub.cons (by kernel_rfl) (Sub.cons (by kernel_rfl) Sub.nil))) (SE.range G biRange1 (by kernel_rfl) (SA.cons (SE.name (by kernel_rfl) (by kernel_rfl)) SA.nil rfl)) (fun _ _ => rfl) (TG.name (by kernel_rfl)) fun d9 d10 => (SS.one (S1.if (ST.bool (STs.or (ST.cmp cpLt rfl (SE.item itL (SE.attr G (by kernel_rfl) (SE.name (by kernel_rfl) (by kernel_rfl))) (SE.name (by kernel_rfl) (by kernel_rfl))) (SE.item itL (SE.attr G (by kernel_rfl) (SE.name (by kernel_rfl) (by kernel_rfl))) (SE.name (by kernel_rfl) (by kernel_rfl)))) (STs.or (ST.bool (STs.and (ST.cmp cpGt rfl (SE.name (by kernel_rfl) (by kernel_rfl)) SE.int) (STs.and (ST.cmp cpLe rfl (SE.item itL (SE.attr G (by kernel_rfl) (SE.name (by kernel_rfl) (by kernel_rfl))) (SE.name (by kernel_rfl) (by kernel_rfl))) (SE.item itL (SE.attr G (by kernel_rfl) (SE.name (by kernel_rfl) (by kernel_rfl))) (SE.bin opSub (SE.name (by kernel_rfl) (by kernel_rfl)) SE.int))) STs.endA))) STs.endO))) (SS.one (S1.raise X0 (by decide) rfl (by kernel_rfl) SE.str)) (SS.nil () (Sub.cons (by kernel_rfl) (Sub.cons (by kernel_rfl) (Sub.cons (by kernel_rfl) Sub.nil))))))) fun d9 => (SS.nil () Sub.nil)))))))

noncomputable def cw_GroupMap_init : WF := shut wd_GroupMap_init
theorem s_GroupMap_init {C : Cx} (G : GOK C) (X0 : ExcOK C) : SF C 9 (methOf (Str.ofString "GroupMap") (Str.ofString "__init__")) cw_GroupMap_init := (d_GroupMap_init G X0).shut
noncomputable def w_GroupMap_find_2 (low : Nat) (v_at v_self v_code : V) : WS (Unit) := (sSeq (sIf (tOr (tCmp cEq (eV v_at) (eCallB gLenL (aCons (eAttr (Str.ofString "ends") (eV v_self)) aNil))) (tOr (tCmp cLt (eV v_code) (eItem iL (eAttr (Str.ofString "starts") (eV v_self)) (eV v_at))) (tEnd false))) (sRet (eV (.int 0))) (sEnd ())) fun _ => (sRet (eBin fSub (eBin fAdd (eItem iL (eAttr (Str.ofString "glyphs") (eV v_self)) (eV v_at)) (eV v_code)) (eItem iL (eAttr (Str.ofString "starts") (eV v_self)) (eV v_at)))))
noncomputable def w_GroupMap_find_1 (low : Nat) (v_self v_code : V) : WS (Unit) := (sSeq (sSet (eCall cw_first_from (aCons (eAttr (Str.ofString "ends") (eV v_self)) (aCons (eV v_code) aNil)))) fun b1 => (w_GroupMap_find_2 low b1 v_self v_code))
noncomputable def wd_GroupMap_find : WF := wf2 false fun low v_self v_code => (w_GroupMap_find_1 low v_self v_code)
theorem d_GroupMap_find {C : Cx} (G : GOK C) (X0 : ExcOK C) : SF C 6 (methOf (Str.ofString "GroupMap") (Str.ofString "find")) wd_GroupMap_find := by
  have eB := Eq.refl (methOf (Str.ofString "GroupMap") (Str.ofString "find")).body
  conv at eB => rhs; whnf
  exact SF.of2 (x := (Str.ofString "self")) (y := (Str.ofString "code")) eB (by kernel_rfl) (by kernel_rfl) (by kernel_rfl) fun low a_self a_code => (SS.cons (S1.set (by kernel_rfl) (fun _ => rfl) (SE.callF G (by kernel_rfl) (by kernel_rfl) (by decide) (s_first_from G X0) (SA.cons (SE.attr G (by kernel_rfl) (SE.name (by kernel_rfl) (by kernel_rfl))) (SA.cons (SE.name (by kernel_rfl) (by kernel_rfl)) SA.nil rfl) rfl))) fun d1 => (SS.cons (S1.if0 (ST.bool (STs.or (ST.cmp cpEq rfl (SE.name (by kernel_rfl) (by kernel_rfl)) (SE.len G biLenL (by kernel_rfl) (SA.cons (SE.attr G (by kernel_rfl) (SE.name (by kernel_rfl) (by kernel_rfl))) SA.nil rfl))) (STs.or (ST.cmp cpLt rfl (SE.name (by kernel_rfl) (by kernel_rfl)) (SE.item itL (SE.attr G (by kernel_rfl) (SE.name (by kernel_rfl) (by kernel_rfl))) (SE.name (by kernel_rfl) (by kernel_rfl)))) STs.endO))) (SS.one (S1.ret SE.int))) fun _ => (SS.one (S1.ret (SE.bin opSub (SE.bin opAdd (SE.item itL (SE.attr G (by kernel_rfl) (SE.name (by kernel_rfl) (by kernel_rfl))) (SE.name (by kernel_rfl) (by kernel_rfl))) (SE.name (by kernel_rfl) (by kernel_rfl))) (SE.item itL (SE.attr G (by kernel_rfl) (SE.name (by kernel_rfl) (by kernel_rfl))) (SE.name (by kernel_rfl) (by kernel_rfl))))))))

noncomputable def cw_GroupMap_find : WF := shut wd_GroupMap_find
theorem s_GroupMap_find {C : Cx} (G : GOK C) (X0 : ExcOK C) : SF C 6 (methOf (Str.ofString "GroupMap") (Str.ofString "find")) cw_GroupMap_find := (d_GroupMap_find G X0).shut
noncomputable def w_read_map_5 (low : Nat) (v_form v_octets : V) : WS (Unit) := (sSeq (sIf (tCmp cEq (eV v_form) (eV (.int 12))) (sRet (eMake (Str.ofString "GroupMap") cw_GroupMap_init (aCons (eV v_octets) aNil))) (sEnd ())) fun _ => (sRaise (eBin fAddS (eV (.str (Str.ofString "a map of signs of no known format: "))) (eCallB gStr (aCons (eV v_form) aNil)))))
noncomputable def w_read_map_4 (low : Nat) (v_form v_octets : V) : WS (Unit) := (sSeq (sIf (tCmp cEq (eV v_form) (eV (.int 6))) (sRet (eMake (Str.ofString "TrimmedMap") cw_TrimmedMap_init (aCons (eV v_octets) aNil))) (sEnd ())) fun _ => (w_read_map_5 low v_form v_octets))
noncomputable def w_read_map_3 (low : Nat) (v_form v_octets : V) : WS (Unit) := (sSeq (sIf (tCmp cEq (eV v_form) (eV (.int 4))) (sRet (eMake (Str.ofString "SegmentMap") cw_SegmentMap_init (aCons (eV v_octets) aNil))) (sEnd ())) fun _ => (w_read_map_4 low v_form v_octets))
noncomputable def w_read_map_2 (low : Nat) (v_form v_octets : V) : WS (Unit) := (sSeq (sIf (tCmp cEq (eV v_form) (eV (.int 0))) (sRet (eMake (Str.ofString "ByteMap") cw_ByteMap_init (aCons (eV v_octets) aNil))) (sEnd ())) fun _ => (w_read_map_3 low v_form v_octets))
noncomputable def w_read_map_1 (low : Nat) (v_octets : V) : WS (Unit) := (sSeq (sSet (eCall cw_u16 (aCons (eV v_octets) (aCons (eV (.int 0)) aNil)))) fun b1 => (w_read_map_2 low b1 v_octets))
noncomputable def wd_read_map : WF := wf1 false fun low v_octets => (w_read_map_1 low v_octets)
theorem d_read_map {C : Cx} (G : GOK C) (X0 : ExcOK C) : SF C 12 (defOf (Str.ofString "read_map")) wd_read_map := by
  have eB := Eq.refl (defOf (Str.ofString "read_map")).body
  conv at eB => rhs; whnf
  exact SF.of1 (x := (Str.ofString "octets")) eB (by kernel_rfl) (by kernel_rfl) (by kernel_rfl) fun low a_octets => (SS.cons (S1.set (by kernel_rfl) (fun _ => rfl) (SE.callF G (by kernel_rfl) (by kernel_rfl) (by decide) (s_u16 G X0) (SA.cons (SE.name (by kernel_rfl) (by kernel_rfl)) (SA.cons SE.int SA.nil rfl) rfl))) fun d1 => (SS.cons (S1.if0 (ST.cmp cpEq rfl (SE.name (by kernel_rfl) (by kernel_rfl)) SE.int) (SS.one (S1.ret (SE.make G (by kernel_rfl) (by kernel_rfl) (by decide) (s_ByteMap_init G X0) (SA.cons (SE.name (by kernel_rfl) (by kernel_rfl)) SA.nil rfl))))) fun _ => (SS.cons (S1.if0 (ST.cmp cpEq rfl (SE.name (by kernel_rfl) (by kernel_rfl)) SE.int) (SS.one (S1.ret (SE.make G (by kernel_rfl) (by kernel_rfl) (by decide) (s_SegmentMap_init G X0) (SA.cons (SE.name (by kernel_rfl) (by kernel_rfl)) SA.nil rfl))))) fun _ => (SS.cons (S1.if0 (ST.cmp cpEq rfl (SE.name (by kernel_rfl) (by kernel_rfl)) SE.int) (SS.one (S1.ret (SE.make G (by kernel_rfl) (by kernel_rfl) (by decide) (s_TrimmedMap_init G X0) (SA.cons (SE.name (by kernel_rfl) (by kernel_rfl)) SA.nil rfl))))) fun _ => (SS.cons (S1.if0 (ST.cmp cpEq rfl (SE.name (by kernel_rfl) (by kernel_rfl)) SE.int) (SS.one (S1.ret (SE.make G (by kernel_rfl) (by kernel_rfl) (by decide) (s_GroupMap_init G X0) (SA.cons (SE.name (by kernel_rfl) (by kernel_rfl)) SA.nil rfl))))) fun _ => (SS.one (S1.raise X0 (by decide) rfl (by kernel_rfl) (SE.bin opAddS SE.str (SE.cstr G biStr (by kernel_rfl) (SA.cons (SE.name (by kernel_rfl) (by kernel_rfl)) SA.nil rfl))))))))))

noncomputable def cw_read_map : WF := shut wd_read_map
theorem s_read_map {C : Cx} (G : GOK C) (X0 : ExcOK C) : SF C 12 (defOf (Str.ofString "read_map")) cw_read_map := (d_read_map G X0).shut

noncomputable def wd_read_rows : WF := wf1 false fun low v_octets => (sRet (eComp (eCallB gRange1 (aCons (eCall cw_u16 (aCons (eV v_octets) (aCons (eV (.int 2)) aNil))) aNil)) sp1 (fun b1 => tT) (fun b1 => (eTup (aCons (eCall cw_u16 (aCons (eV v_octets) (aCons (eBin fAdd (eV (.int 4)) (eBin fMul (eV (.int 8)) (eV b1))) aNil))) (aCons (eCall cw_u16 (aCons (eV v_octets) (aCons (eBin fAdd (eV (.int 6)) (eBin fMul (eV (.int 8)) (eV b1))) aNil))) (aCons (eCall cw_u32 (aCons (eV v_octets) (aCons (eBin fAdd (eV (.int 8)) (eBin fMul (eV (.int 8)) (eV b1))) aNil))) aNil)))))))
theorem d_read_rows {C : Cx} (G : GOK C) (X0 : ExcOK C) : SF C 9 (defOf (Str.ofString "read_rows")) wd_read_rows := by
  have eB := Eq.refl (defOf (Str.ofString "read_rows")).body
  conv at eB => rhs; whnf
  exact SF.of1 (x := (Str.ofString "octets")) eB (by kernel_rfl) (by kernel_rfl) (by kernel_rfl) fun low a_octets => (SS.one (S1.ret (SE.comp [((Str.ofString "octets"), a_octets)] (by kernel_rfl) rfl (fun _ _ => rfl) (Sub.cons (by kernel_rfl) Sub.nil) (Fr.cons (by kernel_rfl) Fr.nil) (SE.range G biRange1 (by kernel_rfl) (SA.cons (SE.callF G (by kernel_rfl) (by kernel_rfl) (by decide) (s_u16 G X0) (SA.cons (SE.name (by kernel_rfl) (by kernel_rfl)) (SA.cons SE.int SA.nil rfl) rfl)) SA.nil rfl)) (TG.name (by kernel_rfl)) (fun d1 => SI.nil) (fun d1 => (SE.tup (SA.cons (SE.callF G (by kernel_rfl) (by kernel_rfl) (by decide) (s_u16 G X0) (SA.cons (SE.name (by kernel_rfl) (by kernel_rfl)) (SA.cons (SE.bin opAdd SE.int (SE.bin opMul SE.int (SE.name (by kernel_rfl) (by kernel_rfl)))) SA.nil rfl) rfl)) (SA.cons (SE.callF G (by kernel_rfl) (by kernel_rfl) (by decide) (s_u16 G X0) (SA.cons (SE.name (by kernel_rfl) (by kernel_rfl)) (SA.cons (SE.bin opAdd SE.int (SE.bin opMul SE.int (SE.name (by kernel_rfl) (by kernel_rfl)))) SA.nil rfl) rfl)) (SA.cons (SE.callF G (by kernel_rfl) (by kernel_rfl) (by decide) (s_u32 G X0) (SA.cons (SE.name (by kernel_rfl) (by kernel_rfl)) (SA.cons (SE.bin opAdd SE.int (SE.bin opMul SE.int (SE.name (by kernel_rfl) (by kernel_rfl)))) SA.nil rfl) rfl)) SA.nil rfl) rfl) rfl))))))

noncomputable def cw_read_rows : WF := shut wd_read_rows
theorem s_read_rows {C : Cx} (G : GOK C) (X0 : ExcOK C) : SF C 9 (defOf (Str.ofString "read_rows")) cw_read_rows := (d_read_rows G X0).shut
noncomputable def w_read_cmap_5 (low : Nat) (v_platform v_encoding v_place v_best v_rows v_octets : V) : WS (Unit) := (sIf (tCmp cEqT (eTup (aCons (eV v_platform) (aCons (eV v_encoding) aNil))) (eV v_best)) (sRet (eCall cw_read_map (aCons (eCall cw_part_of (aCons (eV v_octets) (aCons (eV v_place) (aCons (eBin fSub (eCallB gLenB (aCons (eV v_octets) aNil)) (eV v_place)) aNil)))) aNil))) (sEnd ()))
noncomputable def w_read_cmap_4 (low : Nat) (v_best v_rows v_octets : V) : WS (Unit) := (sSeq (sFor (eV v_rows) (() : Unit) sp3 fun b5 b6 => (w_read_cmap_5 low b6.1 b6.2.1 b6.2.2 v_best v_rows v_octets)) fun b5 => (sEnd ()))
noncomputable def w_read_cmap_3 (low : Nat) (v_rows v_octets : V) : WS (Unit) := (sSeq (sFor (eV bestV) (() : Unit) sp1 fun b3 b4 => (w_read_cmap_4 low b4 v_rows v_octets)) fun b3 => (sRet (eCall cw_read_map (aCons (eCall cw_part_of (aCons (eV v_octets) (aCons (eItem iT (eItem iL (eV v_rows) (eV (.int 0))) (eV (.int 2))) (aCons (eBin fSub (eCallB gLenB (aCons (eV v_octets) aNil)) (eItem iT (eItem iL (eV v_rows) (eV (.int 0))) (eV (.int 2)))) aNil)))) aNil))))
noncomputable def w_read_cmap_2 (low : Nat) (v_rows v_octets : V) : WS (Unit) := (sSeq (sIf (tCmp cEq0 (eV v_rows) (eList aNil)) (sRaise (eV (.str (Str.ofString "a font without a map of signs")))) (sEnd ())) fun _ => (w_read_cmap_3 low v_rows v_octets))
noncomputable def w_read_cmap_1 (low : Nat) (v_octets : V) : WS (Unit) := (sSeq (sSet (eCall cw_read_rows (aCons (eV v_octets) aNil))) fun b1 => (w_read_cmap_2 low b1 v_octets))
noncomputable def wd_read_cmap : WF := wf1 false fun low v_octets => (w_read_cmap_1 low v_octets)
theorem d_read_cmap {C : Cx} (G : GOK C) (X0 : ExcOK C) : SF C 15 (defOf (Str.ofString "read_cmap")) wd_read_cmap := by
  have eB := Eq.refl (defOf (Str.ofString "read_cmap")).body
  conv at eB => rhs; whnf
  exact SF.of1 (x := (Str.ofString "octets")) eB (by kernel_rfl) (by kernel_rfl) (by kernel_rfl) fun low a_octets => (SS.cons (S1.set (by kernel_rfl) (fun _ => rfl) (SE.callF G (by kernel_rfl) (by kernel_rfl) (by decide) (s_read_rows G X0) (SA.cons (SE.name (by kernel_rfl) (by kernel_rfl)) SA.nil rfl))) fun d1 => (SS.cons (S1.if0 (ST.cmp cpEq0 rfl (SE.name (by kernel_rfl) (by kernel_rfl)) (SE.list SA.nil)) (SS.one (S1.raise X0 (by decide) rfl (by kernel_rfl) SE.str))) fun _ => (SS.cons (S1.for (st := fun d3 : Unit => [((Str.ofString "rows"), d1), ((Str.ofString "octets"), a_octets)]) () (Sub.cons (by kernel_rfl) (Sub.cons (by kernel_rfl) Sub.nil)) (SE.best G (by kernel_rfl)) (fun _ _ => rfl) (TG.name (by kernel_rfl)) fun d3 d4 => (SS.cons (S1.for (st := fun d5 : Unit => [((Str.ofString "best"), d4), ((Str.ofString "rows"), d1), ((Str.ofString "octets"), a_octets)]) () (Sub.cons (by kernel_rfl) (Sub.cons (by kernel_rfl) (Sub.cons (by kernel_rfl) Sub.nil))) (SE.name (by kernel_rfl) (by kernel_rfl)) (fun _ _ => rfl) (TG.three (by kernel_rfl) (by kernel_rfl) (by kernel_rfl)) fun d5 d6 => (SS.one (S1.if (ST.cmp cpEqT rfl (SE.tup (SA.cons (SE.name (by kernel_rfl) (by kernel_rfl)) (SA.cons (SE.name (by kernel_rfl) (by kernel_rfl)) SA.nil rfl) rfl)) (SE.name (by kernel_rfl) (by kernel_rfl))) (SS.one (S1.ret (SE.callF G (by kernel_rfl) (by kernel_rfl) (by decide) (s_read_map G X0) (SA.cons (SE.callF G (by kernel_rfl) (by kernel_rfl) (by decide) (s_part_of G X0) (SA.cons (SE.name (by kernel_rfl) (by kernel_rfl)) (SA.cons (SE.name (by kernel_rfl) (by kernel_rfl)) (SA.cons (SE.bin opSub (SE.len G biLenB (by kernel_rfl) (SA.cons (SE.name (by kernel_rfl) (by kernel_rfl)) SA.nil rfl)) (SE.name (by kernel_rfl) (by kernel_rfl))) SA.nil rfl) rfl) rfl)) SA.nil rfl)))) (SS.nil () (Sub.cons (by kernel_rfl) (Sub.cons (by kernel_rfl) (Sub.cons (by kernel_rfl) Sub.nil))))))) fun d5 => (SS.nil () (Sub.cons (by kernel_rfl) (Sub.cons (by kernel_rfl) Sub.nil))))) fun d3 => (SS.one (S1.ret (SE.callF G (by kernel_rfl) (by kernel_rfl) (by decide) (s_read_map G X0) (SA.cons (SE.callF G (by kernel_rfl) (by kernel_rfl) (by decide) (s_part_of G X0) (SA.cons (SE.name (by kernel_rfl) (by kernel_rfl)) (SA.cons (SE.item itT (SE.item itL (SE.name (by kernel_rfl) (by kernel_rfl)) SE.int) SE.int) (SA.cons (SE.bin opSub (SE.len G biLenB (by kernel_rfl) (SA.cons (SE.name (by kernel_rfl) (by kernel_rfl)) SA.nil rfl)) (SE.item itT (SE.item itL (SE.name (by kernel_rfl) (by kernel_rfl)) SE.int) SE.int)) SA.nil rfl) rfl) rfl)) SA.nil rfl)))))))

noncomputable def cw_read_cmap : WF := shut wd_read_cmap
theorem s_read_cmap {C : Cx} (G : GOK C) (X0 : ExcOK C) : SF C 15 (defOf (Str.ofString "read_cmap")) cw_read_cmap := (d_read_cmap G X0).shut
noncomputable def w_write_format_0_1 (low : Nat) (v_codes : V) : WS (Unit) := (sSeq (sSet (eComp (eCallB gRange1 (aCons (eV (.int 256)) aNil)) sp1 (fun b2 => tT) (fun b2 => (eGet (eV v_codes) (aCons (eV b2) (aCons (eV (.int 0)) aNil)))))) fun b1 => (sRet (eBin fAddB (eBin fAddB (eBin fAddB (eCall cw_put16 (aCons (eV (.int 0)) aNil)) (eCall cw_put16 (aCons (eV (.int 262)) aNil))) (eCall cw_put16 (aCons (eV (.int 0)) aNil))) (eCallB gBytesL (aCons (eComp (eV b1) sp1 (fun b3 => tT) (fun b3 => (eIf (tCmp cLt (eV b3) (eV (.int 256))) (eV b3) (eV (.int 0))))) aNil)))))
noncomputable def wd_write_format_0 : WF := wf1 false fun low v_codes => (w_write_format_0_1 low v_codes)
theorem d_write_format_0 {C : Cx} (G : GOK C) (X0 : ExcOK C) : SF C 6 (defOf (Str.ofString "write_format_0")) wd_write_format_0 := by
  have eB := Eq.refl (defOf (Str.ofString "write_format_0")).body
  conv at eB => rhs; whnf
  exact SF.of1 (x := (Str.ofString "codes")) eB (by kernel_rfl) (by kernel_rfl) (by kernel_rfl) fun low a_codes => (SS.cons (S1.comp [((Str.ofString "codes"), a_codes)] (by kernel_rfl) (fun _ h1 h2 => swaps_used h1 h2 (by kernel_rfl)) (by kernel_rfl) rfl (fun _ _ => rfl) (Sub.cons (by kernel_rfl) Sub.nil) (Fr.cons (by kernel_rfl) Fr.nil) (SE.range G biRange1 (by kernel_rfl) (SA.cons SE.int SA.nil rfl)) (TG.name (by kernel_rfl)) (fun d2 => SI.nil) (fun d2 => (SE.get (fun {_} => rfl) rfl (by decide) (SE.name (by kernel_rfl) (by kernel_rfl)) (SA.cons (SE.name (by kernel_rfl) (by kernel_rfl)) (SA.cons SE.int SA.nil rfl) rfl)))) fun d1 => (SS.one (S1.ret (SE.bin opAddB (SE.bin opAddB (SE.bin opAddB (SE.callF G (by kernel_rfl) (by kernel_rfl) (by decide) (s_put16 G X0) (SA.cons SE.int SA.nil rfl)) (SE.callF G (by kernel_rfl) (by kernel_rfl) (by decide) (s_put16 G X0) (SA.cons SE.int SA.nil rfl))) (SE.callF G (by kernel_rfl) (by kernel_rfl) (by decide) (s_put16 G X0) (SA.cons SE.int SA.nil rfl))) (SE.cbytes G biBytesL (by kernel_rfl) (SA.cons (SE.comp [] (by kernel_rfl) rfl (fun _ _ => rfl) Sub.nil Fr.nil (SE.name (by kernel_rfl) (by kernel_rfl)) (TG.name (by kernel_rfl)) (fun d3 => SI.nil) (fun d3 => (SE.ite (ST.cmp cpLt rfl (SE.name (by kernel_rfl) (by kernel_rfl)) SE.int) (SE.name (by kernel_rfl) (by kernel_rfl)) SE.int))) SA.nil rfl))))))

noncomputable def cw_write_format_0 : WF := shut wd_write_format_0
theorem s_write_format_0 {C : Cx} (G : GOK C) (X0 : ExcOK C) : SF C 6 (defOf (Str.ofString "write_format_0")) cw_write_format_0 := (d_write_format_0 G X0).shut
noncomputable def w_write_format_6_6 (low : Nat) (v_code v_found v_last v_first v_known v_codes : V) : WS (V) := (sSeq (sSet (eBin fAddB (eV v_found) (eCall cw_put16 (aCons (eGet (eV v_codes) (aCons (eV v_code) (aCons (eV (.int 0)) aNil))) aNil)))) fun b7 => (sEnd b7))
noncomputable def w_write_format_6_5 (low : Nat) (v_found v_last v_first v_known v_codes : V) : WS (Unit) := (sSeq (sFor (eCallB gRange2 (aCons (eV v_first) (aCons (eBin fAdd (eV v_last) (eV (.int 1))) aNil))) (v_found : V) sp1 fun b5 b6 => (w_write_format_6_6 low b6 b5 v_last v_first v_known v_codes)) fun b5 => (sRet (eBin fAddB (eBin fAddB (eBin fAddB (eBin fAddB (eBin fAddB (eCall cw_put16 (aCons (eV (.int 6)) aNil)) (eCall cw_put16 (aCons (eBin fAdd (eV (.int 10)) (eCallB gLenB (aCons (eV b5) aNil))) aNil))) (eCall cw_put16 (aCons (eV (.int 0)) aNil))) (eCall cw_put16 (aCons (eV v_first) aNil))) (eCall cw_put16 (aCons (eBin fAdd (eBin fSub (eV v_last) (eV v_first)) (eV (.int 1))) aNil))) (eV b5))))
noncomputable def w_write_format_6_4 (low : Nat) (v_last v_first v_known v_codes : V) : WS (Unit) := (sSeq (sSet (eV (.bytes []))) fun b4 => (w_write_format_6_5 low b4 v_last v_first v_known v_codes))
noncomputable def w_write_format_6_3 (low : Nat) (v_first v_known v_codes : V) : WS (Unit) := (sSeq (sSet (eIf (tCmp cNe0 (eV v_known) (eList aNil)) (eItem iL (eV v_known) (eNeg (eV (.int 1)))) (eNeg (eV (.int 1))))) fun b3 => (w_write_format_6_4 low b3 v_first v_known v_codes))
noncomputable def w_write_format_6_2 (low : Nat) (v_known v_codes : V) : WS (Unit) := (sSeq (sSet (eIf (tCmp cNe0 (eV v_known) (eList aNil)) (eItem iL (eV v_known) (eV (.int 0))) (eV (.int 0)))) fun b2 => (w_write_format_6_3 low b2 v_known v_codes))
noncomputable def w_write_format_6_1 (low : Nat) (v_codes : V) : WS (Unit) := (sSeq (sSet (eCallB gSortD (aCons (eV v_codes) aNil))) fun b1 => (w_write_format_6_2 low b1 v_codes))
noncomputable def wd_write_format_6 : WF := wf1 false fun low v_codes => (w_write_format_6_1 low v_codes)
theorem d_write_format_6 {C : Cx} (G : GOK C) (X0 : ExcOK C) : SF C 6 (defOf (Str.ofString "write_format_6")) wd_write_format_6 := by
  have eB := Eq.refl (defOf (Str.ofString "write_format_6")).body
  conv at eB => rhs; whnf
  exact SF.of1 (x := (Str.ofString "codes")) eB (by kernel_rfl) (by kernel_rfl) (by kernel_rfl) fun low a_codes => (SS.cons (S1.set (by kernel_rfl) (fun _ => rfl) (SE.sorted G biSortD (by kernel_rfl) (SA.cons (SE.name (by kernel_rfl) (by kernel_rfl)) SA.nil rfl))) fun d1 => (SS.cons (S1.set (by kernel_rfl) (fun _ => rfl) (SE.ite (ST.cmp cpNe0 rfl (SE.name (by kernel_rfl) (by kernel_rfl)) (SE.list SA.nil)) (SE.item itL (SE.name (by kernel_rfl) (by kernel_rfl)) SE.int) SE.int)) fun d2 => (SS.cons (S1.set (by kernel_rfl) (fun _ => rfl) (SE.ite (ST.cmp cpNe0 rfl (SE.name (by kernel_rfl) (by kernel_rfl)) (SE.list SA.nil)) (SE.item itL (SE.name (by kernel_rfl) (by kernel_rfl)) (SE.neg SE.int)) (SE.neg SE.int))) fun d3 => (SS.cons (S1.set (by kernel_rfl) (fun _ => rfl) SE.bytes) fun d4 => (SS.cons (S1.for (st := fun d5 : V => [((Str.ofString "found"), d5), ((Str.ofString "last"), d3), ((Str.ofString "first"), d2), ((Str.ofString "known"), d1), ((Str.ofString "codes"), a_codes)]) d4 (Sub.cons (by kernel_rfl) (Sub.cons (by kernel_rfl) (Sub.cons (by kernel_rfl) (Sub.cons (by kernel_rfl) (Sub.cons (by kernel_rfl) Sub.nil))))) (SE.range G biRange2 (by kernel_rfl) (SA.cons (SE.name (by kernel_rfl) (by kernel_rfl)) (SA.cons (SE.bin opAdd (SE.name (by kernel_rfl) (by kernel_rfl)) SE.int) SA.nil rfl) rfl)) (fun _ _ => rfl) (TG.name (by kernel_rfl)) fun d5 d6 => (SS.cons (S1.set (by kernel_rfl) (fun _ => rfl) (SE.bin opAddB (SE.name (by kernel_rfl) (by kernel_rfl)) (SE.callF G (by kernel_rfl) (by kernel_rfl) (by decide) (s_put16 G X0) (SA.cons (SE.get (fun {_} => rfl) rfl (by decide) (SE.name (by kernel_rfl) (by kernel_rfl)) (SA.cons (SE.name (by kernel_rfl) (by kernel_rfl)) (SA.cons SE.int SA.nil rfl) rfl)) SA.nil rfl)))) fun d7 => (SS.nil d7 (Sub.cons (by kernel_rfl) (Sub.cons (by kernel_rfl) (Sub.cons (by kernel_rfl) (Sub.cons (by kernel_rfl) (Sub.cons (by kernel_rfl) Sub.nil)))))))) fun d5 => (SS.one (S1.ret (SE.bin opAddB (SE.bin opAddB (SE.bin opAddB (SE.bin opAddB (SE.bin opAddB (SE.callF G (by kernel_rfl) (by kernel_rfl) (by decide) (s_put16 G X0) (SA.cons SE.int SA.nil rfl)) (SE.callF G (by kernel_rfl) (by kernel_rfl) (by decide) (s_put16 G X0) (SA.cons (SE.bin opAdd SE.int (SE.len G biLenB (by kernel_rfl) (SA.cons (SE.name (by kernel_rfl) (by kernel_rfl)) SA.nil rfl))) SA.nil rfl))) (SE.callF G (by kernel_rfl) (by kernel_rfl) (by decide) (s_put16 G X0) (SA.cons SE.int SA.nil rfl))) (SE.callF G (by kernel_rfl) (by kernel_rfl) (by decide) (s_put16 G X0) (SA.cons (SE.name (by kernel_rfl) (by kernel_rfl)) SA.nil rfl))) (SE.callF G (by kernel_rfl) (by kernel_rfl) (by decide) (s_put16 G X0) (SA.cons (SE.bin opAdd (SE.bin opSub (SE.name (by kernel_rfl) (by kernel_rfl)) (SE.name (by kernel_rfl) (by kernel_rfl))) SE.int) SA.nil rfl))) (SE.name (by kernel_rfl) (by kernel_rfl))))))))))

noncomputable def cw_write_format_6 : WF := shut wd_write_format_6
theorem s_write_format_6 {C : Cx} (G : GOK C) (X0 : ExcOK C) : SF C 6 (defOf (Str.ofString "write_format_6")) cw_write_format_6 := (d_write_format_6 G X0).shut
noncomputable def w_runs_of_4 (low : Nat) (v_code v_found v_codes : V) : WS (Unit) := (sSeq (sItemL (eTup (aCons (eItem iT (eItem iL (eV v_found) (eNeg (eV (.int 1)))) (eV (.int 0))) (aCons (eV v_code) aNil))) (eV v_found) (eNeg (eV (.int 1)))) fun b4 => (sEnd ()))
noncomputable def w_runs_of_5 (low : Nat) (v_code v_found v_codes : V) : WS (Unit) := (sSeq (sExpr (eApp (eV v_found) (aCons (eTup (aCons (eV v_code) (aCons (eV v_code) aNil))) aNil))) fun b5 => (sEnd ()))
noncomputable def w_runs_of_3 (low : Nat) (v_code v_found v_codes : V) : WS (Unit) := (sIf (tAnd (tCmp cNe0 (eV v_found) (eList aNil)) (tAnd (tCmp cEq (eItem iT (eItem iL (eV v_found) (eNeg (eV (.int 1)))) (eV (.int 1))) (eBin fSub (eV v_code) (eV (.int 1)))) (tEnd true))) (w_runs_of_4 low v_code v_found v_codes) (w_runs_of_5 low v_code v_found v_codes))
noncomputable def w_runs_of_2 (low : Nat) (v_found v_codes : V) : WS (Unit) := (sSeq (sFor (eCallB gSortI (aCons (eV v_codes) aNil)) (() : Unit) sp1 fun b2 b3 => (w_runs_of_3 low b3 v_found v_codes)) fun b2 => (sRet (eV v_found)))
noncomputable def w_runs_of_1 (low : Nat) (v_codes : V) : WS (Unit) := (sSeq (sSet (eNewL aNil)) fun b1 => (w_runs_of_2 low b1 v_codes))
noncomputable def wd_runs_of : WF := wf1 false fun low v_codes => (w_runs_of_1 low v_codes)
theorem d_runs_of {C : Cx} (G : GOK C) (X0 : ExcOK C) : SF C 3 (defOf (Str.ofString "runs_of")) wd_runs_of := by
  have eB := Eq.refl (defOf (Str.ofString "runs_of")).body
  conv at eB => rhs; whnf
  exact SF.of1 (x := (Str.ofString "codes")) eB (by kernel_rfl) (by kernel_rfl) (by kernel_rfl) fun low a_codes => (SS.cons (S1.set (by kernel_rfl) (fun _ => rfl) (SE.newL SA.nil)) fun d1 => (SS.cons (S1.for (st := fun d2 : Unit => [((Str.ofString "found"), d1), ((Str.ofString "codes"), a_codes)]) () (Sub.cons (by kernel_rfl) (Sub.cons (by kernel_rfl) Sub.nil)) (SE.sorted G biSortI (by kernel_rfl) (SA.cons (SE.name (by kernel_rfl) (by kernel_rfl)) SA.nil rfl)) (fun _ _ => rfl) (TG.name (by kernel_rfl)) fun d2 d3 => (SS.one (S1.if (ST.bool (STs.and (ST.cmp cpNe0 rfl (SE.name (by kernel_rfl) (by kernel_rfl)) (SE.list SA.nil)) (STs.and (ST.cmp cpEq rfl (SE.item itT (SE.item itL (SE.name (by kernel_rfl) (by kernel_rfl)) (SE.neg SE.int)) SE.int) (SE.bin opSub (SE.name (by kernel_rfl) (by kernel_rfl)) SE.int)) STs.endA))) (SS.cons (S1.itemL (SE.tup (SA.cons (SE.item itT (SE.item itL (SE.name (by kernel_rfl) (by kernel_rfl)) (SE.neg SE.int)) SE.int) (SA.cons (SE.name (by kernel_rfl) (by kernel_rfl)) SA.nil rfl) rfl)) (SE.name (by kernel_rfl) (by kernel_rfl)) (SE.neg SE.int)) fun d4 => (SS.nil () (Sub.cons (by kernel_rfl) (Sub.cons (by kernel_rfl) Sub.nil)))) (SS.cons (S1.expr (SE.app (fun {_} => rfl) rfl (by decide) (SE.name (by kernel_rfl) (by kernel_rfl)) (SA.cons (SE.tup (SA.cons (SE.name (by kernel_rfl) (by kernel_rfl)) (SA.cons (SE.name (by kernel_rfl) (by kernel_rfl)) SA.nil rfl) rfl)) SA.nil rfl))) fun d5 => (SS.nil () (Sub.cons (by kernel_rfl) (Sub.cons (by kernel_rfl) Sub.nil))))))) fun d2 => (SS.one (S1.ret (SE.name (by kernel_rfl) (by kernel_rfl))))))

noncomputable def cw_runs_of : WF := shut wd_runs_of
theorem s_runs_of {C : Cx} (G : GOK C) (X0 : ExcOK C) : SF C 3 (defOf (Str.ofString "runs_of")) cw_runs_of := (d_runs_of G X0).shut
noncomputable def w_is_even_run_2 (low : Nat) (v_code v_codes v_first v_last : V) : WS (Unit) := (sIf (tCmp cNe (eBin fSub (eItem iD (eV v_codes) (eV v_code)) (eV v_code)) (eBin fSub (eItem iD (eV v_codes) (eV v_first)) (eV v_first))) (sRet (eV (.bool false))) (sEnd ()))
noncomputable def w_is_even_run_1 (low : Nat) (v_codes v_first v_last : V) : WS (Unit) := (sSeq (sFor (eCallB gRange2 (aCons (eV v_first) (aCons (eBin fAdd (eV v_last) (eV (.int 1))) aNil))) (() : Unit) sp1 fun b1 b2 => (w_is_even_run_2 low b2 v_codes v_first v_last)) fun b1 => (sRet (eV (.bool true))))
noncomputable def wd_is_even_run : WF := wf3 false fun low v_codes v_first v_last => (w_is_even_run_1 low v_codes v_first v_last)
theorem d_is_even_run {C : Cx} (G : GOK C) (X0 : ExcOK C) : SF C 3 (defOf (Str.ofString "is_even_run")) wd_is_even_run := by
  have eB := Eq.refl (defOf (Str.ofString "is_even_run")).body
  conv at eB => rhs; whnf
  exact SF.of3 (x := (Str.ofString "codes")) (y := (Str.ofString "first")) (z := (Str.ofString "last")) eB (by kernel_rfl) (by kernel_rfl) (by kernel_rfl) fun low a_codes a_first a_last => (SS.cons (S1.for (st := fun d1 : Unit => [((Str.ofString "codes"), a_codes), ((Str.ofString "first"), a_first), ((Str.ofString "last"), a_last)]) () (Sub.cons (by kernel_rfl) (Sub.cons (by kernel_rfl) (Sub.cons (by kernel_rfl) Sub.nil))) (SE.range G biRange2 (by kernel_rfl) (SA.cons (SE.name (by kernel_rfl) (by kernel_rfl)) (SA.cons (SE.bin opAdd (SE.name (by kernel_rfl) (by kernel_rfl)) SE.int) SA.nil rfl) rfl)) (fun _ _ => rfl) (TG.name (by kernel_rfl)) fun d1 d2 => (SS.one (S1.if (ST.cmp cpNe rfl (SE.bin opSub (SE.item itD (SE.name (by kernel_rfl) (by kernel_rfl)) (SE.name (by kernel_rfl) (by kernel_rfl))) (SE.name (by kernel_rfl) (by kernel_rfl))) (SE.bin opSub (SE.item itD (SE.name (by kernel_rfl) (by kernel_rfl)) (SE.name (by kernel_rfl) (by kernel_rfl))) (SE.name (by kernel_rfl) (by kernel_rfl)))) (SS.one (S1.ret SE.bool)) (SS.nil () (Sub.cons (by kernel_rfl) (Sub.cons (by kernel_rfl) (Sub.cons (by kernel_rfl) Sub.nil))))))) fun d1 => (SS.one (S1.ret SE.bool)))

noncomputable def cw_is_even_run : WF := shut wd_is_even_run
theorem s_is_even_run {C : Cx} (G : GOK C) (X0 : ExcOK C) : SF C 3 (defOf (Str.ofString "is_even_run")) cw_is_even_run := (d_is_even_run G X0).shut
noncomputable def w_exponent_of_4 (low : Nat) (v_power v_found : V) : WS (V × V) := (sSeq (sSet (eBin fAdd (eV v_found) (eV (.int 1)))) fun b4 => (sEnd (b4, v_power)))
noncomputable def w_exponent_of_3 (low : Nat) (v_found v_power : V) : WS (V × V) := (sSeq (sSet (eBin fDiv (eV v_power) (eV (.int 2)))) fun b3 => (w_exponent_of_4 low b3 v_found))
noncomputable def w_exponent_of_2 (low : Nat) (v_found v_power : V) : WS (Unit) := (sSeq (sWhile ((v_found, v_power) : V × V) (fun b2 => (tCmp cGt (eV b2.2) (eV (.int 1)))) fun b2 => (w_exponent_of_3 low b2.1 b2.2)) fun b2 => (sRet (eV b2.1)))
noncomputable def w_exponent_of_1 (low : Nat) (v_power : V) : WS (Unit) := (sSeq (sSet (eV (.int 0))) fun b1 => (w_exponent_of_2 low b1 v_power))
noncomputable def wd_exponent_of : WF := wf1 false fun low v_power => (w_exponent_of_1 low v_power)
theorem d_exponent_of {C : Cx} (G : GOK C) (X0 : ExcOK C) : SF C 3 (defOf (Str.ofString "exponent_of")) wd_exponent_of := by
  have eB := Eq.refl (defOf (Str.ofString "exponent_of")).body
  conv at eB => rhs; whnf
  exact SF.of1 (x := (Str.ofString "power")) eB (by kernel_rfl) (by kernel_rfl) (by kernel_rfl) fun low a_power => (SS.cons (S1.set (by kernel_rfl) (fun _ => rfl) SE.int) fun d1 => (SS.cons (S1.while (st := fun d2 : V × V => [((Str.ofString "found"), d2.1), ((Str.ofString "power"), d2.2)]) (d1, a_power) (Sub.cons (by kernel_rfl) (Sub.cons (by kernel_rfl) Sub.nil)) (fun d2 => (ST.cmp cpGt rfl (SE.name (by kernel_rfl) (by kernel_rfl)) SE.int)) fun d2 => (SS.cons (S1.set (by kernel_rfl) (fun _ => rfl) (SE.bin opDiv (SE.name (by kernel_rfl) (by kernel_rfl)) SE.int)) fun d3 => (SS.cons (S1.set (by kernel_rfl) (fun _ => rfl) (SE.bin opAdd (SE.name (by kernel_rfl) (by kernel_rfl)) SE.int)) fun d4 => (SS.nil (d4, d3) (Sub.cons (by kernel_rfl) (Sub.cons (by kernel_rfl) Sub.nil)))))) fun d2 => (SS.one (S1.ret (SE.name (by kernel_rfl) (by kernel_rfl))))))

noncomputable def cw_exponent_of : WF := shut wd_exponent_of
theorem s_exponent_of {C : Cx} (G : GOK C) (X0 : ExcOK C) : SF C 3 (defOf (Str.ofString "exponent_of")) cw_exponent_of := (d_exponent_of G X0).shut
noncomputable def w_write_format_4_7 (low : Nat) (v_first v_last v_at v_deltas v_offsets v_lists v_many v_runs v_codes : V) : WS (V × V × V) := (sSeq (sTup2 (aCons (eBin fAddB (eV v_deltas) (eCall cw_put16 (aCons (eV (.int 1)) aNil))) (aCons (eBin fAddB (eV v_offsets) (eCall cw_put16 (aCons (eV (.int 0)) aNil))) aNil))) fun b8 => (sEnd (b8.1, b8.2, v_lists)))
noncomputable def w_write_format_4_9 (low : Nat) (v_first v_last v_at v_deltas v_offsets v_lists v_many v_runs v_codes : V) : WS (V × V × V) := (sSeq (sTup2 (aCons (eBin fAddB (eV v_deltas) (eCall cw_put16 (aCons (eBin fSub (eItem iD (eV v_codes) (eV v_first)) (eV v_first)) aNil))) (aCons (eBin fAddB (eV v_offsets) (eCall cw_put16 (aCons (eV (.int 0)) aNil))) aNil))) fun b9 => (sEnd (b9.1, b9.2, v_lists)))
noncomputable def w_write_format_4_12 (low : Nat) (v_code v_lists v_deltas v_offsets v_first v_last v_at v_many v_runs v_codes : V) : WS (V) := (sSeq (sSet (eBin fAddB (eV v_lists) (eCall cw_put16 (aCons (eItem iD (eV v_codes) (eV v_code)) aNil)))) fun b13 => (sEnd b13))
noncomputable def w_write_format_4_11 (low : Nat) (v_deltas v_offsets v_first v_last v_at v_lists v_many v_runs v_codes : V) : WS (V × V × V) := (sSeq (sFor (eCallB gRange2 (aCons (eV v_first) (aCons (eBin fAdd (eV v_last) (eV (.int 1))) aNil))) (v_lists : V) sp1 fun b11 b12 => (w_write_format_4_12 low b12 b11 v_deltas v_offsets v_first v_last v_at v_many v_runs v_codes)) fun b11 => (sEnd (v_deltas, v_offsets, b11)))
noncomputable def w_write_format_4_10 (low : Nat) (v_first v_last v_at v_deltas v_offsets v_lists v_many v_runs v_codes : V) : WS (V × V × V) := (sSeq (sTup2 (aCons (eBin fAddB (eV v_deltas) (eCall cw_put16 (aCons (eV (.int 0)) aNil))) (aCons (eBin fAddB (eV v_offsets) (eCall cw_put16 (aCons (eBin fAdd (eBin fMul (eV (.int 2)) (eBin fSub (eV v_many) (eV v_at))) (eCallB gLenB (aCons (eV v_lists) aNil))) aNil))) aNil))) fun b10 => (w_write_format_4_11 low b10.1 b10.2 v_first v_last v_at v_lists v_many v_runs v_codes))
noncomputable def w_write_format_4_8 (low : Nat) (v_first v_last v_at v_deltas v_offsets v_lists v_many v_runs v_codes : V) : WS (V × V × V) := (sIf (tE (eCall cw_is_even_run (aCons (eV v_codes) (aCons (eV v_first) (aCons (eV v_last) aNil))))) (w_write_format_4_9 low v_first v_last v_at v_deltas v_offsets v_lists v_many v_runs v_codes) (w_write_format_4_10 low v_first v_last v_at v_deltas v_offsets v_lists v_many v_runs v_codes))
noncomputable def w_write_format_4_6 (low : Nat) (v_first v_last v_at v_deltas v_offsets v_lists v_many v_runs v_codes : V) : WS (V × V × V) := (sIf (tCmp cEq (eV v_at) (eBin fSub (eV v_many) (eV (.int 1)))) (w_write_format_4_7 low v_first v_last v_at v_deltas v_offsets v_lists v_many v_runs v_codes) (w_write_format_4_8 low v_first v_last v_at v_deltas v_offsets v_lists v_many v_runs v_codes))
noncomputable def w_write_format_4_5 (low : Nat) (v_at v_deltas v_offsets v_lists v_many v_runs v_codes : V) : WS (V × V × V) := (sSeq (sUn (eItem iL (eV v_runs) (eV v_at)) sp2) fun b7 => (w_write_format_4_6 low b7.1 b7.2 v_at v_deltas v_offsets v_lists v_many v_runs v_codes))
noncomputable def w_write_format_4_17 (low : Nat) (v_power v_starts v_ends v_deltas v_offsets v_lists v_many v_runs v_codes : V) : WS (V) := (sSeq (sSet (eBin fMul (eV v_power) (eV (.int 2)))) fun b20 => (sEnd b20))
noncomputable def w_write_format_4_19 (low : Nat) (v_head v_power v_starts v_ends v_deltas v_offsets v_lists v_many v_runs v_codes : V) : WS (Unit) := (sSeq (sSet (eBin fAddB (eBin fAddB (eBin fAddB (eBin fAddB (eBin fAddB (eBin fAddB (eV v_head) (eV v_ends)) (eCall cw_put16 (aCons (eV (.int 0)) aNil))) (eV v_starts)) (eV v_deltas)) (eV v_offsets)) (eV v_lists))) fun b22 => (sRet (eBin fAddB (eBin fAddB (eBin fAddB (eCall cw_put16 (aCons (eV (.int 4)) aNil)) (eCall cw_put16 (aCons (eBin fAdd (eV (.int 6)) (eCallB gLenB (aCons (eV b22) aNil))) aNil))) (eCall cw_put16 (aCons (eV (.int 0)) aNil))) (eV b22))))
noncomputable def w_write_format_4_18 (low : Nat) (v_power v_starts v_ends v_deltas v_offsets v_lists v_many v_runs v_codes : V) : WS (Unit) := (sSeq (sSet (eBin fAddB (eBin fAddB (eBin fAddB (eCall cw_put16 (aCons (eBin fMul (eV (.int 2)) (eV v_many)) aNil)) (eCall cw_put16 (aCons (eBin fMul (eV (.int 2)) (eV v_power)) aNil))) (eCall cw_put16 (aCons (eCall cw_exponent_of (aCons (eV v_power) aNil)) aNil))) (eCall cw_put16 (aCons (eBin fMul (eV (.int 2)) (eBin fSub (eV v_many) (eV v_power))) aNil)))) fun b21 => (w_write_format_4_19 low b21 v_power v_starts v_ends v_deltas v_offsets v_lists v_many v_runs v_codes))
noncomputable def w_write_format_4_16 (low : Nat) (v_power v_starts v_ends v_deltas v_offsets v_lists v_many v_runs v_codes : V) : WS (Unit) := (sSeq (sWhile (v_power : V) (fun b19 => (tCmp cLe (eBin fMul (eV b19) (eV (.int 2))) (eV v_many))) fun b19 => (w_write_format_4_17 low b19 v_starts v_ends v_deltas v_offsets v_lists v_many v_runs v_codes)) fun b19 => (w_write_format_4_18 low b19 v_starts v_ends v_deltas v_offsets v_lists v_many v_runs v_codes))
noncomputable def w_write_format_4_15 (low : Nat) (v_starts v_ends v_deltas v_offsets v_lists v_many v_runs v_codes : V) : WS (Unit) := (sSeq (sSet (eV (.int 1))) fun b18 => (w_write_format_4_16 low b18 v_starts v_ends v_deltas v_offsets v_lists v_many v_runs v_codes))
noncomputable def w_write_format_4_14 (low : Nat) (v_ends v_deltas v_offsets v_lists v_many v_runs v_codes : V) : WS (Unit) := (sSeq (sSet (eJoin (eV (.bytes [])) (aCons (eComp (eV v_runs) sp2 (fun b17 => tT) (fun b17 => (eCall cw_put16 (aCons (eV b17.1) aNil)))) aNil))) fun b16 => (w_write_format_4_15 low b16 v_ends v_deltas v_offsets v_lists v_many v_runs v_codes))
noncomputable def w_write_format_4_13 (low : Nat) (v_deltas v_offsets v_lists v_many v_runs v_codes : V) : WS (Unit) := (sSeq (sSet (eJoin (eV (.bytes [])) (aCons (eComp (eV v_runs) sp2 (fun b15 => tT) (fun b15 => (eCall cw_put16 (aCons (eV b15.2) aNil)))) aNil))) fun b14 => (w_write_format_4_14 low b14 v_deltas v_offsets v_lists v_many v_runs v_codes))
noncomputable def w_write_format_4_4 (low : Nat) (v_deltas v_offsets v_lists v_many v_runs v_codes : V) : WS (Unit) := (sSeq (sFor (eCallB gRange1 (aCons (eV v_many) aNil)) ((v_deltas, v_offsets, v_lists) : V × V × V) sp1 fun b5 b6 => (w_write_format_4_5 low b6 b5.1 b5.2.1 b5.2.2 v_many v_runs v_codes)) fun b5 => (w_write_format_4_13 low b5.1 b5.2.1 b5.2.2 v_many v_runs v_codes))
noncomputable def w_write_format_4_3 (low : Nat) (v_many v_runs v_codes : V) : WS (Unit) := (sSeq (sTup3 (aCons (eV (.bytes [])) (aCons (eV (.bytes [])) (aCons (eV (.bytes [])) aNil)))) fun b4 => (w_write_format_4_4 low b4.1 b4.2.1 b4.2.2 v_many v_runs v_codes))
noncomputable def w_write_format_4_2 (low : Nat) (v_runs v_codes : V) : WS (Unit) := (sSeq (sSet (eCallB gLenL (aCons (eV v_runs) aNil))) fun b3 => (w_write_format_4_3 low b3 v_runs v_codes))
noncomputable def w_write_format_4_1 (low : Nat) (v_codes : V) : WS (Unit) := (sSeq (sSet (eBin fAddL (eCall cw_runs_of (aCons (eComp (eV v_codes) sp1 (fun b2 => (tCmp cLt (eV b2) (eV (.int 65535)))) (fun b2 => (eV b2))) aNil)) (eList (aCons (eTup (aCons (eV (.int 65535)) (aCons (eV (.int 65535)) aNil))) aNil)))) fun b1 => (w_write_format_4_2 low b1 v_codes))
noncomputable def wd_write_format_4 : WF := wf1 false fun low v_codes => (w_write_format_4_1 low v_codes)
theorem d_write_format_4 {C : Cx} (G : GOK C) (X0 : ExcOK C) : SF C 6 (defOf (Str.ofString "write_format_4")) wd_write_format_4 := by
  have eB := Eq.refl (defOf (Str.ofString "write_format_4")).body
  conv at eB => rhs; whnf
  exact SF.of1 (x := (Str.ofString "codes")) eB (by kernel_rfl) (by kernel_rfl) (by kernel_rfl) fun low a_codes => (SS.cons (S1.set (by kernel_rfl) (fun _ => rfl) (SE.bin opAddL (SE.callF G (by kernel_rfl) (by kernel_rfl) (by decide) (s_runs_of G X0) (SA.cons (SE.comp [] (by kernel_rfl) rfl (fun _ _ => rfl) Sub.nil Fr.nil (SE.name (by kernel_rfl) (by kernel_rfl)) (TG.name (by kernel_rfl)) (fun d2 => (SI.one (ST.cmp cpLt rfl (SE.name (by kernel_rfl) (by kernel_rfl)) (SE.last G (by kernel_rfl))))) (fun d2 => (SE.name (by kernel_rfl) (by kernel_rfl)))) SA.nil rfl)) (SE.list (SA.cons (SE.tup (SA.cons (SE.last G (by kernel_rfl)) (SA.cons (SE.last G (by kernel_rfl)) SA.nil rfl) rfl)) SA.nil rfl)))) fun d1 => (SS.cons (S1.set (by kernel_rfl) (fun _ => rfl) (SE.len G biLenL (by kernel_rfl) (SA.cons (SE.name (by kernel_rfl) (by kernel_rfl)) SA.nil rfl))) fun d3 => (SS.cons (S1.tup3 (by kernel_rfl) (by kernel_rfl) (by kernel_rfl) (by decide +kernel) (by kernel_rfl) (by kernel_rfl) (SA.cons SE.bytes (SA.cons SE.bytes (SA.cons SE.bytes SA.nil rfl) rfl) rfl)) fun d4 => (SS.cons (S1.for (st := fun d5 : V × V × V => [((Str.ofString "deltas"), d5.1), ((Str.ofString "offsets"), d5.2.1), ((Str.ofString "lists"), d5.2.2), ((Str.ofString "many"), d3), ((Str.ofString "runs"), d1), ((Str.ofString "codes"), a_codes)]) (d4.1, d4.2.1, d4.2.2) (Sub.cons (by kernel_rfl) (Sub.cons (by kernel_rfl) (Sub.cons (by kernel_rfl) (Sub.cons (by kernel_rfl) (Sub.cons (by kernel_rfl) (Sub.cons (by kernel_rfl) Sub.nil)))))) (SE.range G biRange1 (by kernel_rfl) (SA.cons (SE.name (by kernel_rfl) (by kernel_rfl)) SA.nil rfl)) (fun _ _ => rfl) (TG.name (by kernel_rfl)) fun d5 d6 => (SS.cons (S1.un (TG.two (by kernel_rfl) (by kernel_rfl)) (SE.item itL (SE.name (by kernel_rfl) (by kernel_rfl)) (SE.name (by kernel_rfl) (by kernel_rfl)))) fun d7 => (SS.one (S1.if (ST.cmp cpEq rfl (SE.name (by kernel_rfl) (by kernel_rfl)) (SE.bin opSub (SE.name (by kernel_rfl) (by kernel_rfl)) SE.int)) (SS.cons (S1.tup2 (by kernel_rfl) (by kernel_rfl) (by decide +kernel) (by kernel_rfl) (by kernel_rfl) (SA.cons (SE.bin opAddB (SE.name (by kernel_rfl) (by kernel_rfl)) (SE.callF G (by kernel_rfl) (by kernel_rfl) (by decide) (s_put16 G X0) (SA.cons SE.int SA.nil rfl))) (SA.cons (SE.bin opAddB (SE.name (by kernel_rfl) (by kernel_rfl)) (SE.callF G (by kernel_rfl) (by kernel_rfl) (by decide) (s_put16 G X0) (SA.cons SE.int SA.nil rfl))) SA.nil rfl) rfl)) fun d8 => (SS.nil (d8.1, d8.2, d5.2.2) (Sub.cons (by kernel_rfl) (Sub.cons (by kernel_rfl) (Sub.cons (by kernel_rfl) (Sub.cons (by kernel_rfl) (Sub.cons (by kernel_rfl) (Sub.cons (by kernel_rfl) Sub.nil)))))))) (SS.one (S1.if (ST.call (SE.callF G (by kernel_rfl) (by kernel_rfl) (by decide) (s_is_even_run G X0) (SA.cons (SE.name (by kernel_rfl) (by kernel_rfl)) (SA.cons (SE.name (by kernel_rfl) (by kernel_rfl)) (SA.cons (SE.name (by kernel_rfl) (by kernel_rfl)) SA.nil rfl) rfl) rfl))) (SS.cons (S1.tup2 (by kernel_rfl) (by kernel_rfl) (by decide +kernel) (by kernel_rfl) (by kernel_rfl) (SA.cons (SE.bin opAddB (SE.name (by kernel_rfl) (by kernel_rfl)) (SE.callF G (by kernel_rfl) (by kernel_rfl) (by decide) (s_put16 G X0) (SA.cons (SE.bin opSub (SE.item itD (SE.name (by kernel_rfl) (by kernel_rfl)) (SE.name (by kernel_rfl) (by kernel_rfl))) (SE.name (by kernel_rfl) (by kernel_rfl))) SA.nil rfl))) (SA.cons (SE.bin opAddB (SE.name (by kernel_rfl) (by kernel_rfl)) (SE.callF G (by kernel_rfl) (by kernel_rfl) (by decide) (s_put16 G X0) (SA.cons SE.int SA.nil rfl))) SA.nil rfl) rfl)) fun d9 => (SS.nil (d9.1, d9.2, d5.2.2) (Sub.cons (by kernel_rfl) (Sub.cons (by kernel_rfl) (Sub.cons (by kernel_rfl) (Sub.cons (by kernel_rfl) (Sub.cons (by kernel_rfl) (Sub.cons (by kernel_rfl) Sub.nil)))))))) (SS.cons (S1.tup2 (by kernel_rfl) (by kernel_rfl) (by decide +kernel) (by kernel_rfl) (by kernel_rfl) (SA.cons (SE.bin opAddB (SE.name (by kernel_rfl) (by kernel_rfl)) (SE.callF G (by kernel_rfl) (by kernel_rfl) (by decide) (s_put16 G X0) (SA.cons SE.int SA.nil rfl))) (SA.cons (SE.bin opAddB (SE.name (by kernel_rfl) (by kernel_rfl)) (SE.callF G (by kernel_rfl) (by kernel_rfl) (by decide) (s_put16 G X0) (SA.cons (SE.bin opAdd (SE.bin opMul SE.int (SE.bin opSub (SE.name (by kernel_rfl) (by kernel_rfl)) (SE.name (by kernel_rfl) (by kernel_rfl)))) (SE.len G biLenB (by kernel_rfl) (SA.cons (SE.name (by kernel_rfl) (by kernel_rfl)) SA.nil rfl))) SA.nil rfl))) SA.nil rfl) rfl)) fun d10 => (SS.cons (S1.for (st := fun d11 : V => [((Str.ofString "lists"), d11), ((Str.ofString "deltas"), d10.1), ((Str.ofString "offsets"), d10.2), ((Str.ofString "first"), d7.1), ((Str.ofString "last"), d7.2), ((Str.ofString "at"), d6), ((Str.ofString "many"), d3), ((Str.ofString "runs"), d1), ((Str.ofString "codes"), a_codes)]) d5.2.2 (Sub.cons (by kernel_rfl) (Sub.cons (by kernel_rfl) (Sub.cons (by kernel_rfl) (Sub.cons (by kernel_rfl) (Sub.cons (by kernel_rfl) (Sub.cons (by kernel_rfl) (Sub.cons (by kernel_rfl) (Sub.cons (by kernel_rfl) (Sub.cons (by kernel_rfl) Sub.nil))))))))) (SE.range G biRange2 (by kernel_rfl) (SA.cons (SE.name (by kernel_rfl) (by kernel_rfl)) (SA.cons (SE.bin opAdd (SE.name (by kernel_rfl) (by kernel_rfl)) SE.int) SA.nil rfl) rfl)) (fun _ _ => rfl) (TG.name (by kernel_rfl)) fun d11 d12 => (SS.cons (S1.set (by kernel_rfl) (fun _ => rfl) (SE.bin opAddB (SE.name (by kernel_rfl) (by kernel_rfl)) (SE.callF G (by kernel_rfl) (by kernel_rfl) (by decide) (s_put16 G X0) (SA.cons (SE.item itD (SE.name (by kernel_rfl) (by kernel_rfl)) (SE.name (by kernel_rfl) (by kernel_rfl))) SA.nil rfl)))) fun d13 => (SS.nil d13 (Sub.cons (by kernel_rfl) (Sub.cons (by kernel_rfl) (Sub.cons (by kernel_rfl) (Sub.cons (by kernel_rfl) (Sub.cons (by kernel_rfl) (Sub.cons (by kernel_rfl) (Sub.cons (by kernel_rfl) (Sub.cons (by kernel_rfl) (Sub.cons (by kernel_rfl) Sub.nil)))))))))))) fun d11 => (SS.nil (d10.1, d10.2, d11) (Sub.cons (by kernel_rfl) (Sub.cons (by kernel_rfl) (Sub.cons (by kernel_rfl) (Sub.cons (by kernel_rfl) (Sub.cons (by kernel_rfl) (Sub.cons (by kernel_rfl) Sub.nil))))))))))))))) fun d5 => (SS.cons (S1.set (by kernel_rfl) (fun _ => rfl) (SE.join (fun {_} => rfl) rfl (by decide) SE.bytes (SA.cons (SE.comp [] (by kernel_rfl) rfl (fun _ _ => rfl) Sub.nil Fr.nil (SE.name (by kernel_rfl) (by kernel_rfl)) (TG.two (by kernel_rfl) (by kernel_rfl)) (fun d15 => SI.nil) (fun d15 => (SE.callF G (by kernel_rfl) (by kernel_rfl) (by decide) (s_put16 G X0) (SA.cons (SE.name (by kernel_rfl) (by kernel_rfl)) SA.nil rfl)))) SA.nil rfl))) fun d14 => (SS.cons (S1.set (by kernel_rfl) (fun _ => rfl) (SE.join (fun {_} => rfl) rfl (by decide) SE.bytes (SA.cons (SE.comp [] (by kernel_rfl) rfl (fun _ _ => rfl) Sub.nil Fr.nil (SE.name (by kernel_rfl) (by kernel_rfl)) (TG.two (by kernel_rfl) (by kernel_rfl)) (fun d17 => SI.nil) (fun d17 => (SE.callF G (by kernel_rfl) (by kernel_rfl) (by decide) (s_put16 G X0) (SA.cons (SE.name (by kernel_rfl) (by kernel_rfl)) SA.nil rfl)))) SA.nil rfl))) fun d16 => (SS.cons (S1.set (by kernel_rfl) (fun _ => rfl) SE.int) fun d18 => (SS.cons (S1.while (st := fun d19 : V => [((Str.ofString "power"), d19), ((Str.ofString "starts"), d16), ((Str.ofString "ends"), d14), ((Str.ofString "deltas"), d5.1), ((Str.ofString "offsets"), d5.2.1), ((Str.ofString "lists"), d5.2.2), ((Str.ofString "many"), d3), ((Str.ofString "runs"), d1), ((Str.ofString "codes"), a_codes)]) d18 (Sub.cons (by kernel_rfl) (Sub.cons (by kernel_rfl) (Sub.cons (by kernel_rfl) (Sub.cons (by kernel_rfl) (Sub.cons (by kernel_rfl) (Sub.cons (by kernel_rfl) (Sub.cons (by kernel_rfl) (Sub.cons (by kernel_rfl) (Sub.cons (by kernel_rfl) Sub.nil))))))))) (fun d19 => (ST.cmp cpLe rfl (SE.bin opMul (SE.name (by kernel_rfl) (by kernel_rfl)) SE.int) (SE.name (by kernel_rfl) (by kernel_rfl)))) fun d19 => (SS.cons (S1.set (by kernel_rfl) (fun _ => rfl) (SE.bin opMul (SE.name (by kernel_rfl) (by kernel_rfl)) SE.int)) fun d20 => (SS.nil d20 (Sub.cons (by kernel_rfl) (Sub.cons (by kernel_rfl) (Sub.cons (by kernel_rfl) (Sub.cons (by kernel_rfl) (Sub.cons (by kernel_rfl) (Sub.cons (by kernel_rfl) (Sub.cons (by kernel_rfl) (Sub.cons (by kernel_rfl) (Sub.cons (by kernel_rfl) Sub.nil)))))))))))) fun d19 => (SS.cons (S1.set (by kernel_rfl) (fun _ => rfl) (SE.bin opAddB (SE.bin opAddB (SE.bin opAddB (SE.callF G (by kernel_rfl) (by kernel_rfl) (by decide) (s_put16 G X0) (SA.cons (SE.bin opMul SE.int (SE.name (by kernel_rfl) (by kernel_rfl))) SA.nil rfl)) (SE.callF G (by kernel_rfl) (by kernel_rfl) (by decide) (s_put16 G X0) (SA.cons (SE.bin opMul SE.int (SE.name (by kernel_rfl) (by kernel_rfl))) SA.nil rfl))) (SE.callF G (by kernel_rfl) (by kernel_rfl) (by decide) (s_put16 G X0) (SA.cons (SE.callF G (by kernel_rfl) (by kernel_rfl) (by decide) (s_exponent_of G X0) (SA.cons (SE.name (by kernel_rfl) (by kernel_rfl)) SA.nil rfl)) SA.nil rfl))) (SE.callF G (by kernel_rfl) (by kernel_rfl) (by decide) (s_put16 G X0) (SA.cons (SE.bin opMul SE.int (SE.bin opSub (SE.name (by kernel_rfl) (by kernel_rfl)) (SE.name (by kernel_rfl) (by kernel_rfl)))) SA.nil rfl)))) fun d21 => (SS.cons (S1.set (by kernel_rfl) (fun _ => rfl) (SE.bin opAddB (SE.bin opAddB (SE.bin opAddB (SE.bin opAddB (SE.bin opAddB (SE.bin opAddB (SE.name (by kernel_rfl) (by kernel_rfl)) (SE.name (by kernel_rfl) (by kernel_rfl))) (SE.callF G (by kernel_rfl) (by kernel_rfl) (by decide) (s_put16 G X0) (SA.cons SE.int SA.nil rfl))) (SE.name (by kernel_rfl) (by kernel_rfl))) (SE.name (by kernel_rfl) (by kernel_rfl))) (SE.name (by kernel_rfl) (by kernel_rfl))) (SE.name (by kernel_rfl) (by kernel_rfl)))) fun d22 => (SS.one (S1.ret (SE.bin opAddB (SE.bin opAddB (SE.bin opAddB (SE.callF G (by kernel_rfl) (by kernel_rfl) (by decide) (s_put16 G X0) (SA.cons SE.int SA.nil rfl)) (SE.callF G (by kernel_rfl) (by kernel_rfl) (by decide) (s_put16 G X0) (SA.cons (SE.bin opAdd SE.int (SE.len G biLenB (by kernel_rfl) (SA.cons (SE.name (by kernel_rfl) (by kernel_rfl)) SA.nil rfl))) SA.nil rfl))) (SE.callF G (by kernel_rfl) (by kernel_rfl) (by decide) (s_put16 G X0) (SA.cons SE.int SA.nil rfl))) (SE.name (by kernel_rfl) (by kernel_rfl)))))))))))))))

noncomputable def cw_write_format_4 : WF := shut wd_write_format_4
theorem s_write_format_4 {C : Cx} (G : GOK C) (X0 : ExcOK C) : SF C 6 (defOf (Str.ofString "write_format_4")) cw_write_format_4 := (d_write_format_4 G X0).shut
noncomputable def w_write_format_12_4 (low : Nat) (v_code v_rows v_codes : V) : WS (Unit) := (sSeq (sItemL (eTup (aCons (eItem iT (eItem iL (eV v_rows) (eNeg (eV (.int 1)))) (eV (.int 0))) (aCons (eV v_code) (aCons (eItem iT (eItem iL (eV v_rows) (eNeg (eV (.int 1)))) (eV (.int 2))) aNil)))) (eV v_rows) (eNeg (eV (.int 1)))) fun b4 => (sEnd ()))
noncomputable def w_write_format_12_5 (low : Nat) (v_code v_rows v_codes : V) : WS (Unit) := (sSeq (sExpr (eApp (eV v_rows) (aCons (eTup (aCons (eV v_code) (aCons (eV v_code) (aCons (eItem iD (eV v_codes) (eV v_code)) aNil)))) aNil))) fun b5 => (sEnd ()))
noncomputable def w_write_format_12_3 (low : Nat) (v_code v_rows v_codes : V) : WS (Unit) := (sIf (tAnd (tCmp cNe0 (eV v_rows) (eList aNil)) (tAnd (tCmp cEq (eItem iT (eItem iL (eV v_rows) (eNeg (eV (.int 1)))) (eV (.int 1))) (eBin fSub (eV v_code) (eV (.int 1)))) (tAnd (tCmp cEq (eBin fSub (eBin fAdd (eItem iT (eItem iL (eV v_rows) (eNeg (eV (.int 1)))) (eV (.int 2))) (eV v_code)) (eItem iT (eItem iL (eV v_rows) (eNeg (eV (.int 1)))) (eV (.int 0)))) (eItem iD (eV v_codes) (eV v_code))) (tEnd true)))) (w_write_format_12_4 low v_code v_rows v_codes) (w_write_format_12_5 low v_code v_rows v_codes))
noncomputable def w_write_format_12_6 (low : Nat) (v_rows v_codes : V) : WS (Unit) := (sSeq (sSet (eJoin (eV (.bytes [])) (aCons (eComp (eV v_rows) sp3 (fun b8 => tT) (fun b8 => (eBin fAddB (eBin fAddB (eCall cw_put32 (aCons (eV b8.1) aNil)) (eCall cw_put32 (aCons (eV b8.2.1) aNil))) (eCall cw_put32 (aCons (eV b8.2.2) aNil))))) aNil))) fun b7 => (sRet (eBin fAddB (eBin fAddB (eBin fAddB (eBin fAddB (eBin fAddB (eCall cw_put16 (aCons (eV (.int 12)) aNil)) (eCall cw_put16 (aCons (eV (.int 0)) aNil))) (eCall cw_put32 (aCons (eBin fAdd (eV (.int 16)) (eCallB gLenB (aCons (eV b7) aNil))) aNil))) (eCall cw_put32 (aCons (eV (.int 0)) aNil))) (eCall cw_put32 (aCons (eCallB gLenL (aCons (eV v_rows) aNil)) aNil))) (eV b7))))
noncomputable def w_write_format_12_2 (low : Nat) (v_rows v_codes : V) : WS (Unit) := (sSeq (sFor (eCallB gSortD (aCons (eV v_codes) aNil)) (() : Unit) sp1 fun b2 b3 => (w_write_format_12_3 low b3 v_rows v_codes)) fun b2 => sFreeze low [v_codes] v_rows fun b6 => (w_write_format_12_6 low b6 v_codes))
noncomputable def w_write_format_12_1 (low : Nat) (v_codes : V) : WS (Unit) := (sSeq (sSet (eNewL aNil)) fun b1 => (w_write_format_12_2 low b1 v_codes))
noncomputable def wd_write_format_12 : WF := wf1 false fun low v_codes => (w_write_format_12_1 low v_codes)
theorem d_write_format_12 {C : Cx} (G : GOK C) (X0 : ExcOK C) : SF C 9 (defOf (Str.ofString "write_format_12")) wd_write_format_12 := by
  have eB := Eq.refl (defOf (Str.ofString "write_format_12")).body
  conv at eB => rhs; whnf
  exact SF.of1 (x := (Str.ofString "codes")) eB (by kernel_rfl) (by kernel_rfl) (by kernel_rfl) fun low a_codes => (SS.cons (S1.set (by kernel_rfl) (fun _ => rfl) (SE.newL SA.nil)) fun d1 => (SS.cons (S1.for (st := fun d2 : Unit => [((Str.ofString "rows"), d1), ((Str.ofString "codes"), a_codes)]) () (Sub.cons (by kernel_rfl) (Sub.cons (by kernel_rfl) Sub.nil)) (SE.sorted G biSortD (by kernel_rfl) (SA.cons (SE.name (by kernel_rfl) (by kernel_rfl)) SA.nil rfl)) (fun _ _ => rfl) (TG.name (by kernel_rfl)) fun d2 d3 => (SS.one (S1.if (ST.bool (STs.and (ST.cmp cpNe0 rfl (SE.name (by kernel_rfl) (by kernel_rfl)) (SE.list SA.nil)) (STs.and (ST.cmp cpEq rfl (SE.item itT (SE.item itL (SE.name (by kernel_rfl) (by kernel_rfl)) (SE.neg SE.int)) SE.int) (SE.bin opSub (SE.name (by kernel_rfl) (by kernel_rfl)) SE.int)) (STs.and (ST.cmp cpEq rfl (SE.bin opSub (SE.bin opAdd (SE.item itT (SE.item itL (SE.name (by kernel_rfl) (by kernel_rfl)) (SE.neg SE.int)) SE.int) (SE.name (by kernel_rfl) (by kernel_rfl))) (SE.item itT (SE.item itL (SE.name (by kernel_rfl) (by kernel_rfl)) (SE.neg SE.int)) SE.int)) (SE.item itD (SE.name (by kernel_rfl) (by kernel_rfl)) (SE.name (by kernel_rfl) (by kernel_rfl)))) STs.endA)))) (SS.cons (S1.itemL (SE.tup (SA.cons (SE.item itT (SE.item itL (SE.name (by kernel_rfl) (by kernel_rfl)) (SE.neg SE.int)) SE.int) (SA.cons (SE.name (by kernel_rfl) (by kernel_rfl)) (SA.cons (SE.item itT (SE.item itL (SE.name (by kernel_rfl) (by kernel_rfl)) (SE.neg SE.int)) SE.int) SA.nil rfl) rfl) rfl)) (SE.name (by kernel_rfl) (by kernel_rfl)) (SE.neg SE.int)) fun d4 => (SS.nil () (Sub.cons (by kernel_rfl) (Sub.cons (by kernel_rfl) Sub.nil)))) (SS.cons (S1.expr (SE.app (fun {_} => rfl) rfl (by decide) (SE.name (by kernel_rfl) (by kernel_rfl)) (SA.cons (SE.tup (SA.cons (SE.name (by kernel_rfl) (by kernel_rfl)) (SA.cons (SE.name (by kernel_rfl) (by kernel_rfl)) (SA.cons (SE.item itD (SE.name (by kernel_rfl) (by kernel_rfl)) (SE.name (by kernel_rfl) (by kernel_rfl))) SA.nil rfl) rfl) rfl)) SA.nil rfl))) fun d5 => (SS.nil () (Sub.cons (by kernel_rfl) (Sub.cons (by kernel_rfl) Sub.nil))))))) fun d2 => SS.weaken (vs0 := [((Str.ofString "rows"), d1), ((Str.ofString "codes"), a_codes)]) (Sub.cons (by kernel_rfl) (Sub.cons (by kernel_rfl) Sub.nil)) (SS.freeze fun d6 => (SS.cons (S1.set (by kernel_rfl) (fun _ => rfl) (SE.join (fun {_} => rfl) rfl (by decide) SE.bytes (SA.cons (SE.comp [] (by kernel_rfl) rfl (fun _ _ => rfl) Sub.nil Fr.nil (SE.name (by kernel_rfl) (by kernel_rfl)) (TG.three (by kernel_rfl) (by kernel_rfl) (by kernel_rfl)) (fun d8 => SI.nil) (fun d8 => (SE.bin opAddB (SE.bin opAddB (SE.callF G (by kernel_rfl) (by kernel_rfl) (by decide) (s_put32 G X0) (SA.cons (SE.name (by kernel_rfl) (by kernel_rfl)) SA.nil rfl)) (SE.callF G (by kernel_rfl) (by kernel_rfl) (by decide) (s_put32 G X0) (SA.cons (SE.name (by kernel_rfl) (by kernel_rfl)) SA.nil rfl))) (SE.callF G (by kernel_rfl) (by kernel_rfl) (by decide) (s_put32 G X0) (SA.cons (SE.name (by kernel_rfl) (by kernel_rfl)) SA.nil rfl))))) SA.nil rfl))) fun d7 => (SS.one (S1.ret (SE.bin opAddB (SE.bin opAddB (SE.bin opAddB (SE.bin opAddB (SE.bin opAddB (SE.callF G (by kernel_rfl) (by kernel_rfl) (by decide) (s_put16 G X0) (SA.cons SE.int SA.nil rfl)) (SE.callF G (by kernel_rfl) (by kernel_rfl) (by decide) (s_put16 G X0) (SA.cons SE.int SA.nil rfl))) (SE.callF G (by kernel_rfl) (by kernel_rfl) (by decide) (s_put32 G X0) (SA.cons (SE.bin opAdd SE.int (SE.len G biLenB (by kernel_rfl) (SA.cons (SE.name (by kernel_rfl) (by kernel_rfl)) SA.nil rfl))) SA.nil rfl))) (SE.callF G (by kernel_rfl) (by kernel_rfl) (by decide) (s_put32 G X0) (SA.cons SE.int SA.nil rfl))) (SE.callF G (by kernel_rfl) (by kernel_rfl) (by decide) (s_put32 G X0) (SA.cons (SE.len G biLenL (by kernel_rfl) (SA.cons (SE.name (by kernel_rfl) (by kernel_rfl)) SA.nil rfl)) SA.nil rfl))) (SE.name (by kernel_rfl) (by kernel_rfl)))))))))

noncomputable def cw_write_format_12 : WF := shut wd_write_format_12
theorem s_write_format_12 {C : Cx} (G : GOK C) (X0 : ExcOK C) : SF C 9 (defOf (Str.ofString "write_format_12")) cw_write_format_12 := (d_write_format_12 G X0).shut
noncomputable def w_write_map_4 (low : Nat) (v_form v_codes : V) : WS (Unit) := (sSeq (sIf (tCmp cEq (eV v_form) (eV (.int 12))) (sRet (eCall cw_write_format_12 (aCons (eV v_codes) aNil))) (sEnd ())) fun _ => (sRaise (eBin fAddS (eV (.str (Str.ofString "a map of signs of no known format: "))) (eCallB gStr (aCons (eV v_form) aNil)))))
noncomputable def w_write_map_3 (low : Nat) (v_form v_codes : V) : WS (Unit) := (sSeq (sIf (tCmp cEq (eV v_form) (eV (.int 6))) (sRet (eCall cw_write_format_6 (aCons (eV v_codes) aNil))) (sEnd ())) fun _ => (w_write_map_4 low v_form v_codes))
noncomputable def w_write_map_2 (low : Nat) (v_form v_codes : V) : WS (Unit) := (sSeq (sIf (tCmp cEq (eV v_form) (eV (.int 4))) (sRet (eCall cw_write_format_4 (aCons (eV v_codes) aNil))) (sEnd ())) fun _ => (w_write_map_3 low v_form v_codes))
noncomputable def w_write_map_1 (low : Nat) (v_form v_codes : V) : WS (Unit) := (sSeq (sIf (tCmp cEq (eV v_form) (eV (.int 0))) (sRet (eCall cw_write_format_0 (aCons (eV v_codes) aNil))) (sEnd ())) fun _ => (w_write_map_2 low v_form v_codes))
noncomputable def wd_write_map : WF := wf2 false fun low v_form v_codes => (w_write_map_1 low v_form v_codes)
theorem d_write_map {C : Cx} (G : GOK C) (X0 : ExcOK C) : SF C 12 (defOf (Str.ofString "write_map")) wd_write_map := by
  have eB := Eq.refl (defOf (Str.ofString "write_map")).body
  conv at eB => rhs; whnf
  exact SF.of2 (x := (Str.ofString "form")) (y := (Str.ofString "codes")) eB (by kernel_rfl) (by kernel_rfl) (by kernel_rfl) fun low a_form a_codes => (SS.cons (S1.if0 (ST.cmp cpEq rfl (SE.name (by kernel_rfl) (by kernel_rfl)) SE.int) (SS.one (S1.ret (SE.callF G (by kernel_rfl) (by kernel_rfl) (by decide) (s_write_format_0 G X0) (SA.cons (SE.name (by kernel_rfl) (by kernel_rfl)) SA.nil rfl))))) fun _ => (SS.cons (S1.if0 (ST.cmp cpEq rfl (SE.name (by kernel_rfl) (by kernel_rfl)) SE.int) (SS.one (S1.ret (SE.callF G (by kernel_rfl) (by kernel_rfl) (by decide) (s_write_format_4 G X0) (SA.cons (SE.name (by kernel_rfl) (by kernel_rfl)) SA.nil rfl))))) fun _ => (SS.cons (S1.if0 (ST.cmp cpEq rfl (SE.name (by kernel_rfl) (by kernel_rfl)) SE.int) (SS.one (S1.ret (SE.callF G (by kernel_rfl) (by kernel_rfl) (by decide) (s_write_format_6 G X0) (SA.cons (SE.name (by kernel_rfl) (by kernel_rfl)) SA.nil rfl))))) fun _ => (SS.cons (S1.if0 (ST.cmp cpEq rfl (SE.name (by kernel_rfl) (by kernel_rfl)) SE.int) (SS.one (S1.ret (SE.callF G (by kernel_rfl) (by kernel_rfl) (by decide) (s_write_format_12 G X0) (SA.cons (SE.name (by kernel_rfl) (by kernel_rfl)) SA.nil rfl))))) fun _ => (SS.one (S1.raise X0 (by decide) rfl (by kernel_rfl) (SE.bin opAddS SE.str (SE.cstr G biStr (by kernel_rfl) (SA.cons (SE.name (by kernel_rfl) (by kernel_rfl)) SA.nil rfl)))))))))

noncomputable def cw_write_map : WF := shut wd_write_map
theorem s_write_map {C : Cx} (G : GOK C) (X0 : ExcOK C) : SF C 12 (defOf (Str.ofString "write_map")) cw_write_map := (d_write_map G X0).shut
noncomputable def w_write_cmap_6 (low : Nat) (v_found v_platform v_encoding v_octets v_maps v_place v_rows : V) : WS (V × V) := (sSeq (sSet (eBin fAddB (eV v_maps) (eV v_octets))) fun b7 => (sEnd (b7, v_found)))
noncomputable def w_write_cmap_5 (low : Nat) (v_platform v_encoding v_octets v_maps v_found v_place v_rows : V) : WS (V × V) := (sSeq (sSet (eBin fAddB (eBin fAddB (eBin fAddB (eV v_found) (eCall cw_put16 (aCons (eV v_platform) aNil))) (eCall cw_put16 (aCons (eV v_encoding) aNil))) (eCall cw_put32 (aCons (eBin fAdd (eV v_place) (eCallB gLenB (aCons (eV v_maps) aNil))) aNil)))) fun b6 => (w_write_cmap_6 low b6 v_platform v_encoding v_octets v_maps v_place v_rows))
noncomputable def w_write_cmap_4 (low : Nat) (v_maps v_place v_found v_rows : V) : WS (Unit) := (sSeq (sFor (eCallB gSortR (aCons (eV v_rows) aNil)) ((v_maps, v_found) : V × V) sp3 fun b4 b5 => (w_write_cmap_5 low b5.1 b5.2.1 b5.2.2 b4.1 b4.2 v_place v_rows)) fun b4 => (sRet (eBin fAddB (eV b4.2) (eV b4.1))))
noncomputable def w_write_cmap_3 (low : Nat) (v_place v_found v_rows : V) : WS (Unit) := (sSeq (sSet (eV (.bytes []))) fun b3 => (w_write_cmap_4 low b3 v_place v_found v_rows))
noncomputable def w_write_cmap_2 (low : Nat) (v_found v_rows : V) : WS (Unit) := (sSeq (sSet (eBin fAdd (eV (.int 4)) (eBin fMul (eV (.int 8)) (eCallB gLenL (aCons (eV v_rows) aNil))))) fun b2 => (w_write_cmap_3 low b2 v_found v_rows))
noncomputable def w_write_cmap_1 (low : Nat) (v_rows : V) : WS (Unit) := (sSeq (sSet (eBin fAddB (eCall cw_put16 (aCons (eV (.int 0)) aNil)) (eCall cw_put16 (aCons (eCallB gLenL (aCons (eV v_rows) aNil)) aNil)))) fun b1 => (w_write_cmap_2 low b1 v_rows))
noncomputable def wd_write_cmap : WF := wf1 false fun low v_rows => (w_write_cmap_1 low v_rows)
theorem d_write_cmap {C : Cx} (G : GOK C) (X0 : ExcOK C) : SF C 9 (defOf (Str.ofString "write_cmap")) wd_write_cmap := by
  have eB := Eq.refl (defOf (Str.ofString "write_cmap")).body
  conv at eB => rhs; whnf
  exact SF.of1 (x := (Str.ofString "rows")) eB (by kernel_rfl) (by kernel_rfl) (by kernel_rfl) fun low a_rows => (SS.cons (S1.set (by kernel_rfl) (fun _ => rfl) (SE.bin opAddB (SE.callF G (by kernel_rfl) (by kernel_rfl) (by decide) (s_put16 G X0) (SA.cons SE.int SA.nil rfl)) (SE.callF G (by kernel_rfl) (by kernel_rfl) (by decide) (s_put16 G X0) (SA.cons (SE.len G biLenL (by kernel_rfl) (SA.cons (SE.name (by kernel_rfl) (by kernel_rfl)) SA.nil rfl)) SA.nil rfl)))) fun d1 => (SS.cons (S1.set (by kernel_rfl) (fun _ => rfl) (SE.bin opAdd SE.int (SE.bin opMul SE.int (SE.len G biLenL (by kernel_rfl) (SA.cons (SE.name (by kernel_rfl) (by kernel_rfl)) SA.nil rfl))))) fun d2 => (SS.cons (S1.set (by kernel_rfl) (fun _ => rfl) SE.bytes) fun d3 => (SS.cons (S1.for (st := fun d4 : V × V => [((Str.ofString "maps"), d4.1), ((Str.ofString "found"), d4.2), ((Str.ofString "place"), d2), ((Str.ofString "rows"), a_rows)]) (d3, d1) (Sub.cons (by kernel_rfl) (Sub.cons (by kernel_rfl) (Sub.cons (by kernel_rfl) (Sub.cons (by kernel_rfl) Sub.nil)))) (SE.sorted G biSortR (by kernel_rfl) (SA.cons (SE.name (by kernel_rfl) (by kernel_rfl)) SA.nil rfl)) (fun _ _ => rfl) (TG.three (by kernel_rfl) (by kernel_rfl) (by kernel_rfl)) fun d4 d5 => (SS.cons (S1.set (by kernel_rfl) (fun _ => rfl) (SE.bin opAddB (SE.bin opAddB (SE.bin opAddB (SE.name (by kernel_rfl) (by kernel_rfl)) (SE.callF G (by kernel_rfl) (by kernel_rfl) (by decide) (s_put16 G X0) (SA.cons (SE.name (by kernel_rfl) (by kernel_rfl)) SA.nil rfl))) (SE.callF G (by kernel_rfl) (by kernel_rfl) (by decide) (s_put16 G X0) (SA.cons (SE.name (by kernel_rfl) (by kernel_rfl)) SA.nil rfl))) (SE.callF G (by kernel_rfl) (by kernel_rfl) (by decide) (s_put32 G X0) (SA.cons (SE.bin opAdd (SE.name (by kernel_rfl) (by kernel_rfl)) (SE.len G biLenB (by kernel_rfl) (SA.cons (SE.name (by kernel_rfl) (by kernel_rfl)) SA.nil rfl))) SA.nil rfl)))) fun d6 => (SS.cons (S1.set (by kernel_rfl) (fun _ => rfl) (SE.bin opAddB (SE.name (by kernel_rfl) (by kernel_rfl)) (SE.name (by kernel_rfl) (by kernel_rfl)))) fun d7 => (SS.nil (d7, d6) (Sub.cons (by kernel_rfl) (Sub.cons (by kernel_rfl) (Sub.cons (by kernel_rfl) (Sub.cons (by kernel_rfl) Sub.nil)))))))) fun d4 => (SS.one (S1.ret (SE.bin opAddB (SE.name (by kernel_rfl) (by kernel_rfl)) (SE.name (by kernel_rfl) (by kernel_rfl)))))))))

noncomputable def cw_write_cmap : WF := shut wd_write_cmap
theorem s_write_cmap {C : Cx} (G : GOK C) (X0 : ExcOK C) : SF C 9 (defOf (Str.ofString "write_cmap")) cw_write_cmap := (d_write_cmap G X0).shut
noncomputable def w_law_pool_2 (low : Nat) (v_cell v_script v_k : V) : WS (Unit) := (sSeq (sSet (eCallB gMax (aCons (eCallB gInt (aCons (eV v_cell) aNil)) (aCons (eCallB gInt (aCons (eBin fSub (eNeg (eV (.int 1))) (eV v_cell)) aNil)) aNil)))) fun b2 => (sRet (eNewL (aCons (eBin fMul (eV b2) (eCallB gIntB (aCons (eB (tCmp cGe (eV b2) (eBin fPow (eV (.int 10)) (eV (.int 18))))) aNil))) (aCons (eBin fMod (eBin fMul (eBin fAdd (eBin fAdd (eBin fMod (eV b2) (eV (.int 2147483629))) (eBin fMul (eV (.int 7919)) (eV v_k))) (eV (.int 17))) (eV (.int 48271))) (eV (.int 2147483647))) aNil)))))
noncomputable def w_law_pool_1 (low : Nat) (v_script v_k : V) : WS (Unit) := (sSeq (sSet (eIf (tCmp cLt (eV v_k) (eCallB gLenL (aCons (eV v_script) aNil))) (eItem iL (eV v_script) (eV v_k)) (eV (.int 0)))) fun b1 => (w_law_pool_2 low b1 v_script v_k))
noncomputable def wd_law_pool : WF := wf2 true fun low v_script v_k => (w_law_pool_1 low v_script v_k)
theorem d_law_pool {C : Cx} (G : GOK C) (X0 : ExcOK C) : SF C 3 (defOf (Str.ofString "_law_pool")) wd_law_pool := by
  have eB := Eq.refl (defOf (Str.ofString "_law_pool")).body
  conv at eB => rhs; whnf
  exact SF.of2 (x := (Str.ofString "script")) (y := (Str.ofString "k")) eB (by kernel_rfl) (by kernel_rfl) (by kernel_rfl) fun low a_script a_k => (SS.cons (S1.set (by kernel_rfl) (fun _ => rfl) (SE.ite (ST.cmp cpLt rfl (SE.name (by kernel_rfl) (by kernel_rfl)) (SE.len G biLenL (by kernel_rfl) (SA.cons (SE.name (by kernel_rfl) (by kernel_rfl)) SA.nil rfl))) (SE.item itL (SE.name (by kernel_rfl) (by kernel_rfl)) (SE.name (by kernel_rfl) (by kernel_rfl))) SE.int)) fun d1 => (SS.cons (S1.set (by kernel_rfl) (fun _ => rfl) (SE.max G biMax (by kernel_rfl) (SA.cons (SE.cint G biInt (by kernel_rfl) (SA.cons (SE.name (by kernel_rfl) (by kernel_rfl)) SA.nil rfl)) (SA.cons (SE.cint G biInt (by kernel_rfl) (SA.cons (SE.bin opSub (SE.neg SE.int) (SE.name (by kernel_rfl) (by kernel_rfl))) SA.nil rfl)) SA.nil rfl) rfl))) fun d2 => (SS.one (S1.ret (SE.newL (SA.cons (SE.bin opMul (SE.name (by kernel_rfl) (by kernel_rfl)) (SE.cint G biIntB (by kernel_rfl) (SA.cons (SE.cmp cpGe rfl (SE.name (by kernel_rfl) (by kernel_rfl)) (SE.bin opPow SE.int SE.int)) SA.nil rfl))) (SA.cons (SE.bin opMod (SE.bin opMul (SE.bin opAdd (SE.bin opAdd (SE.bin opMod (SE.name (by kernel_rfl) (by kernel_rfl)) SE.int) (SE.bin opMul SE.int (SE.name (by kernel_rfl) (by kernel_rfl)))) SE.int) SE.int) SE.int) SA.nil rfl) rfl))))))

noncomputable def cw_law_pool : WF := shut wd_law_pool
theorem s_law_pool {C : Cx} (G : GOK C) (X0 : ExcOK C) : SF C 3 (defOf (Str.ofString "_law_pool")) cw_law_pool := (d_law_pool G X0).shut
noncomputable def w_law_take_3 (low : Nat) (v_drawn v_source v_top : V) : WS (Unit) := (sSeq (sItemL (eBin fDiv (eItem iL (eV v_source) (eV (.int 0))) (eV v_top)) (eV v_source) (eV (.int 0))) fun b3 => (sRet (eV v_drawn)))
noncomputable def w_law_take_2 (low : Nat) (v_source v_top : V) : WS (Unit) := (sSeq (sSet (eBin fMod (eItem iL (eV v_source) (eV (.int 0))) (eV v_top))) fun b2 => (w_law_take_3 low b2 v_source v_top))
noncomputable def w_law_take_4 (low : Nat) (v_source v_top : V) : WS (Unit) := (sSeq (sItemL (eBin fMod (eBin fAdd (eBin fMul (eItem iL (eV v_source) (eV (.int 1))) (eV (.int 39373))) (eV (.int 7))) (eV (.int 2147483647))) (eV v_source) (eV (.int 1))) fun b4 => (sRet (eBin fMod (eBin fDiv (eBin fMod (eBin fMul (eItem iL (eV v_source) (eV (.int 1))) (eItem iL (eV v_source) (eV (.int 1)))) (eV (.int 2147483629))) (eV (.int 32))) (eV v_top))))
noncomputable def w_law_take_1 (low : Nat) (v_source v_top : V) : WS (Unit) := (sSeq (sIf (tCmp cGt (eItem iL (eV v_source) (eV (.int 0))) (eV (.int 0))) (w_law_take_2 low v_source v_top) (sEnd ())) fun _ => (w_law_take_4 low v_source v_top))
noncomputable def wd_law_take : WF := wf2 false fun low v_source v_top => (w_law_take_1 low v_source v_top)
theorem d_law_take {C : Cx} (G : GOK C) (X0 : ExcOK C) : SF C 3 (defOf (Str.ofString "_law_take")) wd_law_take := by
  have eB := Eq.refl (defOf (Str.ofString "_law_take")).body
  conv at eB => rhs; whnf
  exact SF.of2 (x := (Str.ofString "source")) (y := (Str.ofString "top")) eB (by kernel_rfl) (by kernel_rfl) (by kernel_rfl) fun low a_source a_top => (SS.cons (S1.if0 (ST.cmp cpGt rfl (SE.item itL (SE.name (by kernel_rfl) (by kernel_rfl)) SE.int) SE.int) (SS.cons (S1.set (by kernel_rfl) (fun _ => rfl) (SE.bin opMod (SE.item itL (SE.name (by kernel_rfl) (by kernel_rfl)) SE.int) (SE.name (by kernel_rfl) (by kernel_rfl)))) fun d2 => (SS.cons (S1.itemL (SE.bin opDiv (SE.item itL (SE.name (by kernel_rfl) (by kernel_rfl)) SE.int) (SE.name (by kernel_rfl) (by kernel_rfl))) (SE.name (by kernel_rfl) (by kernel_rfl)) SE.int) fun d3 => (SS.one (S1.ret (SE.name (by kernel_rfl) (by kernel_rfl))))))) fun _ => (SS.cons (S1.itemL (SE.bin opMod (SE.bin opAdd (SE.bin opMul (SE.item itL (SE.name (by kernel_rfl) (by kernel_rfl)) SE.int) SE.int) SE.int) SE.int) (SE.name (by kernel_rfl) (by kernel_rfl)) SE.int) fun d4 => (SS.one (S1.ret (SE.bin opMod (SE.bin opDiv (SE.bin opMod (SE.bin opMul (SE.item itL (SE.name (by kernel_rfl) (by kernel_rfl)) SE.int) (SE.item itL (SE.name (by kernel_rfl) (by kernel_rfl)) SE.int)) SE.int) SE.int) (SE.name (by kernel_rfl) (by kernel_rfl)))))))

noncomputable def cw_law_take : WF := shut wd_law_take
theorem s_law_take {C : Cx} (G : GOK C) (X0 : ExcOK C) : SF C 3 (defOf (Str.ofString "_law_take")) cw_law_take := (d_law_take G X0).shut

noncomputable def wd_law_one : WF := wf2 false fun low v_source v_things => (sRet (eItem iL (eV v_things) (eCall cw_law_take (aCons (eV v_source) (aCons (eCallB gLenL (aCons (eV v_things) aNil)) aNil)))))
theorem d_law_one {C : Cx} (G : GOK C) (X0 : ExcOK C) : SF C 6 (defOf (Str.ofString "_law_one")) wd_law_one := by
  have eB := Eq.refl (defOf (Str.ofString "_law_one")).body
  conv at eB => rhs; whnf
  exact SF.of2 (x := (Str.ofString "source")) (y := (Str.ofString "things")) eB (by kernel_rfl) (by kernel_rfl) (by kernel_rfl) fun low a_source a_things => (SS.one (S1.ret (SE.item itL (SE.name (by kernel_rfl) (by kernel_rfl)) (SE.callF G (by kernel_rfl) (by kernel_rfl) (by decide) (s_law_take G X0) (SA.cons (SE.name (by kernel_rfl) (by kernel_rfl)) (SA.cons (SE.len G biLenL (by kernel_rfl) (SA.cons (SE.name (by kernel_rfl) (by kernel_rfl)) SA.nil rfl)) SA.nil rfl) rfl)))))

noncomputable def cw_law_one : WF := shut wd_law_one
theorem s_law_one {C : Cx} (G : GOK C) (X0 : ExcOK C) : SF C 6 (defOf (Str.ofString "_law_one")) cw_law_one := (d_law_one G X0).shut
noncomputable def w_law_codes_5 (low : Nat) (v_code v_turn v_found v_source : V) : WS (V) := (sSeq (sItemD (eBin fAdd (eV (.int 1)) (eBin fMod (eBin fAdd (eV v_code) (eCall cw_law_one (aCons (eV v_source) (aCons (eList (aCons (eV (.int 0)) (aCons (eV (.int 0)) (aCons (eV (.int 3)) aNil)))) aNil)))) (eV (.int 200)))) (eV v_found) (eV v_code)) fun b5 => (sEnd v_code))
noncomputable def w_law_codes_4 (low : Nat) (v_code v_turn v_found v_source : V) : WS (V) := (sIf (tCmp cLt (eV v_code) (eV (.int 65535))) (w_law_codes_5 low v_code v_turn v_found v_source) (sEnd v_code))
noncomputable def w_law_codes_3 (low : Nat) (v_turn v_code v_found v_source : V) : WS (V) := (sSeq (sSet (eBin fAdd (eV v_code) (eCall cw_law_one (aCons (eV v_source) (aCons (eList (aCons (eV (.int 1)) (aCons (eV (.int 1)) (aCons (eV (.int 1)) (aCons (eV (.int 2)) (aCons (eV (.int 5)) aNil)))))) aNil))))) fun b4 => (w_law_codes_4 low b4 v_turn v_found v_source))
noncomputable def w_law_codes_2 (low : Nat) (v_found v_code v_source : V) : WS (Unit) := (sSeq (sFor (eCallB gRange1 (aCons (eCall cw_law_take (aCons (eV v_source) (aCons (eV (.int 7)) aNil))) aNil)) (v_code : V) sp1 fun b2 b3 => (w_law_codes_3 low b3 b2 v_found v_source)) fun b2 => (sRet (eV v_found)))
noncomputable def w_law_codes_1 (low : Nat) (v_source : V) : WS (Unit) := (sSeq (sTup2 (aCons eNewD (aCons (eCall cw_law_one (aCons (eV v_source) (aCons (eList (aCons (eV (.int 0)) (aCons (eV (.int 30)) (aCons (eV (.int 250)) (aCons (eV (.int 65520)) aNil))))) aNil))) aNil))) fun b1 => (w_law_codes_2 low b1.1 b1.2 v_source))
noncomputable def wd_law_codes : WF := wf1 false fun low v_source => (w_law_codes_1 low v_source)
theorem d_law_codes {C : Cx} (G : GOK C) (X0 : ExcOK C) : SF C 9 (defOf (Str.ofString "_law_codes")) wd_law_codes := by
  have eB := Eq.refl (defOf (Str.ofString "_law_codes")).body
  conv at eB => rhs; whnf
  exact SF.of1 (x := (Str.ofString "source")) eB (by kernel_rfl) (by kernel_rfl) (by kernel_rfl) fun low a_source => (SS.cons (S1.tup2 (by kernel_rfl) (by kernel_rfl) (by decide +kernel) (by kernel_rfl) (by kernel_rfl) (SA.cons SE.newD (SA.cons (SE.callF G (by kernel_rfl) (by kernel_rfl) (by decide) (s_law_one G X0) (SA.cons (SE.name (by kernel_rfl) (by kernel_rfl)) (SA.cons (SE.list (SA.cons SE.int (SA.cons SE.int (SA.cons SE.int (SA.cons SE.int SA.nil rfl) rfl) rfl) rfl)) SA.nil rfl) rfl)) SA.nil rfl) rfl)) fun d1 => (SS.cons (S1.for (st := fun d2 : V => [((Str.ofString "code"), d2), ((Str.ofString "found"), d1.1), ((Str.ofString "source"), a_source)]) d1.2 (Sub.cons (by kernel_rfl) (Sub.cons (by kernel_rfl) (Sub.cons (by kernel_rfl) Sub.nil))) (SE.range G biRange1 (by kernel_rfl) (SA.cons (SE.callF G (by kernel_rfl) (by kernel_rfl) (by decide) (s_law_take G X0) (SA.cons (SE.name (by kernel_rfl) (by kernel_rfl)) (SA.cons SE.int SA.nil rfl) rfl)) SA.nil rfl)) (fun _ _ => rfl) (TG.name (by kernel_rfl)) fun d2 d3 => (SS.cons (S1.set (by kernel_rfl) (fun _ => rfl) (SE.bin opAdd (SE.name (by kernel_rfl) (by kernel_rfl)) (SE.callF G (by kernel_rfl) (by kernel_rfl) (by decide) (s_law_one G X0) (SA.cons (SE.name (by kernel_rfl) (by kernel_rfl)) (SA.cons (SE.list (SA.cons SE.int (SA.cons SE.int (SA.cons SE.int (SA.cons SE.int (SA.cons SE.int SA.nil rfl) rfl) rfl) rfl) rfl)) SA.nil rfl) rfl)))) fun d4 => (SS.one (S1.if (ST.cmp cpLt rfl (SE.name (by kernel_rfl) (by kernel_rfl)) SE.int) (SS.cons (S1.itemD (SE.bin opAdd SE.int (SE.bin opMod (SE.bin opAdd (SE.name (by kernel_rfl) (by kernel_rfl)) (SE.callF G (by kernel_rfl) (by kernel_rfl) (by decide) (s_law_one G X0) (SA.cons (SE.name (by kernel_rfl) (by kernel_rfl)) (SA.cons (SE.list (SA.cons SE.int (SA.cons SE.int (SA.cons SE.int SA.nil rfl) rfl) rfl)) SA.nil rfl) rfl))) SE.int)) (SE.name (by kernel_rfl) (by kernel_rfl)) (SE.name (by kernel_rfl) (by kernel_rfl))) fun d5 => (SS.nil d4 (Sub.cons (by kernel_rfl) (Sub.cons (by kernel_rfl) (Sub.cons (by kernel_rfl) Sub.nil))))) (SS.nil d4 (Sub.cons (by kernel_rfl) (Sub.cons (by kernel_rfl) (Sub.cons (by kernel_rfl) Sub.nil)))))))) fun d2 => (SS.one (S1.ret (SE.name (by kernel_rfl) (by kernel_rfl))))))

noncomputable def cw_law_codes : WF := shut wd_law_codes
theorem s_law_codes {C : Cx} (G : GOK C) (X0 : ExcOK C) : SF C 9 (defOf (Str.ofString "_law_codes")) cw_law_codes := (d_law_codes G X0).shut
noncomputable def w_law_beside_3 (low : Nat) (v_code v_found v_codes : V) : WS (V) := (sSeq (sSet (eBin fAddL (eV v_found) (eList (aCons (eV v_code) (aCons (eBin fAdd (eV v_code) (eV (.int 1))) (aCons (eCallB gMax (aCons (eV (.int 0)) (aCons (eBin fSub (eV v_code) (eV (.int 1))) aNil))) aNil)))))) fun b4 => (sEnd b4))
noncomputable def w_law_beside_2 (low : Nat) (v_found v_codes : V) : WS (Unit) := (sSeq (sFor (eV v_codes) (v_found : V) sp1 fun b2 b3 => (w_law_beside_3 low b3 b2 v_codes)) fun b2 => (sRet (eV b2)))
noncomputable def w_law_beside_1 (low : Nat) (v_codes : V) : WS (Unit) := (sSeq (sSet (eList (aCons (eV (.int 0)) (aCons (eV (.int 31)) (aCons (eV (.int 65535)) aNil))))) fun b1 => (w_law_beside_2 low b1 v_codes))
noncomputable def wd_law_beside : WF := wf1 false fun low v_codes => (w_law_beside_1 low v_codes)
theorem d_law_beside {C : Cx} (G : GOK C) (X0 : ExcOK C) : SF C 3 (defOf (Str.ofString "_law_beside")) wd_law_beside := by
  have eB := Eq.refl (defOf (Str.ofString "_law_beside")).body
  conv at eB => rhs; whnf
  exact SF.of1 (x := (Str.ofString "codes")) eB (by kernel_rfl) (by kernel_rfl) (by kernel_rfl) fun low a_codes => (SS.cons (S1.set (by kernel_rfl) (fun _ => rfl) (SE.list (SA.cons SE.int (SA.cons SE.int (SA.cons SE.int SA.nil rfl) rfl) rfl))) fun d1 => (SS.cons (S1.for (st := fun d2 : V => [((Str.ofString "found"), d2), ((Str.ofString "codes"), a_codes)]) d1 (Sub.cons (by kernel_rfl) (Sub.cons (by kernel_rfl) Sub.nil)) (SE.name (by kernel_rfl) (by kernel_rfl)) (fun _ _ => rfl) (TG.name (by kernel_rfl)) fun d2 d3 => (SS.cons (S1.set (by kernel_rfl) (fun _ => rfl) (SE.bin opAddL (SE.name (by kernel_rfl) (by kernel_rfl)) (SE.list (SA.cons (SE.name (by kernel_rfl) (by kernel_rfl)) (SA.cons (SE.bin opAdd (SE.name (by kernel_rfl) (by kernel_rfl)) SE.int) (SA.cons (SE.max G biMax (by kernel_rfl) (SA.cons SE.int (SA.cons (SE.bin opSub (SE.name (by kernel_rfl) (by kernel_rfl)) SE.int) SA.nil rfl) rfl)) SA.nil rfl) rfl) rfl)))) fun d4 => (SS.nil d4 (Sub.cons (by kernel_rfl) (Sub.cons (by kernel_rfl) Sub.nil))))) fun d2 => (SS.one (S1.ret (SE.name (by kernel_rfl) (by kernel_rfl))))))

noncomputable def cw_law_beside : WF := shut wd_law_beside
theorem s_law_beside {C : Cx} (G : GOK C) (X0 : ExcOK C) : SF C 3 (defOf (Str.ofString "_law_beside")) cw_law_beside := (d_law_beside G X0).shut

noncomputable def cFind0 (c : Str) : WF := if c = Str.ofString "ByteMap" then cw_ByteMap_find else if c = Str.ofString "TrimmedMap" then cw_TrimmedMap_find else if c = Str.ofString "SegmentMap" then cw_SegmentMap_find else cw_GroupMap_find
theorem cFind0_1 : cFind0 (Str.ofString "ByteMap") = cw_ByteMap_find := if_pos rfl
theorem cFind0_2 : cFind0 (Str.ofString "TrimmedMap") = cw_TrimmedMap_find := (if_neg (by decide +kernel)).trans (if_pos rfl)
theorem cFind0_3 : cFind0 (Str.ofString "SegmentMap") = cw_SegmentMap_find := (if_neg (by decide +kernel)).trans ((if_neg (by decide +kernel)).trans (if_pos rfl))
theorem cFind0_4 : cFind0 (Str.ofString "GroupMap") = cw_GroupMap_find := (if_neg (by decide +kernel)).trans ((if_neg (by decide +kernel)).trans (if_neg (by decide +kernel)))
noncomputable def cFind (c : Str) : WF := shut (cFind0 c)
theorem s_find {C : Cx} (G : GOK C) (X0 : ExcOK C) : ∀ c, isClsName c = true → SF C 6 (methOf c (Str.ofString "find")) (cFind c) := fun c hx => SF.shut (by
  simp only [isClsName, clsNames, List.any_cons, List.any_nil, Bool.or_eq_true, decide_eq_true_eq, Bool.or_false] at hx
  rcases hx with rfl | rfl | rfl | rfl
  · rw [cFind0_1]; exact (s_ByteMap_find G X0).mono (by decide)
  · rw [cFind0_2]; exact (s_TrimmedMap_find G X0).mono (by decide)
  · rw [cFind0_3]; exact s_SegmentMap_find G X0
  · rw [cFind0_4]; exact s_GroupMap_find G X0)
noncomputable def w_law_map_right_2 (low : Nat) (v_code v_told v_codes v_most : V) : WS (Unit) := (sIf (tCmp cNe (eFind cFind (eV v_told) (aCons (eV v_code) aNil)) (eIf (tCmp cLe (eV v_code) (eV v_most)) (eGet (eV v_codes) (aCons (eV v_code) (aCons (eV (.int 0)) aNil))) (eV (.int 0)))) (sRet (eV (.bool false))) (sEnd ()))
noncomputable def w_law_map_right_1 (low : Nat) (v_told v_codes v_most : V) : WS (Unit) := (sSeq (sFor (eCall cw_law_beside (aCons (eV v_codes) aNil)) (() : Unit) sp1 fun b1 b2 => (w_law_map_right_2 low b2 v_told v_codes v_most)) fun b1 => (sRet (eB (tCmp cEq (eFind cFind (eV v_told) (aCons (eV (.int 70000)) aNil)) (eV (.int 0))))))
noncomputable def wd_law_map_right : WF := wf3 false fun low v_told v_codes v_most => (w_law_map_right_1 low v_told v_codes v_most)
theorem d_law_map_right {C : Cx} (G : GOK C) (X0 : ExcOK C) : SF C 9 (defOf (Str.ofString "_law_map_right")) wd_law_map_right := by
  have eB := Eq.refl (defOf (Str.ofString "_law_map_right")).body
  conv at eB => rhs; whnf
  exact SF.of3 (x := (Str.ofString "told")) (y := (Str.ofString "codes")) (z := (Str.ofString "most")) eB (by kernel_rfl) (by kernel_rfl) (by kernel_rfl) fun low a_told a_codes a_most => (SS.cons (S1.for (st := fun d1 : Unit => [((Str.ofString "told"), a_told), ((Str.ofString "codes"), a_codes), ((Str.ofString "most"), a_most)]) () (Sub.cons (by kernel_rfl) (Sub.cons (by kernel_rfl) (Sub.cons (by kernel_rfl) Sub.nil))) (SE.callF G (by kernel_rfl) (by kernel_rfl) (by decide) (s_law_beside G X0) (SA.cons (SE.name (by kernel_rfl) (by kernel_rfl)) SA.nil rfl)) (fun _ _ => rfl) (TG.name (by kernel_rfl)) fun d1 d2 => (SS.one (S1.if (ST.cmp cpNe rfl (SE.find G (fun {_} => rfl) rfl (by decide) (by decide) (s_find G X0) (SE.name (by kernel_rfl) (by kernel_rfl)) (SA.cons (SE.name (by kernel_rfl) (by kernel_rfl)) SA.nil rfl)) (SE.ite (ST.cmp cpLe rfl (SE.name (by kernel_rfl) (by kernel_rfl)) (SE.name (by kernel_rfl) (by kernel_rfl))) (SE.get (fun {_} => rfl) rfl (by decide) (SE.name (by kernel_rfl) (by kernel_rfl)) (SA.cons (SE.name (by kernel_rfl) (by kernel_rfl)) (SA.cons SE.int SA.nil rfl) rfl)) SE.int)) (SS.one (S1.ret SE.bool)) (SS.nil () (Sub.cons (by kernel_rfl) (Sub.cons (by kernel_rfl) (Sub.cons (by kernel_rfl) Sub.nil))))))) fun d1 => (SS.one (S1.ret (SE.cmp cpEq rfl (SE.find G (fun {_} => rfl) rfl (by decide) (by decide) (s_find G X0) (SE.name (by kernel_rfl) (by kernel_rfl)) (SA.cons SE.int SA.nil rfl)) SE.int))))

noncomputable def cw_law_map_right : WF := shut wd_law_map_right
theorem s_law_map_right {C : Cx} (G : GOK C) (X0 : ExcOK C) : SF C 9 (defOf (Str.ofString "_law_map_right")) cw_law_map_right := (d_law_map_right G X0).shut
noncomputable def lSeq {β : Type} (W : WS β) (R : β → List V → Prop) : List V → Prop := fun hp => W hp (fun x hp1 => R x hp1) (fun _ _ => False) False
noncomputable def lLast (WA : WL) (Wf : List UInt8 → WP) : List V → Prop := fun hp => WA hp (fun l _ => ∃ b, l = [.bytes b] ∧ Wf b [] (fun _ _ => False) True) False ∧ Wf twoBytes [] (fun _ _ => False) True
section
variable {C : Cx} {F : Frm} {vs : Vars} {n m : Nat}
theorem LL.seq {β : Type} {st1 : β → Vars} {b r W} {R : β → List V → Prop} (h : S1 C n F st1 vs b W) (hr : ∀ x, LL C n F (st1 x) r (R x)) : LL C n F vs (b :: r) (lSeq W R) := LL.cons h hr
theorem LL.end (G : GOK C) (X : ExcOK C) (hm : m + 1 ≤ n) {st : Stmt} {e1 fe : Expr} (hst : lastOK st e1) (hf : fellOK (defOf (Str.ofString "_law_fell")) fe) (hfc : ∀ p, ∀ env, swapsWith fe none p env = pure false) {WA : WL} {Wf : List UInt8 → WP} (hA : SA C n F vs [e1] WA) (hE : ∀ b, SE C m ⟨(defOf (Str.ofString "_law_fell")).names, false, 0⟩ [(("octets" : Str), .bytes b)] fe (Wf b))
    (hg1 : F.names.lookup ("_law_fell" : Str) = some .globalImplicit) (hg2 : F.names.lookup ("bytes" : Str) = some .globalImplicit) : LL C n F vs [st] (lLast WA Wf) := LL.last G X hm hst hf hfc hA hE hg1 hg2
end
noncomputable def w_law_4 (low : Nat) (v_form v_codes v_others v_source v_script : V) : WS (Unit) := (sIf (tNot (tE (eCall cw_law_map_right (aCons (eCall cw_read_map (aCons (eCall cw_write_map (aCons (eV v_form) (aCons (eV v_codes) aNil))) aNil)) (aCons (eV v_codes) (aCons (eIf (tCmp cEq (eV v_form) (eV (.int 0))) (eV (.int 255)) (eV (.int 65535))) aNil)))))) (sRet (eV (.bool false))) (sEnd ()))
noncomputable def w_law_14 (low : Nat) (v_pick v_best v_rows v_told v_far v_uneven v_codes v_others v_source v_script : V) : WS (V × V) := (sSeq (sTup2 (aCons (eBin fAddL (eV v_rows) (eList (aCons (eTup (aCons (eItem iT (eV v_pick) (eV (.int 0))) (aCons (eItem iT (eV v_pick) (eV (.int 1))) (aCons (eCall cw_write_map (aCons (eV (.int 12)) (aCons (eV v_far) aNil))) aNil)))) aNil))) (aCons (eV v_far) aNil))) fun b15 => (sEnd (b15.2, b15.1)))
noncomputable def w_law_17 (low : Nat) (v_code v_table v_pick v_best v_rows v_told v_far v_uneven v_codes v_others v_source v_script : V) : WS (Unit) := (sIf (tCmp cNe (eFind cFind (eV v_table) (aCons (eV v_code) aNil)) (eGet (eV v_best) (aCons (eV v_code) (aCons (eV (.int 0)) aNil)))) (sRet (eV (.bool false))) (sEnd ()))
noncomputable def w_law_21 (low : Nat) (v_short v_plain v_table v_pick v_best v_rows v_told v_far v_uneven v_codes v_others v_source v_script : V) : List V → Prop := lLast (aCons (eCutH (eV v_short) (eCall cw_law_one (aCons (eV v_source) (aCons (eList (aCons (eV (.int 0)) (aCons (eV (.int 1)) (aCons (eV (.int 15)) (aCons (eV (.int 20)) aNil))))) aNil)))) aNil) fun b => (eCall cw_read_map (aCons (eV (.bytes b)) aNil))
noncomputable def w_law_20 (low : Nat) (v_plain v_table v_pick v_best v_rows v_told v_far v_uneven v_codes v_others v_source v_script : V) : List V → Prop := (lSeq (sSet (eCall cw_write_map (aCons (eCall cw_law_one (aCons (eV v_source) (aCons (eList (aCons (eV (.int 4)) (aCons (eV (.int 12)) aNil))) aNil))) (aCons (eV (.dict [(5, 1), (7, 9)])) aNil)))) fun b22 => (w_law_21 1 b22 v_plain v_table v_pick v_best v_rows v_told v_far v_uneven v_codes v_others v_source v_script))
noncomputable def w_law_19 (low : Nat) (v_plain v_table v_pick v_best v_rows v_told v_far v_uneven v_codes v_others v_source v_script : V) : List V → Prop := (lSeq (sIf (tCmp cNeL (eComp (eList (aCons (eV (.int 6)) (aCons (eV (.int 7)) (aCons (eV (.int 8)) (aCons (eV (.int 9)) (aCons (eV (.int 10)) aNil)))))) sp1 (fun b21 => tT) (fun b21 => (eFind cFind (eV v_plain) (aCons (eV b21) aNil)))) (eList (aCons (eV (.int 0)) (aCons (eV (.int 3)) (aCons (eV (.int 0)) (aCons (eV (.int 4)) (aCons (eV (.int 0)) aNil))))))) (sRet (eV (.bool false))) (sEnd ())) fun _ => (w_law_20 1 v_plain v_table v_pick v_best v_rows v_told v_far v_uneven v_codes v_others v_source v_script))
noncomputable def w_law_18 (low : Nat) (v_table v_pick v_best v_rows v_told v_far v_uneven v_codes v_others v_source v_script : V) : List V → Prop := (lSeq (sSet (eCall cw_read_cmap (aCons (eCall cw_write_cmap (aCons (eList (aCons (eTup (aCons (eV (.int 9)) (aCons (eV (.int 9)) (aCons (eCall cw_write_map (aCons (eV (.int 12)) (aCons (eV v_far) aNil))) aNil)))) (aCons (eTup (aCons (eV (.int 9)) (aCons (eV (.int 8)) (aCons (eCall cw_write_map (aCons (eV (.int 6)) (aCons (eV v_others) aNil))) aNil)))) aNil))) aNil)) aNil))) fun b19 => (w_law_19 1 b19 v_table v_pick v_best v_rows v_told v_far v_uneven v_codes v_others v_source v_script))
noncomputable def w_law_16 (low : Nat) (v_table v_pick v_best v_rows v_told v_far v_uneven v_codes v_others v_source v_script : V) : List V → Prop := (lSeq (sFor (eBin fAddL (eCall cw_law_beside (aCons (eV v_best) aNil)) (eList (aCons (eV (.int 7)) (aCons (eV (.int 9)) aNil)))) (() : Unit) sp1 fun b17 b18 => (w_law_17 low b18 v_table v_pick v_best v_rows v_told v_far v_uneven v_codes v_others v_source v_script)) fun b17 => (w_law_18 1 v_table v_pick v_best v_rows v_told v_far v_uneven v_codes v_others v_source v_script))
noncomputable def w_law_15 (low : Nat) (v_pick v_best v_rows v_told v_far v_uneven v_codes v_others v_source v_script : V) : List V → Prop := (lSeq (sSet (eCall cw_read_cmap (aCons (eCall cw_write_cmap (aCons (eRev (eV v_rows)) aNil)) aNil))) fun b16 => (w_law_16 1 b16 v_pick v_best v_rows v_told v_far v_uneven v_codes v_others v_source v_script))
noncomputable def w_law_13 (low : Nat) (v_pick v_best v_rows v_told v_far v_uneven v_codes v_others v_source v_script : V) : List V → Prop := (lSeq (sIf (tCmp cNone (eV v_pick) (eV .none)) (w_law_14 low v_pick v_best v_rows v_told v_far v_uneven v_codes v_others v_source v_script) (sEnd (v_best, v_rows))) fun b14 => (w_law_15 1 v_pick b14.1 b14.2 v_told v_far v_uneven v_codes v_others v_source v_script))
noncomputable def w_law_12 (low : Nat) (v_best v_rows v_told v_far v_uneven v_codes v_others v_source v_script : V) : List V → Prop := (lSeq (sSet (eCall cw_law_one (aCons (eV v_source) (aCons (eList (aCons (eV .none) (aCons (eTup (aCons (eV (.int 3)) (aCons (eV (.int 10)) aNil))) (aCons (eTup (aCons (eV (.int 0)) (aCons (eV (.int 4)) aNil))) (aCons (eTup (aCons (eV (.int 0)) (aCons (eV (.int 3)) aNil))) aNil))))) aNil)))) fun b13 => (w_law_13 1 b13 v_best v_rows v_told v_far v_uneven v_codes v_others v_source v_script))
noncomputable def w_law_11 (low : Nat) (v_rows v_told v_far v_uneven v_codes v_others v_source v_script : V) : List V → Prop := (lSeq (sSet (eV v_codes)) fun b12 => (w_law_12 1 b12 v_rows v_told v_far v_uneven v_codes v_others v_source v_script))
noncomputable def w_law_10 (low : Nat) (v_told v_far v_uneven v_codes v_others v_source v_script : V) : List V → Prop := (lSeq (sSet (eList (aCons (eTup (aCons (eV (.int 1)) (aCons (eV (.int 0)) (aCons (eCall cw_write_map (aCons (eV (.int 6)) (aCons (eV v_others) aNil))) aNil)))) (aCons (eTup (aCons (eV (.int 3)) (aCons (eV (.int 1)) (aCons (eCall cw_write_map (aCons (eV (.int 4)) (aCons (eV v_codes) aNil))) aNil)))) aNil)))) fun b11 => (w_law_11 1 b11 v_told v_far v_uneven v_codes v_others v_source v_script))
noncomputable def w_law_9 (low : Nat) (v_told v_far v_uneven v_codes v_others v_source v_script : V) : List V → Prop := (lSeq (sIf (tCmp cNeL (eComp (eList (aCons (eV (.int 65535)) (aCons (eV (.int 65536)) (aCons (eV (.int 65537)) (aCons (eV (.int 65538)) (aCons (eV (.int 1114111)) aNil)))))) sp1 (fun b10 => tT) (fun b10 => (eFind cFind (eV v_told) (aCons (eV b10) aNil)))) (eList (aCons (eV (.int 0)) (aCons (eV (.int 5)) (aCons (eV (.int 6)) (aCons (eV (.int 0)) (aCons (eV (.int 9)) aNil))))))) (sRet (eV (.bool false))) (sEnd ())) fun _ => (w_law_10 1 v_told v_far v_uneven v_codes v_others v_source v_script))
noncomputable def w_law_8 (low : Nat) (v_far v_uneven v_codes v_others v_source v_script : V) : List V → Prop := (lSeq (sSet (eCall cw_read_map (aCons (eCall cw_write_map (aCons (eV (.int 12)) (aCons (eV v_far) aNil))) aNil))) fun b8 => (w_law_9 1 b8 v_far v_uneven v_codes v_others v_source v_script))
noncomputable def w_law_7 (low : Nat) (v_uneven v_codes v_others v_source v_script : V) : List V → Prop := (lSeq (sSet (eV (.dict [(65536, 5), (65537, 6), (1114111, 9)]))) fun b7 => (w_law_8 1 b7 v_uneven v_codes v_others v_source v_script))
noncomputable def w_law_6 (low : Nat) (v_uneven v_codes v_others v_source v_script : V) : List V → Prop := (lSeq (sIf (tNot (tE (eCall cw_law_map_right (aCons (eCall cw_read_map (aCons (eCall cw_write_map (aCons (eV (.int 4)) (aCons (eV v_uneven) aNil))) aNil)) (aCons (eV v_uneven) (aCons (eV (.int 65534)) aNil)))))) (sRet (eV (.bool false))) (sEnd ())) fun _ => (w_law_7 1 v_uneven v_codes v_others v_source v_script))
noncomputable def w_law_5 (low : Nat) (v_codes v_others v_source v_script : V) : List V → Prop := (lSeq (sSet (eV (.dict [(5, 1), (7, 3), (8, 9), (65534, 6), (65535, 2)]))) fun b5 => (w_law_6 1 b5 v_codes v_others v_source v_script))
noncomputable def w_law_3 (low : Nat) (v_codes v_others v_source v_script : V) : List V → Prop := (lSeq (sFor (eList (aCons (eCall cw_law_one (aCons (eV v_source) (aCons (eList (aCons (eV (.int 0)) (aCons (eV (.int 6)) aNil))) aNil))) (aCons (eV (.int 4)) (aCons (eV (.int 12)) aNil)))) (() : Unit) sp1 fun b3 b4 => (w_law_4 low b4 v_codes v_others v_source v_script)) fun b3 => (w_law_5 1 v_codes v_others v_source v_script))
noncomputable def w_law_2 (low : Nat) (v_source v_script : V) : List V → Prop := (lSeq (sTup2 (aCons (eCall cw_law_codes (aCons (eV v_source) aNil)) (aCons (eV (.dict [(7, 3), (9, 4)])) aNil))) fun b2 => (w_law_3 1 b2.1 b2.2 v_source v_script))
noncomputable def w_law_1 (low : Nat) (v_script : V) : List V → Prop := (lSeq (sSet (eCall cw_law_pool (aCons (eV v_script) (aCons (eV (.int 0)) aNil)))) fun b1 => (w_law_2 1 b1 v_script))
theorem d_law {C : Cx} (G : GOK C) (X0 : ExcOK C) (a_script : V) : LL C 40 lawFrm [((Str.ofString "script"), a_script)] lawFi.body (w_law_1 1 a_script) := by
  have eB := Eq.refl lawFi.body
  conv at eB => rhs; whnf
  rw [eB]
  exact (LL.seq (S1.set (by kernel_rfl) (fun _ => rfl) (SE.callF G (by kernel_rfl) (by kernel_rfl) (by decide) (s_law_pool G X0) (SA.cons (SE.name (by kernel_rfl) (by kernel_rfl)) (SA.cons SE.int SA.nil rfl) rfl))) fun d1 => (LL.seq (S1.tup2 (by kernel_rfl) (by kernel_rfl) (by decide +kernel) (by kernel_rfl) (by kernel_rfl) (SA.cons (SE.callF G (by kernel_rfl) (by kernel_rfl) (by decide) (s_law_codes G X0) (SA.cons (SE.name (by kernel_rfl) (by kernel_rfl)) SA.nil rfl)) (SA.cons (SE.dict (SP.cons (SP.cons SP.nil)) (by decide) (by decide) (by decide)) SA.nil rfl) rfl)) fun d2 => (LL.seq (S1.for (st := fun d3 : Unit => [((Str.ofString "codes"), d2.1), ((Str.ofString "others"), d2.2), ((Str.ofString "source"), d1), ((Str.ofString "script"), a_script)]) () (Sub.cons (by kernel_rfl) (Sub.cons (by kernel_rfl) (Sub.cons (by kernel_rfl) (Sub.cons (by kernel_rfl) Sub.nil)))) (SE.list (SA.cons (SE.callF G (by kernel_rfl) (by kernel_rfl) (by decide) (s_law_one G X0) (SA.cons (SE.name (by kernel_rfl) (by kernel_rfl)) (SA.cons (SE.list (SA.cons SE.int (SA.cons SE.int SA.nil rfl) rfl)) SA.nil rfl) rfl)) (SA.cons SE.int (SA.cons SE.int SA.nil rfl) rfl) rfl)) (fun _ _ => rfl) (TG.name (by kernel_rfl)) fun d3 d4 => (SS.one (S1.if (ST.not (ST.call (SE.callF G (by kernel_rfl) (by kernel_rfl) (by decide) (s_law_map_right G X0) (SA.cons (SE.callF G (by kernel_rfl) (by kernel_rfl) (by decide) (s_read_map G X0) (SA.cons (SE.callF G (by kernel_rfl) (by kernel_rfl) (by decide) (s_write_map G X0) (SA.cons (SE.name (by kernel_rfl) (by kernel_rfl)) (SA.cons (SE.name (by kernel_rfl) (by kernel_rfl)) SA.nil rfl) rfl)) SA.nil rfl)) (SA.cons (SE.name (by kernel_rfl) (by kernel_rfl)) (SA.cons (SE.ite (ST.cmp cpEq rfl (SE.name (by kernel_rfl) (by kernel_rfl)) SE.int) SE.int SE.int) SA.nil rfl) rfl) rfl)))) (SS.one (S1.ret SE.bool)) (SS.nil () (Sub.cons (by kernel_rfl) (Sub.cons (by kernel_rfl) (Sub.cons (by kernel_rfl) (Sub.cons (by kernel_rfl) Sub.nil)))))))) fun d3 => (LL.seq (S1.set (by kernel_rfl) (fun _ => rfl) (SE.dict (SP.cons (SP.cons (SP.cons (SP.cons (SP.cons SP.nil))))) (by decide) (by decide) (by decide))) fun d5 => (LL.seq (S1.if0 (ST.not (ST.call (SE.callF G (by kernel_rfl) (by kernel_rfl) (by decide) (s_law_map_right G X0) (SA.cons (SE.callF G (by kernel_rfl) (by kernel_rfl) (by decide) (s_read_map G X0) (SA.cons (SE.callF G (by kernel_rfl) (by kernel_rfl) (by decide) (s_write_map G X0) (SA.cons SE.int (SA.cons (SE.name (by kernel_rfl) (by kernel_rfl)) SA.nil rfl) rfl)) SA.nil rfl)) (SA.cons (SE.name (by kernel_rfl) (by kernel_rfl)) (SA.cons SE.int SA.nil rfl) rfl) rfl)))) (SS.one (S1.ret SE.bool))) fun _ => (LL.seq (S1.set (by kernel_rfl) (fun _ => rfl) (SE.dict (SP.cons (SP.cons (SP.cons SP.nil))) (by decide) (by decide) (by decide))) fun d7 => (LL.seq (S1.setC (by kernel_rfl) (fun _ => rfl) (SE.callF G (by kernel_rfl) (by kernel_rfl) (by decide) (s_read_map G X0) (SA.cons (SE.callF G (by kernel_rfl) (by kernel_rfl) (by decide) (s_write_map G X0) (SA.cons SE.int (SA.cons (SE.name (by kernel_rfl) (by kernel_rfl)) SA.nil rfl) rfl)) SA.nil rfl))) fun d8 => (LL.seq (S1.if0 (ST.cmp cpNeL rfl (SE.comp [((Str.ofString "told"), d8)] (by kernel_rfl) rfl (fun _ _ => rfl) (Sub.cons (by kernel_rfl) Sub.nil) (Fr.cons (by kernel_rfl) Fr.nil) (SE.list (SA.cons SE.int (SA.cons SE.int (SA.cons SE.int (SA.cons SE.int (SA.cons SE.int SA.nil rfl) rfl) rfl) rfl) rfl)) (TG.name (by kernel_rfl)) (fun d10 => SI.nil) (fun d10 => (SE.find G (fun {_} => rfl) rfl (by decide) (by decide) (s_find G X0) (SE.name (by kernel_rfl) (by kernel_rfl)) (SA.cons (SE.name (by kernel_rfl) (by kernel_rfl)) SA.nil rfl)))) (SE.list (SA.cons SE.int (SA.cons SE.int (SA.cons SE.int (SA.cons SE.int (SA.cons SE.int SA.nil rfl) rfl) rfl) rfl) rfl))) (SS.one (S1.ret SE.bool))) fun _ => (LL.seq (S1.set (by kernel_rfl) (fun _ => rfl) (SE.list (SA.cons (SE.tup (SA.cons SE.int (SA.cons SE.int (SA.cons (SE.callF G (by kernel_rfl) (by kernel_rfl) (by decide) (s_write_map G X0) (SA.cons SE.int (SA.cons (SE.name (by kernel_rfl) (by kernel_rfl)) SA.nil rfl) rfl)) SA.nil rfl) rfl) rfl)) (SA.cons (SE.tup (SA.cons SE.int (SA.cons SE.int (SA.cons (SE.callF G (by kernel_rfl) (by kernel_rfl) (by decide) (s_write_map G X0) (SA.cons SE.int (SA.cons (SE.name (by kernel_rfl) (by kernel_rfl)) SA.nil rfl) rfl)) SA.nil rfl) rfl) rfl)) SA.nil rfl) rfl))) fun d11 => (LL.seq (S1.set (by kernel_rfl) (fun _ => rfl) (SE.name (by kernel_rfl) (by kernel_rfl))) fun d12 => (LL.seq (S1.set (by kernel_rfl) (fun _ => rfl) (SE.callF G (by kernel_rfl) (by kernel_rfl) (by decide) (s_law_one G X0) (SA.cons (SE.name (by kernel_rfl) (by kernel_rfl)) (SA.cons (SE.list (SA.cons SE.none (SA.cons (SE.tup (SA.cons SE.int (SA.cons SE.int SA.nil rfl) rfl)) (SA.cons (SE.tup (SA.cons SE.int (SA.cons SE.int SA.nil rfl) rfl)) (SA.cons (SE.tup (SA.cons SE.int (SA.cons SE.int SA.nil rfl) rfl)) SA.nil rfl) rfl) rfl) rfl)) SA.nil rfl) rfl))) fun d13 => (LL.seq (S1.if (st := fun d14 : V × V => [((Str.ofString "best"), d14.1), ((Str.ofString "rows"), d14.2), ((Str.ofString "pick"), d13), ((Str.ofString "told"), d8), ((Str.ofString "far"), d7), ((Str.ofString "uneven"), d5), ((Str.ofString "codes"), d2.1), ((Str.ofString "others"), d2.2), ((Str.ofString "source"), d1), ((Str.ofString "script"), a_script)]) (ST.cmp cpNone rfl (SE.name (by kernel_rfl) (by kernel_rfl)) SE.none) (SS.cons (S1.tup2 (by kernel_rfl) (by kernel_rfl) (by decide +kernel) (by kernel_rfl) (by kernel_rfl) (SA.cons (SE.bin opAddL (SE.name (by kernel_rfl) (by kernel_rfl)) (SE.list (SA.cons (SE.tup (SA.cons (SE.item itT (SE.name (by kernel_rfl) (by kernel_rfl)) SE.int) (SA.cons (SE.item itT (SE.name (by kernel_rfl) (by kernel_rfl)) SE.int) (SA.cons (SE.callF G (by kernel_rfl) (by kernel_rfl) (by decide) (s_write_map G X0) (SA.cons SE.int (SA.cons (SE.name (by kernel_rfl) (by kernel_rfl)) SA.nil rfl) rfl)) SA.nil rfl) rfl) rfl)) SA.nil rfl))) (SA.cons (SE.name (by kernel_rfl) (by kernel_rfl)) SA.nil rfl) rfl)) fun d15 => (SS.nil (d15.2, d15.1) (Sub.cons (by kernel_rfl) (Sub.cons (by kernel_rfl) (Sub.cons (by kernel_rfl) (Sub.cons (by kernel_rfl) (Sub.cons (by kernel_rfl) (Sub.cons (by kernel_rfl) (Sub.cons (by kernel_rfl) (Sub.cons (by kernel_rfl) (Sub.cons (by kernel_rfl) (Sub.cons (by kernel_rfl) Sub.nil)))))))))))) (SS.nil (d12, d11) (Sub.cons (by kernel_rfl) (Sub.cons (by kernel_rfl) (Sub.cons (by kernel_rfl) (Sub.cons (by kernel_rfl) (Sub.cons (by kernel_rfl) (Sub.cons (by kernel_rfl) (Sub.cons (by kernel_rfl) (Sub.cons (by kernel_rfl) (Sub.cons (by kernel_rfl) (Sub.cons (by kernel_rfl) Sub.nil)))))))))))) fun d14 => (LL.seq (S1.set (by kernel_rfl) (fun _ => rfl) (SE.callF G (by kernel_rfl) (by kernel_rfl) (by decide) (s_read_cmap G X0) (SA.cons (SE.callF G (by kernel_rfl) (by kernel_rfl) (by decide) (s_write_cmap G X0) (SA.cons (SE.rev (SE.name (by kernel_rfl) (by kernel_rfl))) SA.nil rfl)) SA.nil rfl))) fun d16 => (LL.seq (S1.for (st := fun d17 : Unit => [((Str.ofString "table"), d16), ((Str.ofString "pick"), d13), ((Str.ofString "best"), d14.1), ((Str.ofString "rows"), d14.2), ((Str.ofString "told"), d8), ((Str.ofString "far"), d7), ((Str.ofString "uneven"), d5), ((Str.ofString "codes"), d2.1), ((Str.ofString "others"), d2.2), ((Str.ofString "source"), d1), ((Str.ofString "script"), a_script)]) () (Sub.cons (by kernel_rfl) (Sub.cons (by kernel_rfl) (Sub.cons (by kernel_rfl) (Sub.cons (by kernel_rfl) (Sub.cons (by kernel_rfl) (Sub.cons (by kernel_rfl) (Sub.cons (by kernel_rfl) (Sub.cons (by kernel_rfl) (Sub.cons (by kernel_rfl) (Sub.cons (by kernel_rfl) (Sub.cons (by kernel_rfl) Sub.nil))))))))))) (SE.bin opAddL (SE.callF G (by kernel_rfl) (by kernel_rfl) (by decide) (s_law_beside G X0) (SA.cons (SE.name (by kernel_rfl) (by kernel_rfl)) SA.nil rfl)) (SE.list (SA.cons SE.int (SA.cons SE.int SA.nil rfl) rfl))) (fun _ _ => rfl) (TG.name (by kernel_rfl)) fun d17 d18 => (SS.one (S1.if (ST.cmp cpNe rfl (SE.find G (fun {_} => rfl) rfl (by decide) (by decide) (s_find G X0) (SE.name (by kernel_rfl) (by kernel_rfl)) (SA.cons (SE.name (by kernel_rfl) (by kernel_rfl)) SA.nil rfl)) (SE.get (fun {_} => rfl) rfl (by decide) (SE.name (by kernel_rfl) (by kernel_rfl)) (SA.cons (SE.name (by kernel_rfl) (by kernel_rfl)) (SA.cons SE.int SA.nil rfl) rfl))) (SS.one (S1.ret SE.bool)) (SS.nil () (Sub.cons (by kernel_rfl) (Sub.cons (by kernel_rfl) (Sub.cons (by kernel_rfl) (Sub.cons (by kernel_rfl) (Sub.cons (by kernel_rfl) (Sub.cons (by kernel_rfl) (Sub.cons (by kernel_rfl) (Sub.cons (by kernel_rfl) (Sub.cons (by kernel_rfl) (Sub.cons (by kernel_rfl) (Sub.cons (by kernel_rfl) Sub.nil))))))))))))))) fun d17 => (LL.seq (S1.setC (by kernel_rfl) (fun _ => rfl) (SE.callF G (by kernel_rfl) (by kernel_rfl) (by decide) (s_read_cmap G X0) (SA.cons (SE.callF G (by kernel_rfl) (by kernel_rfl) (by decide) (s_write_cmap G X0) (SA.cons (SE.list (SA.cons (SE.tup (SA.cons SE.int (SA.cons SE.int (SA.cons (SE.callF G (by kernel_rfl) (by kernel_rfl) (by decide) (s_write_map G X0) (SA.cons SE.int (SA.cons (SE.name (by kernel_rfl) (by kernel_rfl)) SA.nil rfl) rfl)) SA.nil rfl) rfl) rfl)) (SA.cons (SE.tup (SA.cons SE.int (SA.cons SE.int (SA.cons (SE.callF G (by kernel_rfl) (by kernel_rfl) (by decide) (s_write_map G X0) (SA.cons SE.int (SA.cons (SE.name (by kernel_rfl) (by kernel_rfl)) SA.nil rfl) rfl)) SA.nil rfl) rfl) rfl)) SA.nil rfl) rfl)) SA.nil rfl)) SA.nil rfl))) fun d19 => (LL.seq (S1.if0 (ST.cmp cpNeL rfl (SE.comp [((Str.ofString "plain"), d19)] (by kernel_rfl) rfl (fun _ _ => rfl) (Sub.cons (by kernel_rfl) Sub.nil) (Fr.cons (by kernel_rfl) Fr.nil) (SE.list (SA.cons SE.int (SA.cons SE.int (SA.cons SE.int (SA.cons SE.int (SA.cons SE.int SA.nil rfl) rfl) rfl) rfl) rfl)) (TG.name (by kernel_rfl)) (fun d21 => SI.nil) (fun d21 => (SE.find G (fun {_} => rfl) rfl (by decide) (by decide) (s_find G X0) (SE.name (by kernel_rfl) (by kernel_rfl)) (SA.cons (SE.name (by kernel_rfl) (by kernel_rfl)) SA.nil rfl)))) (SE.list (SA.cons SE.int (SA.cons SE.int (SA.cons SE.int (SA.cons SE.int (SA.cons SE.int SA.nil rfl) rfl) rfl) rfl) rfl))) (SS.one (S1.ret SE.bool))) fun _ => (LL.seq (S1.set (by kernel_rfl) (fun _ => rfl) (SE.callF G (by kernel_rfl) (by kernel_rfl) (by decide) (s_write_map G X0) (SA.cons (SE.callF G (by kernel_rfl) (by kernel_rfl) (by decide) (s_law_one G X0) (SA.cons (SE.name (by kernel_rfl) (by kernel_rfl)) (SA.cons (SE.list (SA.cons SE.int (SA.cons SE.int SA.nil rfl) rfl)) SA.nil rfl) rfl)) (SA.cons (SE.dict (SP.cons (SP.cons SP.nil)) (by decide) (by decide) (by decide)) SA.nil rfl) rfl))) fun d22 => (LL.end G X0 (m := 20) (by decide) (by exact ⟨_, _, _, _, _, _, _, rfl, _, _, _, _, _, _, _, _, _, _, _, _, rfl⟩) fell_ok fell_swap (SA.cons (SE.cutH (SE.name (by kernel_rfl) (by kernel_rfl)) (SE.callF G (by kernel_rfl) (by kernel_rfl) (by decide) (s_law_one G X0) (SA.cons (SE.name (by kernel_rfl) (by kernel_rfl)) (SA.cons (SE.list (SA.cons SE.int (SA.cons SE.int (SA.cons SE.int (SA.cons SE.int SA.nil rfl) rfl) rfl) rfl)) SA.nil rfl) rfl))) SA.nil rfl) (fun b => (SE.callF G (by kernel_rfl) (by kernel_rfl) (by decide) (s_read_map G X0) (SA.cons (SE.name (by kernel_rfl) (by kernel_rfl)) SA.nil rfl))) (by kernel_rfl) (by kernel_rfl)))))))))))))))))))


section
variable {hp : List V} {k : Prop} {A B : Prop} {X : Prop} {K : V → List V → Prop}
theorem wI_int {i : Int} {k} : wI (.int i) k = k i := rfl
theorem wB_bytes {i : List UInt8} {k} : wB (.bytes i) k = k i := rfl
theorem wL_list {i : List V} {k} : wL (.list i) k = k i := rfl
theorem wT_tup {i : List V} {k} : wT (.tup i) k = k i := rfl
theorem wD_dict {i} {k} : wD (.dict i) k = k i := rfl
theorem wS_str {i} {k} : wS (.str i) k = k i := rfl
theorem wBo_bool {i} {k} : wBo (.bool i) k = k i := rfl
theorem wN_none {k} : wN .none k = k := rfl
theorem wO_inst {c f k} : wO (.inst c f) k = k c f := rfl
theorem w1_one {a k} : w1 [a] k = k a := rfl
theorem w2_two {a b k} : w2 [a, b] k = k a b := rfl
theorem lk_int {i} : look hp (.int i) = .int i := rfl
theorem lk_bytes {i} : look hp (.bytes i) = .bytes i := rfl
theorem lk_list {i} : look hp (.list i) = .list i := rfl
theorem lk_dict {i} : look hp (.dict i) = .dict i := rfl
theorem lk_inst {c f} : look hp (.inst c f) = .inst c f := rfl
theorem lk_tup {i} : look hp (.tup i) = .tup i := rfl
theorem lk_bool {i} : look hp (.bool i) = .bool i := rfl
theorem lk_none : look hp .none = .none := rfl
theorem lk_0 {x : V} {t : List V} : look (x :: t) (.ref 0) = x := rfl
theorem lk_1 {x y : V} {t : List V} : look (x :: y :: t) (.ref 1) = y := rfl
theorem guard_true {k} : guard true k = k := rfl
theorem br_t {c} (h : c = true) (a : A) : br c A B := ⟨fun _ => a, fun e => Bool.noConfusion (h.symm.trans e)⟩
theorem br_f {c} (h : c = false) (b : B) : br c A B := ⟨fun e => Bool.noConfusion (h.symm.trans e), fun _ => b⟩
theorem bn {c : Bool} (h : br c B A) : br (!c) A B := ⟨fun e => h.2 (by cases c; rfl; cases e), fun e => h.1 (by cases c; cases e; rfl)⟩
section
variable {P : Prop} [Decidable P]
theorem bd_t (h : P) (a : A) : br (decide P) A B := br_t (decide_eq_true h) a
theorem bd_f (h : ¬ P) (b : B) : br (decide P) A B := br_f (decide_eq_false h) b
theorem bd (a : P → A) (b : ¬ P → B) : br (decide P) A B := ⟨fun e => a (of_decide_eq_true e), fun e => b (of_decide_eq_false e)⟩
end
section
variable {i j : Int}
theorem be_t (h : i = j) (a : A) : br (i == j) A B := br_t (beq_iff_eq.mpr h) a
theorem be_f (h : i ≠ j) (b : B) : br (i == j) A B := br_f (beq_false_of_ne h) b
theorem be (a : i = j → A) (b : i ≠ j → B) : br (i == j) A B := ⟨fun e => a (eq_of_beq e), fun e => b (ne_of_beq_false e)⟩
end
theorem rt {v : V} (h : isPlainV v = true) (w : K v hp) : Rt false hp.length v hp K := by
  show K (frzV hp.length hp v) (hp.take hp.length)
  rw [frzV_plain h, List.take_length]; exact w
theorem rt2 {v : V} {l : List V} (h : isPlainV v = true) (w : K v hp) : Rt false hp.length v (hp ++ l) K := by
  show K (frzV hp.length (hp ++ l) v) ((hp ++ l).take hp.length)
  rw [frzV_plain h, List.take_left]; exact w

/-- what a function answers, when it leaves all as it was -/
noncomputable def Ret (W : WF) (args : List V) (v : V) : Prop := ∀ hp (K : V → List V → Prop) X, K v hp → W args hp K X
/-- what a function does not answer -/
noncomputable def Exc (W : WF) (args : List V) : Prop := ∀ hp (K : V → List V → Prop) (X : Prop), X → W args hp K X

noncomputable def rd16 (b : List UInt8) (i : Int) : Int := (b.getD i.toNat 0).toNat * 256 + (b.getD (i + 1).toNat 0).toNat
noncomputable def rd32 (b : List UInt8) (i : Int) : Int := rd16 b i * 65536 + rd16 b (i + 2)
noncomputable def be16 (n : Int) : List UInt8 := [UInt8.ofNat (n / 256 % 256).toNat, UInt8.ofNat (n % 256).toNat]
noncomputable def be32 (n : Int) : List UInt8 := be16 (n / 65536) ++ be16 n
theorem big1 {n : Int} (h : n.natAbs ≤ 100000000) : -1152921504606846976 ≤ n ∧ n ≤ 1152921504606846976 := by omega
theorem u16_any {b : List UInt8} {i : Int} (h2 : b.length ≤ 1000000) (h : 0 ≤ i → i + 2 ≤ b.length → K (.int (rd16 b i)) hp) (hx : ¬ (0 ≤ i ∧ i + 2 ≤ b.length) → X) : cw_u16 [.bytes b, .int i] hp K X := by
  unfold rd16 at h
  refine shut_of ?_
  skip
  have hs : 0 ≤ i → i + 2 ≤ b.length → (0 ≤ i ∧ i < b.length ∧ b.length ≤ 1000000) ∧ 0 ≤ i + 1 ∧ i + 1 < b.length := by omega
  refine bd (fun c => br_t rfl <| hx fun q => absurd c (Int.not_lt.mpr q.1)) fun c => ⟨h2, bd (fun c2 => br_t rfl <| hx fun q => absurd c2 (Int.not_lt.mpr q.2)) fun c2 => ?_⟩
  have c := Int.not_lt.mp c
  have c2 := Int.not_lt.mp c2
  exact br_f rfl ⟨(hs c c2).1, by decide, ⟨(hs c c2).2.1, (hs c c2).2.2, h2⟩, rt rfl (h c c2)⟩
theorem c_u16 {b : List UInt8} {i : Int} (h2 : b.length ≤ 1000000) (h0 : 0 ≤ i) (h1 : i + 2 ≤ b.length) : Ret cw_u16 [.bytes b, .int i] (.int (rd16 b i)) := fun _ _ _ w => u16_any h2 (fun _ _ => w) fun q => absurd ⟨h0, h1⟩ q
theorem u32_any {b : List UInt8} {i : Int} (h2 : b.length ≤ 1000000) (h : 0 ≤ i → i + 4 ≤ b.length → K (.int (rd32 b i)) hp) (hx : ¬ (0 ≤ i ∧ i + 4 ≤ b.length) → X) : cw_u32 [.bytes b, .int i] hp K X := by
  unfold rd32 at h
  refine shut_of ?_
  skip
  refine u16_any h2 (fun c c1 => ?_) fun q => hx fun q2 => q ⟨q2.1, by omega⟩
  skip
  refine ⟨by decide, u16_any h2 (fun d d1 => ?_) fun q => hx fun q2 => q (by omega)⟩
  skip
  exact rt rfl (h c (by omega))
theorem c_u32 {b : List UInt8} {i : Int} (h2 : b.length ≤ 1000000) (h0 : 0 ≤ i) (h1 : i + 4 ≤ b.length) : Ret cw_u32 [.bytes b, .int i] (.int (rd32 b i)) := fun _ _ _ w => u32_any h2 (fun _ _ => w) fun q => absurd ⟨h0, h1⟩ q
theorem c_put16 (n : Int) : Ret cw_put16 [.int n] (.bytes (be16 n)) := fun hp K X w => by
  refine shut_of ?_
  skip
  refine ⟨by decide, by decide, by decide, ⟨[n / 256 % 256, n % 256], rfl, ⟨fun x hx => ?_, Nat.le_of_ble_eq_true rfl⟩, rt rfl w⟩⟩
  rcases List.mem_cons.mp hx with rfl | hx
  · omega
  · rw [List.mem_singleton.mp hx]; omega
theorem c_put32 (n : Int) : Ret cw_put32 [.int n] (.bytes (be32 n)) := fun hp K X w => by
  refine shut_of ?_
  skip
  exact ⟨by decide, c_put16 _ _ _ _ (c_put16 _ _ _ _ ⟨Nat.le_of_ble_eq_true rfl, rt rfl w⟩)⟩
theorem part_any {b : List UInt8} {i z : Int} (h2 : b.length ≤ 1000000) (h : 0 ≤ i → 0 ≤ z → i + z ≤ b.length → K (.bytes ((b.drop i.toNat).take z.toNat)) hp) (hx : ¬ (0 ≤ i ∧ 0 ≤ z ∧ i + z ≤ b.length) → X) : cw_part_of [.bytes b, .int i, .int z] hp K X := by
  refine shut_of ?_
  skip
  refine bd (fun c => br_t rfl <| hx fun q => absurd c (Int.not_lt.mpr q.1)) fun c => bd (fun c1 => br_t rfl <| hx fun q => absurd c1 (Int.not_lt.mpr q.2.1)) fun c1 => ⟨h2, bd (fun c2 => br_t rfl <| hx fun q => absurd c2 (Int.not_lt.mpr q.2.2)) fun c2 => ?_⟩
  have c := Int.not_lt.mp c
  have c1 := Int.not_lt.mp c1
  have c2 := Int.not_lt.mp c2
  refine br_f rfl ⟨⟨c, by omega, c2, h2⟩, rt rfl ?_⟩
  rw [show i + z - i = z by omega]
  exact h c c1 c2
theorem c_part {b : List UInt8} {i z : Int} (h2 : b.length ≤ 1000000) (h0 : 0 ≤ i) (hz : 0 ≤ z) (h1 : i + z ≤ b.length) : Ret cw_part_of [.bytes b, .int i, .int z] (.bytes ((b.drop i.toNat).take z.toNat)) := fun _ _ _ w => part_any h2 (fun _ _ _ => w) fun q => absurd ⟨h0, hz, h1⟩ q
end

section
variable {hp : List V} {k : Prop} {A B : Prop} {X : Prop} {K : V → List V → Prop}
theorem wItems_rng {a b k} : wItems (.rng a b) k = ((((-1152921504606846976 ≤ a ∧ a ≤ 1152921504606846976) ∧ (-1152921504606846976 ≤ b ∧ b ≤ 1152921504606846976)) ∧ (b - a).toNat ≤ 1000000) ∧ k (rngItems a b)) := rfl
theorem wItems_list {l k} : wItems (.list l) k = (l.length ≤ 1000000 ∧ k l) := rfl
theorem wItems_tup {l k} : wItems (.tup l) k = (l.length ≤ 1000000 ∧ k l) := rfl
theorem it_rng {a b : Int} {n : Nat} {k : List V → Prop} (h : (b - a).toNat = n) (ha : a.natAbs ≤ 100000000) (hb : b.natAbs ≤ 100000000) (hn : n ≤ 1000000) (w : k ((List.range n).map fun (i : Nat) => V.int (a + i))) : (((-1152921504606846976 ≤ a ∧ a ≤ 1152921504606846976) ∧ (-1152921504606846976 ≤ b ∧ b ≤ 1152921504606846976)) ∧ (b - a).toNat ≤ 1000000) ∧ k (rngItems a b) :=
  ⟨⟨⟨big1 ha, big1 hb⟩, h ▸ hn⟩, by unfold rngItems; rw [h]; exact w⟩
theorem it_0 {b : Int} {n : Nat} {k : List V → Prop} (h : b = n) (hn : n ≤ 1000000) (w : k ((List.range n).map fun (i : Nat) => V.int i)) : (((-1152921504606846976 ≤ (0 : Int) ∧ (0 : Int) ≤ 1152921504606846976) ∧ (-1152921504606846976 ≤ b ∧ b ≤ 1152921504606846976)) ∧ (b - 0).toNat ≤ 1000000) ∧ k (rngItems 0 b) :=
  it_rng (by rw [h, Int.sub_zero]; rfl) (by decide) (by rw [h]; exact Nat.le_trans hn (Nat.le_of_ble_eq_true rfl)) hn (by
    have e : (fun (i : Nat) => V.int (0 + i)) = fun (i : Nat) => V.int i := funext fun i => by rw [Int.zero_add]
    rw [e]; exact w)
noncomputable def compK {β : Type} (sp : V → (β → Prop) → Prop) (T : β → WB) (W : β → WP) (K : V → List V → Prop) (X : Prop) (hp1 items : List V) : Prop := ∃ J : List V → List V → List V → Prop, J [] [] hp1 ∧
  (∀ done x rest acc hp2, items = done ++ x :: rest → J done acc hp2 → sp x fun b => T b hp2 (fun c hp3 => br c (W b hp3 (fun v hp4 => guard (isPlainV v) (J (done ++ [x]) (acc ++ [v]) hp4)) X) (J (done ++ [x]) acc hp3)) X) ∧ ∀ acc hp2, J items acc hp2 → K (.list acc) hp2
theorem comp_def {β : Type} {it : WP} {sp : V → (β → Prop) → Prop} {T : β → WB} {W : β → WP} (h : it hp (fun iv hp1 => wItems iv fun items => compK sp T W K X hp1 items) X) : eComp it sp T W hp K X := h
section
variable {α β : Type} {sp : V → (β → Prop) → Prop} {T : β → WB} {W : β → WP} {xs : List α} {inj : α → V}
theorem map_split {ys : List α} {zs : List α} {done rest : List V} {x : V} (e1 : xs = ys ++ zs) (e2 : done = ys.map inj) (e : xs.map inj = done ++ x :: rest) : ∃ z zs', zs = z :: zs' ∧ inj z = x := by
  subst e2
  rw [e1, List.map_append, List.append_right_inj] at e
  cases zs with
  | nil => cases e
  | cons z zs' => exact ⟨z, zs', rfl, (List.cons.inj e).1⟩
theorem comp_if (g : α → β) (q : α → Bool) (f : α → V) (hsp : ∀ x {k : β → Prop}, k (g x) → sp (inj x) k) (hT : ∀ x ∈ xs, ∀ {K' : Bool → List V → Prop}, K' (q x) hp → T (g x) hp K' X)
    (h : ∀ x ∈ xs, ∀ {K' : V → List V → Prop}, K' (f x) hp → W (g x) hp K' X) (hf : ∀ x, isPlainV (f x) = true) (k : K (.list ((xs.filter q).map f)) hp) : compK sp T W K X hp (xs.map inj) := by
  refine ⟨fun done acc hp2 => hp2 = hp ∧ ∃ ys zs, xs = ys ++ zs ∧ done = ys.map inj ∧ acc = (ys.filter q).map f, ⟨rfl, [], xs, rfl, rfl, rfl⟩, fun done x rest acc hp2 e j => ?_, fun acc hp2 j => ?_⟩
  · obtain ⟨rfl, ys, zs, e1, e2, rfl⟩ := j
    obtain ⟨z, zs', rfl, rfl⟩ := map_split e1 e2 e
    have hz : z ∈ xs := e1 ▸ List.mem_append_right _ (List.mem_cons_self ..)
    have e3 : xs = (ys ++ [z]) ++ zs' := by rw [e1, List.append_assoc]; rfl
    have e4 : done ++ [inj z] = (ys ++ [z]).map inj := by rw [e2, List.map_append]; rfl
    refine hsp z (hT z hz ?_)
    cases hq : q z with
    | true => exact br_t rfl (h z hz (by rw [hf]; exact ⟨rfl, ys ++ [z], zs', e3, e4, by rw [List.filter_append, List.map_append]; congr 1; rw [List.filter_cons, hq]; rfl⟩))
    | false => exact br_f rfl ⟨rfl, ys ++ [z], zs', e3, e4, by rw [List.filter_append, List.filter_cons, hq]; simp⟩
  · obtain ⟨rfl, ys, zs, e1, e2, rfl⟩ := j
    have e5 : ys.length = xs.length := by have := congrArg List.length e2; rw [List.length_map, List.length_map] at this; exact this.symm
    have e6 : zs = [] := List.eq_nil_of_length_eq_zero (by rw [e1, List.length_append] at e5; omega)
    rw [e6, List.append_nil] at e1
    rw [← e1]; exact k
theorem comp_P (g : α → β) (P : α → Prop) (f : α → V) (hsp : ∀ x {k : β → Prop}, k (g x) → sp (inj x) k) (h : ∀ x ∈ xs, ∀ {K' : V → List V → Prop}, (P x → K' (f x) hp) → W (g x) hp K' X) (hf : ∀ x, isPlainV (f x) = true) (k : (∀ x ∈ xs, P x) → K (.list (xs.map f)) hp) : compK sp (fun _ => tT) W K X hp (xs.map inj) := by
  refine ⟨fun done acc hp2 => hp2 = hp ∧ ∃ ys zs, xs = ys ++ zs ∧ done = ys.map inj ∧ acc = ys.map f ∧ ∀ y ∈ ys, P y, ⟨rfl, [], xs, rfl, rfl, rfl, fun _ h => by cases h⟩, fun done x rest acc hp2 e j => ?_, fun acc hp2 j => ?_⟩
  · obtain ⟨rfl, ys, zs, e1, e2, rfl, hP⟩ := j
    obtain ⟨z, zs', rfl, rfl⟩ := map_split e1 e2 e
    have hz : z ∈ xs := e1 ▸ List.mem_append_right _ (List.mem_cons_self ..)
    have e3 : xs = (ys ++ [z]) ++ zs' := by rw [e1, List.append_assoc]; rfl
    have e4 : done ++ [inj z] = (ys ++ [z]).map inj := by rw [e2, List.map_append]; rfl
    refine hsp z (br_t rfl (h z hz fun p => ?_))
    rw [hf]
    exact ⟨rfl, ys ++ [z], zs', e3, e4, by rw [List.map_append]; rfl, fun y hy => (List.mem_append.mp hy).elim (hP y) fun q => List.mem_singleton.mp q ▸ p⟩
  · obtain ⟨rfl, ys, zs, e1, e2, rfl, hP⟩ := j
    have e5 : ys.length = xs.length := by have := congrArg List.length e2; rw [List.length_map, List.length_map] at this; exact this.symm
    have e6 : zs = [] := List.eq_nil_of_length_eq_zero (by rw [e1, List.length_append] at e5; omega)
    rw [e6, List.append_nil] at e1
    rw [← e1]; exact k (e1 ▸ hP)
theorem comp_map (g : α → β) (f : α → V) (hsp : ∀ x {k : β → Prop}, k (g x) → sp (inj x) k) (h : ∀ x ∈ xs, ∀ {K' : V → List V → Prop}, K' (f x) hp → W (g x) hp K' X) (hf : ∀ x, isPlainV (f x) = true) (k : K (.list (xs.map f)) hp) : compK sp (fun _ => tT) W K X hp (xs.map inj) :=
  comp_P g (fun _ => True) f hsp (fun x hx _ w => h x hx (w trivial)) hf fun _ => k
end
/-- a comprehension over a range, in one name -/
theorem comp_rng {n : Nat} {W : V → WP} (f : Nat → V) (h : ∀ i, i < n → ∀ {K' : V → List V → Prop}, K' (f i) hp → W (.int i) hp K' X) (hf : ∀ x, isPlainV (f x) = true) (k : K (.list ((List.range n).map f)) hp) : compK sp1 (fun _ => tT) W K X hp ((List.range n).map fun (i : Nat) => V.int i) :=
  comp_map (fun (i : Nat) => V.int i) f (fun _ _ w => w) (fun x hx _ w => h x (List.mem_range.mp hx) w) hf k
noncomputable def forK {α β : Type} (a0 : α) (sp : V → (β → Prop) → Prop) (W : α → β → WS α) (Kn : α → List V → Prop) (Kr : V → List V → Prop) (hp1 items : List V) : Prop := ∃ I : List V → α → List V → Prop, I [] a0 hp1 ∧
  (∀ done x rest a hp2, items = done ++ x :: rest → I done a hp2 → sp x fun b => W a b hp2 (fun a' hp3 => I (done ++ [x]) a' hp3) Kr False) ∧ ∀ a hp2, I items a hp2 → Kn a hp2
theorem for_def {α β : Type} {it : WP} {a0 : α} {sp : V → (β → Prop) → Prop} {W : α → β → WS α} {Kn : α → List V → Prop} {Kr} (h : it hp (fun iv hp1 => wItems iv fun items => forK a0 sp W Kn Kr hp1 items) X) : sFor it a0 sp W hp Kn Kr X := h
theorem for_map {α β γ : Type} {a0 : α} {sp : V → (β → Prop) → Prop} {W : α → β → WS α} {Kn : α → List V → Prop} {Kr} {xs : List γ} {inj : γ → V} (g : γ → β) (I : List γ → α → List V → Prop) (hsp : ∀ x {k : β → Prop}, k (g x) → sp (inj x) k) (h0 : I [] a0 hp)
    (step : ∀ ys x zs a hp2 (Kn' : α → List V → Prop), xs = ys ++ x :: zs → I ys a hp2 → (∀ a' hp3, I (ys ++ [x]) a' hp3 → Kn' a' hp3) → W a (g x) hp2 Kn' Kr False) (fin : ∀ a hp2, I xs a hp2 → Kn a hp2) : forK a0 sp W Kn Kr hp (xs.map inj) := by
  refine ⟨fun done a hp2 => ∃ ys zs, xs = ys ++ zs ∧ done = ys.map inj ∧ I ys a hp2, ⟨[], xs, rfl, rfl, h0⟩, fun done x rest a hp2 e j => ?_, fun a hp2 j => ?_⟩
  · obtain ⟨ys, zs, e1, e2, j⟩ := j
    obtain ⟨z, zs', rfl, rfl⟩ := map_split e1 e2 e
    have e4 : done ++ [inj z] = (ys ++ [z]).map inj := by rw [e2, List.map_append]; rfl
    have e3 : xs = (ys ++ [z]) ++ zs' := by rw [e1, List.append_assoc]; rfl
    exact hsp z (step ys z zs' a hp2 _ e1 j fun a' hp3 i => ⟨ys ++ [z], zs', e3, e4, i⟩)
  · obtain ⟨ys, zs, e1, e2, j⟩ := j
    have e5 : ys.length = xs.length := by have := congrArg List.length e2; rw [List.length_map, List.length_map] at this; exact this.symm
    have e6 : zs = [] := List.eq_nil_of_length_eq_zero (by rw [e1, List.length_append] at e5; omega)
    rw [e6, List.append_nil] at e1
    exact fin _ _ (e1 ▸ j)
/-- a loop that leaves all as it is -/
theorem for_keep {β γ : Type} {sp : V → (β → Prop) → Prop} {W : Unit → β → WS Unit} {Kn : Unit → List V → Prop} {Kr} {xs : List γ} {inj : γ → V} (g : γ → β) (hsp : ∀ x {k : β → Prop}, k (g x) → sp (inj x) k)
    (step : ∀ x ∈ xs, ∀ {Kn' : Unit → List V → Prop}, Kn' () hp → W () (g x) hp Kn' Kr False) (fin : Kn () hp) : forK () sp W Kn Kr hp (xs.map inj) :=
  for_map g (fun _ _ hp2 => hp2 = hp) hsp rfl (fun ys x zs a hp2 Kn' e hi q => by subst hi; exact step x (e ▸ List.mem_append_right _ (List.mem_cons_self ..)) (q _ _ rfl)) fun a hp2 hi => hi ▸ fin
theorem wf1_run {keep : Bool} {W : Nat → V → WS Unit} {a : V} (h : W hp.length a hp (fun _ hp2 => Rt keep hp.length .none hp2 K) (fun v hp2 => Rt keep hp.length v hp2 K) X) : wf1 keep W [a] hp K X := h
theorem wf2_run {keep : Bool} {W : Nat → V → V → WS Unit} {a b : V} (h : W hp.length a b hp (fun _ hp2 => Rt keep hp.length .none hp2 K) (fun v hp2 => Rt keep hp.length v hp2 K) X) : wf2 keep W [a, b] hp K X := h
theorem wf3_run {keep : Bool} {W : Nat → V → V → V → WS Unit} {a b c : V} (h : W hp.length a b c hp (fun _ hp2 => Rt keep hp.length .none hp2 K) (fun v hp2 => Rt keep hp.length v hp2 K) X) : wf3 keep W [a, b, c] hp K X := h
theorem look_cell {x : V} : look (hp ++ [x]) (.ref hp.length) = x := by unfold look; simp
theorem wO_cell {c f k} (h : k c f) : wO (look (hp ++ [.inst c f]) (.ref hp.length)) k := by rw [look_cell]; exact h
theorem wL_cell {l k} (h : k l) : wL (look (hp ++ [.list l]) (.ref hp.length)) k := by rw [look_cell]; exact h
theorem rt_self {x y : V} (w : K .none (hp ++ [y])) : Rt false (hp ++ [x]).length .none (hp ++ [y]) K := by
  show K .none ((hp ++ [y]).take (hp ++ [x]).length)
  rw [List.take_of_length_le (by simp)]; exact w
theorem fld {c : Str} {f f' : List (Str × V)} (h : f = f') (w : K .none (hp ++ [.inst c f'])) : K .none (hp ++ [.inst c f]) := h ▸ w
/-- what a new thing is -/
theorem new_of {c : Str} {f : List (Str × V)} (w : K (.inst c f) hp) : K ((hp ++ [V.inst c f]).getD hp.length .none) ((hp ++ [V.inst c f]).take hp.length) := by
  rw [List.take_left, show (hp ++ [V.inst c f]).getD hp.length .none = .inst c f from look_cell]; exact w
noncomputable def fByte (g : List UInt8) : List (Str × V) := [(Str.ofString "glyphs", .bytes g)]
noncomputable def fTrim (f : Int) (g : List V) : List (Str × V) := [(Str.ofString "first", .int f), (Str.ofString "glyphs", .list g)]
theorem clsB : isClsName (Str.ofString "ByteMap") = true := by decide +kernel
theorem clsT : isClsName (Str.ofString "TrimmedMap") = true := by decide +kernel
theorem clsS : isClsName (Str.ofString "SegmentMap") = true := by decide +kernel
theorem clsG : isClsName (Str.ofString "GroupMap") = true := by decide +kernel
theorem lkB {g} : (fByte g).lookup (Str.ofString "glyphs") = some (.bytes g) := by kernel_rfl
theorem lkT1 {a g} : (fTrim a g).lookup (Str.ofString "first") = some (.int a) := by kernel_rfl
theorem lkT2 {a g} : (fTrim a g).lookup (Str.ofString "glyphs") = some (.list g) := by kernel_rfl
noncomputable def Init (W : WF) (c : Str) (b : List UInt8) (f : List (Str × V)) : Prop := ∀ hp (K : V → List V → Prop) X, K .none (hp ++ [.inst c f]) → W [.ref hp.length, .bytes b] (hp ++ [.inst c []]) K X
theorem c_byte {b : List UInt8} (h1 : 262 ≤ b.length) (h2 : b.length ≤ 1000000) : Init cw_ByteMap_init (Str.ofString "ByteMap") b (fByte ((b.drop 6).take 256)) := fun hp K X w => by
  refine shut_of ?_
  dsimp only [wf2, w2_two, wd_ByteMap_init]
  refine c_part h2 (by decide) (by decide) (by omega) _ _ _ ⟨hp, _, [], rfl, rfl, ⟨clsB, by decide⟩, rt_self (fld (by kernel_rfl) w)⟩
theorem c_byte_find {g : List UInt8} {c : Int} {r : Int} (hg : g.length = 256) (h1 : 0 ≤ c → c < 256 → r = (g.getD c.toNat 0).toNat) (h2 : ¬ (0 ≤ c ∧ c < 256) → r = 0) : Ret cw_ByteMap_find [.inst (Str.ofString "ByteMap") (fByte g), .int c] (.int r) := fun hp K X w => by
  refine shut_of ?_
  dsimp only [eV, tCmp2, eIf, cLt, cLe, iB, eItem, eAttr, sRet, wf2, wI_int, wO_inst, w2_two, lk_int, lk_inst, wd_ByteMap_find]
  refine bd (fun c0 => bd (fun c1 => ⟨_, clsB, lkB, ⟨c0, by omega, by omega⟩, ?_⟩) fun c1 => ?_) fun c0 => br_f rfl ?_
  · exact rt rfl (h1 c0 c1 ▸ w)
  · exact rt rfl (h2 (fun q => c1 q.2) ▸ w)
  · exact rt rfl (h2 (fun q => c0 q.1) ▸ w)
theorem c_trim {b : List UInt8} (m : Nat) (h1 : rd16 b 8 = m) (h2 : 10 + 2 * (m : Int) ≤ b.length) (h3 : b.length ≤ 1000000) : Init cw_TrimmedMap_init (Str.ofString "TrimmedMap") b (fTrim (rd16 b 6) ((List.range m).map fun (i : Nat) => .int (rd16 b (10 + 2 * i)))) := fun hp K X w => by
  refine shut_of ?_
  dsimp only [eV, aNil, aCons, eCall, sSeq, sEnd, sAttr, wf2, w2_two, wd_TrimmedMap_init, w_TrimmedMap_init_1, w_TrimmedMap_init_2]
  refine c_u16 h3 (by decide) (by omega) _ _ _ ⟨hp, _, [], rfl, rfl, ⟨clsT, by decide⟩, comp_def ?_⟩
  dsimp only [eV, wItems_rng, aNil, aCons, gRange1, eCallB, eCall, w1_one]
  refine c_u16 h3 (by decide) (by omega) _ _ _ ?_
  dsimp only [wI_int, lk_int]
  refine it_0 h1 (by omega) ?_
  refine comp_rng (fun (i : Nat) => .int (rd16 b (10 + 2 * i))) (fun i hi K' q => ?_) (fun _ => rfl) ?_
  · dsimp only [eV, eBin, aNil, aCons, fAdd, fMul, eCall, wI_int, lk_int]
    exact ⟨big1 (by omega), c_u16 h3 (by omega) (by omega) _ _ _ q⟩
  · skip
    exact ⟨hp, _, [], rfl, rfl, ⟨clsT, Nat.le_of_ble_eq_true (by kernel_rfl)⟩, rt_self (fld (by kernel_rfl) w)⟩
end

section
variable {hp : List V} {k : Prop} {A B : Prop} {X : Prop} {K : V → List V → Prop}
theorem tab_get {m i : Nat} {F : Nat → V} (h : i < m) : ((List.range m).map F).getD i .none = F i := by
  rw [List.getD_eq_getElem?_getD, List.getElem?_map, List.getElem?_range h]; rfl
theorem ix_tab {m i : Nat} {F : Nat → V} {k : Int} {f : V → Prop} (e : k = i) (h : i < m) (w : f (F i)) : natIx ((List.range m).map F) k f := by
  refine ⟨i, _, ?_, tab_get h, w⟩
  unfold idx
  rw [List.length_map, List.length_range, if_pos (by omega), if_pos (by omega), e]; rfl
theorem tab_len {m : Nat} {F : Nat → V} : ((List.range m).map F).length = m := by rw [List.length_map, List.length_range]
theorem c_trim_find {f c r : Int} {m : Nat} {g : Nat → Int} (hm : m ≤ 1000000) (h1 : ∀ i : Nat, c - f = i → i < m → r = g i) (h2 : ¬ (f ≤ c ∧ c < f + m) → r = 0) : Ret cw_TrimmedMap_find [.inst (Str.ofString "TrimmedMap") (fTrim f ((List.range m).map fun (i : Nat) => .int (g i))), .int c] (.int r) := fun hp K X w => by
  refine shut_of ?_
  dsimp only [eV, eBin, tCmp2, eIf, aNil, aCons, fSub, cLt, cLe, iL, eItem, gLenL, eCallB, eAttr, sSeq, sSet, sRet, wf2, wI_int, wO_inst, w1_one, w2_two, lk_int, lk_inst, wd_TrimmedMap_find, w_TrimmedMap_find_1]
  refine ⟨_, clsT, lkT1, ?_⟩
  dsimp only [wI_int, lk_int]
  refine bd (fun c0 => ⟨_, clsT, lkT2, ?_⟩) fun c0 => br_f rfl (rt rfl (h2 (fun q => c0 (by omega)) ▸ w))
  dsimp only [wL_list, lk_list]
  rw [tab_len]
  refine ⟨hm, bd (fun c1 => ⟨_, clsT, lkT2, ?_⟩) fun c1 => rt rfl (h2 (fun q => c1 (by omega)) ▸ w)⟩
  dsimp only [wL_list, lk_list]
  rw [tab_len]
  exact ⟨hm, ix_tab (i := (c - f).toNat) (by omega) (by omega) (rt rfl (h1 (c - f).toNat (by omega) (by omega) ▸ w))⟩
theorem c_first {c : Int} {m r : Nat} {e : Nat → Int} (hm : m ≤ 60) (hr : r ≤ m) (h1 : ∀ i, i < r → e i < c) (h2 : ∀ i, r ≤ i → i < m → c ≤ e i) : Ret cw_first_from [.list ((List.range m).map fun (i : Nat) => .int (e i)), .int c] (.int r) := fun hp K X w => by
  refine shut_of ?_
  dsimp only [eV, aNil, aCons, gLenL, eCallB, sSeq, sSet, sRet, wf2, wL_list, w1_one, w2_two, lk_list, wd_first_from, w_first_from_1, w_first_from_2, w_first_from_3, w_first_from_4, w_first_from_5, w_first_from_6, w_first_from_7]
  rw [tab_len]
  refine ⟨by omega, fun n a hp1 => ∃ lo hi : Nat, a = (.int hi, .int lo) ∧ hp1 = hp ∧ lo ≤ r ∧ r ≤ hi ∧ hi ≤ m ∧ n = hi - lo, ⟨m, 0, m, rfl, rfl, by omega⟩, fun n a hp1 hi => ?_⟩
  obtain ⟨lo, hi, rfl, rfl, a1, a2, a3, rfl⟩ := hi
  dsimp only [eV, eBin, tCmp, fAdd, fDiv, cLt, iL, eItem, sSeq, sEnd, sSet, sIf, wI_int, wL_list, lk_int, lk_list]
  refine bd (fun hlt => ⟨by decide, ?_⟩) fun hge => ?_
  · have e1 : ((lo : Int) + hi) / 2 = ((lo + hi) / 2 : Nat) := by omega
    rw [tab_len]
    refine ⟨by omega, ix_tab e1 (by omega) ?_⟩
    dsimp only [wI_int, lk_int]
    refine bd (fun hc => ⟨hi - ((lo + hi) / 2 + 1), ?_, (lo + hi) / 2 + 1, hi, by rw [e1]; rfl, rfl, ?_⟩) fun hc => ⟨(lo + hi) / 2 - lo, ?_, lo, (lo + hi) / 2, by rw [e1], rfl, ?_⟩
    · omega
    · have hx : (lo + hi) / 2 < r := Nat.lt_of_not_le fun h => by have := h2 _ h (by omega); omega
      exact ⟨hx, a2, a3, rfl⟩
    · omega
    · have hx : r ≤ (lo + hi) / 2 := Nat.le_of_not_lt fun h => by have := h1 _ h; omega
      exact ⟨a1, hx, by omega, rfl⟩
  · have : lo = r := by omega
    subst this
    exact rt rfl w
end

noncomputable def tabI (m : Nat) (F : Nat → Int) : V := .list ((List.range m).map fun (i : Nat) => .int (F i))
noncomputable def fSeg (b : List UInt8) (m : Nat) (E S D : Nat → Int) (B : Int) (O : Nat → Int) : List (Str × V) := [(Str.ofString "octets", .bytes b), (Str.ofString "ends", tabI m E), (Str.ofString "starts", tabI m S), (Str.ofString "deltas", tabI m D), (Str.ofString "begin", .int B), (Str.ofString "offsets", tabI m O)]
noncomputable def fGrp (m : Nat) (S E G : Nat → Int) : List (Str × V) := [(Str.ofString "starts", tabI m S), (Str.ofString "ends", tabI m E), (Str.ofString "glyphs", tabI m G)]
section
variable {hp : List V} {k : Prop} {A B : Prop} {X : Prop} {K : V → List V → Prop}
theorem wL_tab {m : Nat} {F : Nat → Int} {k} (w : k ((List.range m).map fun (i : Nat) => .int (F i))) : wL (look hp (tabI m F)) k := w
theorem ix_in {m i : Nat} {F : Nat → Int} {c : Int} {f : V → Prop} (hm : m ≤ 1000000) (e : c = i) (h : i < m) (w : f (.int (F i))) : wL (look hp (tabI m F)) fun l => l.length ≤ 1000000 ∧ natIx l c f := wL_tab ⟨by rw [tab_len]; exact hm, ix_tab e h w⟩
theorem s_attr {α : Type} {y c : Str} {f : List (Str × V)} {v : V} {e : WP} {R : Unit → WS α} {Kn Kr} (hc : isClsName c = true) (hf : f.length ≤ 100) (hv : isPlainV v = true) (h : ∀ {K' : V → List V → Prop}, K' v (hp ++ [.inst c f]) → e (hp ++ [.inst c f]) K' X) (k : R () (hp ++ [.inst c (setV f y v)]) Kn Kr X) : sSeq (sAttr y e (eV (.ref hp.length))) R (hp ++ [.inst c f]) Kn Kr X :=
  h ⟨hp, _, [], rfl, rfl, by dsimp only [wO_inst]; rw [hv]; exact ⟨⟨hc, hf⟩, k⟩⟩
theorem e_tab {m : Nat} {F : Nat → Int} {W : V → WP} (hm : m ≤ 1000000) (h : ∀ i : Nat, i < m → ∀ {K' : V → List V → Prop}, K' (.int (F i)) hp → W (.int i) hp K' X) {K' : V → List V → Prop} (k : K' (tabI m F) hp) : eComp (eCallB gRange1 (aCons (eV (.int m)) aNil)) sp1 (fun _ => tT) W hp K' X :=
  comp_def (it_0 rfl hm (comp_rng (fun (i : Nat) => .int (F i)) (fun i hi K' q => h i hi q) (fun _ => rfl) k))
theorem e_fld {y c : Str} {f : List (Str × V)} {u : V} (hc : isClsName c = true) (hl : f.lookup y = some u) (k : K u (hp ++ [.inst c f])) : eAttr y (eV (.ref hp.length)) (hp ++ [.inst c f]) K X := by
  dsimp only [eV, eAttr]
  exact wO_cell ⟨u, hc, hl, k⟩
theorem c_seg {b : List UInt8} (m : Nat) (h1 : rd16 b 6 / 2 = m) (h2 : 16 + 8 * (m:Int) ≤ b.length) (h3 : b.length ≤ 1000000) (hr : ∀ i : Nat, i + 1 < m → rd16 b (14 + 2 * (i:Int)) < rd16 b (14 + 2 * ((i+1 : Nat):Int))) : Init cw_SegmentMap_init (Str.ofString "SegmentMap") b (fSeg b m (fun i => rd16 b (14 + 2 * i)) (fun i => rd16 b (16 + 2 * m + 2 * i)) (fun i => rd16 b (16 + 2 * m + 2 * (m + i))) (16 + 2 * m + 4 * m) fun i => rd16 b (16 + 2 * m + 4 * m + 2 * i)) := fun hp K X w => by
  have hm : m ≤ 1000000 := by omega
  have hb : ∀ {i : Nat}, i < m → (i : Int).natAbs ≤ 100000000 := fun h => by omega
  refine shut_of (wf2_run ?_)
  refine s_attr clsS (by decide) rfl (fun q => q) ?_
  refine c_u16 h3 (by decide) (by omega) _ _ _ ?_
  dsimp only [eV, fDiv, wI_int, lk_int]
  rw [h1]
  refine ⟨by decide, s_attr clsS (Nat.le_of_ble_eq_true (by kernel_rfl)) rfl (fun q => e_tab (F := fun i => rd16 b (14 + 2 * i)) hm (fun i hi K' q => ⟨big1 (hb hi), c_u16 h3 (by omega) (by omega) _ _ _ q⟩) q) ?_⟩
  dsimp only [eV, eBin, fAdd, fMul, sSeq, sSet, wI_int, lk_int, w_SegmentMap_init_4]
  refine ⟨big1 (by omega), s_attr clsS (Nat.le_of_ble_eq_true (by kernel_rfl)) rfl (fun q => e_tab (F := fun i => rd16 b (16 + 2 * m + 2 * i)) hm (fun i hi K' q => ⟨big1 (hb hi), c_u16 h3 (by omega) (by omega) _ _ _ q⟩) q) ?_⟩
  refine s_attr clsS (Nat.le_of_ble_eq_true (by kernel_rfl)) rfl (fun q => e_tab (F := fun i => rd16 b (16 + 2 * m + 2 * (m + i))) hm (fun i hi K' q => ⟨big1 (by omega), c_u16 h3 (by omega) (by omega) _ _ _ q⟩) q) ?_
  refine s_attr (v := .int (16 + 2 * m + 4 * m)) clsS (Nat.le_of_ble_eq_true (by kernel_rfl)) rfl (fun q => ?_) ?_
  · dsimp only [eV, eBin, fAdd, fMul, wI_int, lk_int]
    exact ⟨big1 (by omega), q⟩
  refine s_attr clsS (Nat.le_of_ble_eq_true (by kernel_rfl)) rfl (fun q => e_tab (F := fun i => rd16 b (16 + 2 * m + 4 * m + 2 * i)) hm (fun i hi K' q => ?_) q) ?_
  · dsimp only [eV, eBin, aNil, aCons, fAdd, fMul, eCall, eAttr, wI_int, lk_int]
    refine wO_cell ⟨.int (16 + 2 * m + 4 * m), clsS, (by kernel_rfl), ?_⟩
    dsimp only [wI_int, lk_int]
    exact ⟨big1 (hb hi), c_u16 h3 (by omega) (by omega) _ _ _ q⟩
  refine for_def ?_
  dsimp only [eV, wItems_rng, aNil, aCons, gRange2, eCallB, sEnd, wI_int, w2_two, lk_int]
  refine it_rng (n := m - 1) (by omega) (by decide) (by omega) (by omega) (for_keep (fun (i : Nat) => V.int (1 + i)) (fun _ _ w => w) (fun i hi Kn' q => ?_) ?_)
  · have hi : i < m - 1 := List.mem_range.mp hi
    dsimp only [eV, eBin, tCmp, fSub, cLe, iL, eItem, eAttr, sEnd, sIf, sRaise, wI_int, wS_str, lk_int, w_SegmentMap_init_10]
    refine wO_cell ⟨tabI m fun i => rd16 b (14 + 2 * i), clsS, (by kernel_rfl), ?_⟩
    refine ix_in (i := i + 1) hm (by omega) (by omega) ?_
    refine wO_cell ⟨tabI m fun i => rd16 b (14 + 2 * i), clsS, (by kernel_rfl), ?_⟩
    refine ix_in (i := i) hm (by omega) (by omega) ?_
    dsimp only [wI_int, lk_int]
    exact bd_f (Int.not_le.mpr (hr i (by omega))) q
  · exact rt_self (fld (by kernel_rfl) w)
end

section
variable {hp : List V} {k : Prop} {A B : Prop} {X : Prop} {K : V → List V → Prop}
noncomputable def InitX (W : WF) (c : Str) (b : List UInt8) : Prop := ∀ hp (K : V → List V → Prop) (X : Prop), X → W [.ref hp.length, .bytes b] (hp ++ [.inst c []]) K X
theorem seg_exc {b : List UInt8} (m : Nat) (h1 : rd16 b 6 / 2 = m) (h0 : 8 ≤ b.length) (h3 : b.length ≤ 1000) (hm0 : 0 < m) (hm : m ≤ 40000) (h2 : b.length < 18 + 2 * m) : InitX cw_SegmentMap_init (Str.ofString "SegmentMap") b := fun hp K X x => by
  have h3' : b.length ≤ 1000000 := by omega
  refine shut_of (wf2_run ?_)
  refine s_attr clsS (by decide) rfl (fun q => q) ?_
  refine c_u16 h3' (by decide) (by omega) _ _ _ ?_
  dsimp only [eV, fDiv, wI_int, lk_int]
  rw [h1]
  refine ⟨by decide, ?_⟩
  dsimp only [eV, sSeq, sAttr, w_SegmentMap_init_3]
  refine comp_def (it_0 rfl (by omega) (comp_P (fun (i : Nat) => V.int i) (fun i => 14 + 2 * (i : Int) + 2 ≤ b.length) (fun i => .int (rd16 b (14 + 2 * i))) (fun _ _ w => w) (fun i hi K' q => ?_) (fun _ => rfl) fun _ => ?_))
  · dsimp only [eV, eBin, aNil, aCons, fAdd, fMul, eCall, wI_int, lk_int]
    exact ⟨big1 (by have := List.mem_range.mp hi; omega), u16_any h3' (fun _ c => q c) fun _ => x⟩
  refine ⟨hp, _, [], rfl, rfl, ⟨clsS, (Nat.le_of_ble_eq_true (by kernel_rfl))⟩, ?_⟩
  dsimp only [eV, eBin, fAdd, fMul, sSeq, sSet, wI_int, lk_int, w_SegmentMap_init_4]
  refine ⟨big1 (by omega), ?_⟩
  dsimp only [eV, sSeq, sAttr, w_SegmentMap_init_5]
  refine comp_def (it_0 rfl (by omega) (comp_P (fun (i : Nat) => V.int i) (fun i => 16 + 2 * (m : Int) + 2 * (i : Int) + 2 ≤ b.length) (fun i => .int (rd16 b (16 + 2 * m + 2 * i))) (fun _ _ w => w) (fun i hi K' q => ?_) (fun _ => rfl) fun hP => ?_))
  · dsimp only [eV, eBin, aNil, aCons, fAdd, fMul, eCall, wI_int, lk_int]
    exact ⟨big1 (by have := List.mem_range.mp hi; omega), u16_any h3' (fun _ c => q c) fun _ => x⟩
  · have := hP 0 (List.mem_range.mpr hm0)
    omega
theorem lkS1 {b m E S D B O} : (fSeg b m E S D B O).lookup (Str.ofString "octets") = some (.bytes b) := (by kernel_rfl)
theorem lkS2 {b m E S D B O} : (fSeg b m E S D B O).lookup (Str.ofString "ends") = some (tabI m E) := (by kernel_rfl)
theorem lkS3 {b m E S D B O} : (fSeg b m E S D B O).lookup (Str.ofString "starts") = some (tabI m S) := (by kernel_rfl)
theorem lkS4 {b m E S D B O} : (fSeg b m E S D B O).lookup (Str.ofString "deltas") = some (tabI m D) := (by kernel_rfl)
theorem lkS5 {b m E S D B O} : (fSeg b m E S D B O).lookup (Str.ofString "begin") = some (.int B) := (by kernel_rfl)
theorem lkS6 {b m E S D B O} : (fSeg b m E S D B O).lookup (Str.ofString "offsets") = some (tabI m O) := (by kernel_rfl)
theorem lkG1 {m S E G} : (fGrp m S E G).lookup (Str.ofString "starts") = some (tabI m S) := (by kernel_rfl)
theorem lkG2 {m S E G} : (fGrp m S E G).lookup (Str.ofString "ends") = some (tabI m E) := (by kernel_rfl)
theorem lkG3 {m S E G} : (fGrp m S E G).lookup (Str.ofString "glyphs") = some (tabI m G) := (by kernel_rfl)
/-- a thing's table is asked at i -/
theorem e_ix {c y : Str} {f : List (Str × V)} {m i : Nat} {F : Nat → Int} {j : Int} {K : V → Prop} (hc : isClsName c = true) (hl : f.lookup y = some (tabI m F)) (hm : m ≤ 60) (e : j = i) (h : i < m) (w : K (.int (F i))) : ∃ u, isClsName c = true ∧ f.lookup y = some u ∧ wL (look hp u) fun l => l.length ≤ 1000000 ∧ natIx l j K :=
  ⟨_, hc, hl, ix_in (by omega) e h w⟩
theorem c_seg_find {b : List UInt8} {c B r0 : Int} {m r : Nat} {E S D O : Nat → Int} (hm : m ≤ 60) (hr : r ≤ m) (g1 : ∀ i, i < r → E i < c) (g2 : ∀ i, r ≤ i → i < m → c ≤ E i) (hb : b.length ≤ 1000000) (hc : c ≤ 2000000) (w1 : r = m → r0 = 0) (w2 : r < m → c < S r → r0 = 0) (w3 : r < m → S r ≤ c → O r = 0 → r0 = (c + D r) % 65536)
    (w4 : r < m → S r ≤ c → O r ≠ 0 → 0 ≤ S r ∧ 0 ≤ B + 2 * r + O r + 2 * (c - S r) ∧ B + 2 * r + O r + 2 * (c - S r) + 2 ≤ b.length ∧ rd16 b (B + 2 * r + O r + 2 * (c - S r)) ≠ 0 ∧ r0 = (rd16 b (B + 2 * r + O r + 2 * (c - S r)) + D r) % 65536) : Ret cw_SegmentMap_find [.inst (Str.ofString "SegmentMap") (fSeg b m E S D B O), .int c] (.int r0) := fun hp K X w => by
  refine shut_of ?_
  dsimp only [eV, aNil, aCons, eCall, eAttr, sSeq, sSet, wf2, wO_inst, w2_two, lk_inst, wd_SegmentMap_find, w_SegmentMap_find_1]
  refine ⟨_, clsS, lkS2, c_first hm hr g1 g2 _ _ _ ?_⟩
  dsimp only [eV, tCmp, tOr, aNil, aCons, tEnd, cLt, cEq, iL, eItem, gLenL, eCallB, eAttr, sSeq, sEnd, sRet, sIf, wI_int, wO_inst, w1_one, lk_int, lk_inst, w_SegmentMap_find_2]
  refine ⟨_, clsS, lkS2, wL_tab ?_⟩
  rw [tab_len]
  refine ⟨by omega, be (fun e => br_t rfl (rt rfl (w1 (by omega) ▸ w))) fun ne => ?_⟩
  have hr' : r < m := by omega
  refine e_ix clsS lkS3 hm rfl hr' ?_
  dsimp only [wI_int, lk_int]
  refine bd (fun lt => br_t rfl (rt rfl (w2 hr' lt ▸ w))) fun ge => br_f rfl ?_
  have ge : S r ≤ c := by omega
  dsimp only [eV, eBin, tCmp, fAdd, fMod, cEq, iL, eItem, eAttr, sSeq, sEnd, sRet, sIf, wI_int, wO_inst, lk_int, lk_inst, w_SegmentMap_find_3]
  refine e_ix clsS lkS6 hm rfl hr' ?_
  dsimp only [wI_int, lk_int]
  refine be (fun e => e_ix clsS lkS4 hm rfl hr' ?_) fun ne => ?_
  · dsimp only [wI_int, lk_int]
    exact ⟨by decide, rt rfl (w3 hr' ge e ▸ w)⟩
  obtain ⟨a1, a2, a3, a4, a5⟩ := w4 hr' ge ne
  dsimp only [eV, eBin, tCmp, eIf, aNil, aCons, fAdd, fSub, fMul, fMod, cNe, iL, eItem, eCall, eAttr, sSeq, sSet, sRet, wI_int, wO_inst, lk_int, lk_inst, w_SegmentMap_find_4]
  refine ⟨_, clsS, lkS1, _, clsS, lkS5, ?_⟩
  dsimp only [wI_int, lk_int]
  refine ⟨big1 (by omega), e_ix clsS lkS6 hm rfl hr' ?_⟩
  dsimp only [wI_int, lk_int]
  refine e_ix clsS lkS3 hm rfl hr' ?_
  dsimp only [wI_int, lk_int]
  refine ⟨big1 (by omega), c_u16 hb a2 a3 _ _ _ ?_⟩
  dsimp only [wI_int, lk_int]
  refine bn (be_f a4 (e_ix clsS lkS4 hm rfl hr' ?_))
  dsimp only [wI_int, lk_int]
  exact ⟨by decide, rt rfl (a5 ▸ w)⟩
end

section
variable {hp : List V} {k : Prop} {A B : Prop} {X : Prop} {K : V → List V → Prop}
theorem c_grp {b : List UInt8} (m : Nat) (h1 : rd32 b 12 = m) (h2 : 16 + 12 * (m:Int) ≤ b.length) (h3 : b.length ≤ 1000000) (h4 : ∀ i : Nat, i < m → rd32 b (16 + 12 * (i:Int)) ≤ rd32 b (20 + 12 * (i:Int))) (hr : ∀ i : Nat, i + 1 < m → rd32 b (20 + 12 * (i:Int)) < rd32 b (16 + 12 * ((i+1 : Nat):Int))) : Init cw_GroupMap_init (Str.ofString "GroupMap") b (fGrp m (fun i => rd32 b (16 + 12 * i)) (fun i => rd32 b (20 + 12 * i)) fun i => rd32 b (24 + 12 * i)) := fun hp K X w => by
  have hm : m ≤ 1000000 := by omega
  have hb : ∀ {i : Nat}, i < m → (i : Int).natAbs ≤ 100000000 := fun h => by omega
  refine shut_of ?_
  dsimp only [eV, aNil, aCons, eCall, sSeq, sSet, wf2, w2_two, wd_GroupMap_init, w_GroupMap_init_1]
  refine c_u32 h3 (by decide) (by omega) _ _ _ ?_
  rw [h1]
  dsimp only [eV, eBin, tCmp, aNil, aCons, fAdd, fMul, cGt, gLenB, eCallB, sSeq, sEnd, sIf, sRaise, wI_int, wB_bytes, wS_str, w1_one, lk_int, lk_bytes, w_GroupMap_init_2]
  refine ⟨big1 (by omega), h3, bd_f (by omega) ?_⟩
  refine s_attr clsG (by decide) rfl (fun q => e_tab (F := fun i => rd32 b (16 + 12 * i)) hm (fun i hi K' q => ⟨big1 (hb hi), c_u32 h3 (by omega) (by omega) _ _ _ q⟩) q) ?_
  refine s_attr clsG (Nat.le_of_ble_eq_true (by kernel_rfl)) rfl (fun q => e_tab (F := fun i => rd32 b (20 + 12 * i)) hm (fun i hi K' q => ⟨big1 (hb hi), c_u32 h3 (by omega) (by omega) _ _ _ q⟩) q) ?_
  refine s_attr clsG (Nat.le_of_ble_eq_true (by kernel_rfl)) rfl (fun q => e_tab (F := fun i => rd32 b (24 + 12 * i)) hm (fun i hi K' q => ⟨big1 (hb hi), c_u32 h3 (by omega) (by omega) _ _ _ q⟩) q) ?_
  refine for_def (it_0 rfl hm (for_keep (fun (i : Nat) => V.int i) (fun _ _ w => w) (fun i hi Kn' q => ?_) (rt_self (fld (by kernel_rfl) w))))
  have hi := List.mem_range.mp hi
  dsimp only [eV, eBin, tCmp, tAnd, tOr, tEnd, fSub, cLt, cLe, cGt, iL, eItem, eAttr, sEnd, sIf, sRaise, wI_int, wS_str, lk_int, w_GroupMap_init_7]
  refine wO_cell ⟨tabI m fun i => rd32 b (20 + 12 * i), clsG, (by kernel_rfl), ix_in hm rfl hi ?_⟩
  refine wO_cell ⟨tabI m fun i => rd32 b (16 + 12 * i), clsG, (by kernel_rfl), ix_in hm rfl hi ?_⟩
  dsimp only [wI_int, lk_int]
  refine bd_f (Int.not_lt.mpr (h4 i hi)) (bd (fun c => ?_) fun _ => br_f rfl (br_f rfl q))
  refine wO_cell ⟨tabI m fun i => rd32 b (16 + 12 * i), clsG, (by kernel_rfl), ix_in hm rfl hi ?_⟩
  refine wO_cell ⟨tabI m fun i => rd32 b (20 + 12 * i), clsG, (by kernel_rfl), ix_in (i := i - 1) hm (by omega) (by omega) ?_⟩
  dsimp only [wI_int, lk_int]
  have e := hr (i - 1) (by omega)
  rw [Nat.sub_add_cancel (by omega)] at e
  exact bd_f (Int.not_le.mpr e) (br_f rfl (br_f rfl q))
theorem grp_exc {b : List UInt8} (h3 : b.length ≤ 1000) (h : 16 ≤ b.length → (b.length : Int) < 16 + 12 * rd32 b 12) (h0 : (rd32 b 12).natAbs ≤ 100000000) : InitX cw_GroupMap_init (Str.ofString "GroupMap") b := fun hp K X x => by
  refine shut_of ?_
  dsimp only [eV, aNil, aCons, eCall, sSeq, sSet, wf2, w2_two, wd_GroupMap_init, w_GroupMap_init_1]
  refine u32_any (by omega) (fun _ c => ?_) fun _ => x
  dsimp only [eV, eBin, tCmp, aNil, aCons, fAdd, fMul, cGt, gLenB, eCallB, sSeq, sEnd, sIf, sRaise, wI_int, wB_bytes, wS_str, w1_one, lk_int, lk_bytes, w_GroupMap_init_2]
  exact ⟨big1 h0, by omega, bd_t (h (by omega)) x⟩
theorem c_grp_find {c r0 : Int} {m r : Nat} {E S D : Nat → Int} (hm : m ≤ 60) (hr : r ≤ m) (g1 : ∀ i, i < r → E i < c) (g2 : ∀ i, r ≤ i → i < m → c ≤ E i) (w1 : r = m → r0 = 0) (w2 : r < m → c < S r → r0 = 0) (w3 : r < m → S r ≤ c → r0 = D r + c - S r) : Ret cw_GroupMap_find [.inst (Str.ofString "GroupMap") (fGrp m S E D), .int c] (.int r0) := fun hp K X w => by
  refine shut_of ?_
  dsimp only [eV, aNil, aCons, eCall, eAttr, sSeq, sSet, wf2, wO_inst, w2_two, lk_inst, wd_GroupMap_find, w_GroupMap_find_1]
  refine ⟨_, clsG, lkG2, c_first hm hr g1 g2 _ _ _ ?_⟩
  dsimp only [eV, eBin, tCmp, tOr, aNil, aCons, tEnd, fAdd, fSub, cLt, cEq, iL, eItem, gLenL, eCallB, eAttr, sSeq, sEnd, sRet, sIf, wI_int, wO_inst, w1_one, lk_int, lk_inst, w_GroupMap_find_2]
  refine ⟨_, clsG, lkG2, wL_tab ?_⟩
  rw [tab_len]
  refine ⟨by omega, be (fun e => br_t rfl (rt rfl (w1 (by omega) ▸ w))) fun ne => ?_⟩
  have hr' : r < m := by omega
  refine e_ix clsG lkG1 hm rfl hr' ?_
  dsimp only [wI_int, lk_int]
  refine bd (fun lt => br_t rfl (rt rfl (w2 hr' lt ▸ w))) fun ge => br_f rfl (e_ix clsG lkG3 hm rfl hr' ?_)
  dsimp only [wI_int, lk_int]
  refine e_ix clsG lkG1 hm rfl hr' ?_
  dsimp only [wI_int, lk_int]
  exact rt rfl (w3 hr' (by omega) ▸ w)
noncomputable def Mk (W : WF) (c : Str) (b : List UInt8) (hp : List V) (K : V → List V → Prop) (X : Prop) : Prop := W [.ref hp.length, .bytes b] (hp ++ [.inst c []]) (fun v hp2 => wN v (Rt false hp.length (hp2.getD hp.length .none) (hp2.take hp.length) K)) X
theorem rd_map {b : List UInt8} (h3 : b.length ≤ 1000000) (h0 : rd16 b 0 = 0 → Mk cw_ByteMap_init (Str.ofString "ByteMap") b hp K X) (h4 : rd16 b 0 = 4 → Mk cw_SegmentMap_init (Str.ofString "SegmentMap") b hp K X) (h6 : rd16 b 0 = 6 → Mk cw_TrimmedMap_init (Str.ofString "TrimmedMap") b hp K X) (h12 : rd16 b 0 = 12 → Mk cw_GroupMap_init (Str.ofString "GroupMap") b hp K X)
    (hx : b.length < 2 ∨ rd16 b 0 = 2 → X) (hk : b.length < 2 ∨ rd16 b 0 = 0 ∨ rd16 b 0 = 2 ∨ rd16 b 0 = 4 ∨ rd16 b 0 = 6 ∨ rd16 b 0 = 12) : cw_read_map [.bytes b] hp K X := by
  refine shut_of ?_
  dsimp only [eV, aNil, aCons, eCall, sSeq, sSet, wf1, w1_one, wd_read_map, w_read_map_1]
  refine u16_any h3 (fun _ c => ?_) fun c => hx (.inl (by omega))
  dsimp only [eV, tCmp, aNil, aCons, cEq, eMake, eInit, sSeq, sEnd, sRet, sIf, wI_int, lk_int, w_read_map_2]
  refine be h0 fun n0 => ?_
  dsimp only [eV, tCmp, aNil, aCons, cEq, eMake, eInit, sSeq, sEnd, sRet, sIf, wI_int, lk_int, w_read_map_3]
  refine be h4 fun n4 => ?_
  dsimp only [eV, tCmp, aNil, aCons, cEq, eMake, eInit, sSeq, sEnd, sRet, sIf, wI_int, lk_int, w_read_map_4]
  refine be h6 fun n6 => ?_
  dsimp only [eV, eBin, tCmp, aNil, aCons, fAddS, cEq, gStr, eCallB, eMake, eInit, sSeq, sEnd, sRet, sIf, sRaise, wI_int, wS_str, w1_one, lk_int, w_read_map_5]
  refine be h12 fun n12 => ?_
  have e : rd16 b 0 = 2 := by omega
  rw [e]
  exact ⟨by decide, Nat.le_of_ble_eq_true (by decide +kernel), hx (.inr e)⟩
theorem mk_run {W : WF} {c : Str} {b : List UInt8} {f : List (Str × V)} (h : Init W c b f) (w : K (.inst c f) hp) : Mk W c b hp K X := h _ _ _ (new_of (K := fun v hp2 => Rt false hp.length v hp2 K) (rt rfl w))
theorem r_0 {b : List UInt8} {f} (h0 : rd16 b 0 = 0) (h2 : 2 ≤ b.length) (h3 : b.length ≤ 1000000) (h : Init cw_ByteMap_init (Str.ofString "ByteMap") b f) : Ret cw_read_map [.bytes b] (.inst (Str.ofString "ByteMap") f) := fun hp K X w => by
  refine rd_map h3 (fun _ => mk_run h w) ?_ ?_ ?_ ?_ (.inr (by omega)) <;> (intro e; omega)
theorem r_4 {b : List UInt8} {f} (h0 : rd16 b 0 = 4) (h2 : 2 ≤ b.length) (h3 : b.length ≤ 1000000) (h : Init cw_SegmentMap_init (Str.ofString "SegmentMap") b f) : Ret cw_read_map [.bytes b] (.inst (Str.ofString "SegmentMap") f) := fun hp K X w => by
  refine rd_map h3 ?_ (fun _ => mk_run h w) ?_ ?_ ?_ (.inr (by omega)) <;> (intro e; omega)
theorem r_6 {b : List UInt8} {f} (h0 : rd16 b 0 = 6) (h2 : 2 ≤ b.length) (h3 : b.length ≤ 1000000) (h : Init cw_TrimmedMap_init (Str.ofString "TrimmedMap") b f) : Ret cw_read_map [.bytes b] (.inst (Str.ofString "TrimmedMap") f) := fun hp K X w => by
  refine rd_map h3 ?_ ?_ (fun _ => mk_run h w) ?_ ?_ (.inr (by omega)) <;> (intro e; omega)
theorem r_12 {b : List UInt8} {f} (h0 : rd16 b 0 = 12) (h2 : 2 ≤ b.length) (h3 : b.length ≤ 1000000) (h : Init cw_GroupMap_init (Str.ofString "GroupMap") b f) : Ret cw_read_map [.bytes b] (.inst (Str.ofString "GroupMap") f) := fun hp K X w => by
  refine rd_map h3 ?_ ?_ ?_ (fun _ => mk_run h w) ?_ (.inr (by omega)) <;> (intro e; omega)
theorem x_4 {b : List UInt8} (h0 : rd16 b 0 = 4) (h3 : b.length ≤ 1000000) (h : InitX cw_SegmentMap_init (Str.ofString "SegmentMap") b) : Exc cw_read_map [.bytes b] := fun hp K X x => by
  refine rd_map h3 ?_ (fun _ => h _ _ _ x) ?_ ?_ (fun _ => x) (.inr (by omega)) <;> (intro e; omega)
theorem x_12 {b : List UInt8} (h0 : rd16 b 0 = 12) (h3 : b.length ≤ 1000000) (h : InitX cw_GroupMap_init (Str.ofString "GroupMap") b) : Exc cw_read_map [.bytes b] := fun hp K X x => by
  refine rd_map h3 ?_ ?_ ?_ (fun _ => h _ _ _ x) (fun _ => x) (.inr (by omega)) <;> (intro e; omega)
theorem x_2 {b : List UInt8} (h0 : rd16 b 0 = 2) (h3 : b.length ≤ 1000000) : Exc cw_read_map [.bytes b] := fun hp K X x => by
  refine rd_map h3 ?_ ?_ ?_ ?_ (fun _ => x) (.inr (by omega)) <;> (intro e; omega)
theorem x_short {b : List UInt8} (h0 : b.length < 2) : Exc cw_read_map [.bytes b] := fun hp K X x => by
  refine shut_of ?_
  dsimp only [eV, aNil, aCons, eCall, sSeq, sSet, wf1, w1_one, wd_read_map, w_read_map_1]
  exact u16_any (by omega) (fun _ c => absurd c (by omega)) fun _ => x
end

noncomputable def row3 (p : Int × Int × Int) : V := .tup [.int p.1, .int p.2.1, .int p.2.2]
noncomputable def bestL : List (Int × Int) := [(3, 10), (0, 4), (0, 3), (3, 1), (0, 1), (0, 0), (3, 0), (1, 0)]
theorem best_eq : bestV = .tup (bestL.map fun p => .tup [.int p.1, .int p.2]) := rfl
noncomputable def hit (x : Int × Int) (R : List (Int × Int × Int)) : Option (Int × Int × Int) := R.find? fun p => decide ([p.1, p.2.1] = [x.1, x.2])
noncomputable def pick (R : List (Int × Int × Int)) : Option (Int × Int × Int) := bestL.findSome? fun x => hit x R
section
variable {hp : List V} {k : Prop} {A B : Prop} {X : Prop} {K : V → List V → Prop}
theorem guard_t {c : Bool} {k : Prop} (h : c = true) (w : k) : guard c k := h ▸ w
theorem c_rows {b : List UInt8} {R : List (Int × Int × Int)} {m : Nat} (h1 : rd16 b 2 = m) (h2 : 4 + 8 * (m:Int) ≤ b.length) (h3 : b.length ≤ 1000000) (hR : ((List.range m).map fun (i : Nat) => (rd16 b (4 + 8 * (i : Int)), rd16 b (6 + 8 * (i : Int)), rd32 b (8 + 8 * (i : Int)))) = R) : Ret cw_read_rows [.bytes b] (.list (R.map row3)) := fun hp K X w => by
  refine shut_of (wf1_run (comp_def ?_))
  dsimp only [eV, wItems_rng, aNil, aCons, gRange1, eCallB, eCall, w1_one]
  refine c_u16 h3 (by decide) (by omega) _ _ _ (it_0 h1 (by omega) (comp_rng (fun (i : Nat) => row3 (rd16 b (4 + 8 * (i : Int)), rd16 b (6 + 8 * (i : Int)), rd32 b (8 + 8 * (i : Int)))) (fun i hi K' q => ?_) (fun _ => rfl) (rt rfl ?_)))
  · have hb := big1 (n := i) (by omega)
    dsimp only [eV, eBin, aNil, aCons, eTup, fAdd, fMul, eCall, wI_int, lk_int]
    refine ⟨hb, c_u16 h3 (by omega) (by omega) _ _ _ ⟨hb, c_u16 h3 (by omega) (by omega) _ _ _ ⟨hb, c_u32 h3 (by omega) (by omega) _ _ _ (guard_t rfl q)⟩⟩⟩
  · rw [← hR, List.map_map] at w
    exact w
theorem ix_at {l : List V} {i : Nat} {j : Int} {v : V} {f : V → Prop} (e : j = i) (h : i < l.length) (hv : l.getD i .none = v) (w : f v) : natIx l j f := by
  refine ⟨i, v, ?_, hv, w⟩
  unfold idx
  rw [if_pos (by omega), if_pos (by omega), e]; rfl
theorem ix_0 {a : V} {l : List V} {f : V → Prop} (w : f a) : natIx (a :: l) 0 f := ix_at (i := 0) rfl (Nat.zero_lt_succ _) rfl w
theorem ix_1 {a b : V} {l : List V} {f : V → Prop} (w : f b) : natIx (a :: b :: l) 1 f := ix_at (i := 1) rfl (Nat.succ_lt_succ (Nat.zero_lt_succ _)) rfl w
theorem ix_2 {a b c : V} {l : List V} {f : V → Prop} (w : f c) : natIx (a :: b :: c :: l) 2 f := ix_at (i := 2) rfl (Nat.succ_lt_succ (Nat.succ_lt_succ (Nat.zero_lt_succ _))) rfl w
theorem c_rcmap {b : List UInt8} {R : List (Int × Int × Int)} {p : Int × Int × Int} {v : V} (hrows : Ret cw_read_rows [.bytes b] (.list (R.map row3))) (h3 : b.length ≤ 1000000) (hR : R ≠ []) (hl : R.length ≤ 1000) (hp0 : (pick R).getD (R.headD (0, 0, 0)) = p) (hO : 0 ≤ p.2.2) (hO2 : p.2.2 ≤ b.length) (hv : isPlainV v = true) (hrd : Ret cw_read_map [.bytes (b.drop p.2.2.toNat)] v) : Ret cw_read_cmap [.bytes b] v := fun hp K X w => by
  have fin : ∀ {X : Prop}, cw_part_of [.bytes b, .int p.2.2, .int (b.length - p.2.2)] hp (fun a hp1 => cw_read_map [a] hp1 (fun v hp2 => Rt false hp.length v hp2 K) X) X := by
    intro X
    refine c_part h3 hO (by omega) (by omega) _ _ _ ?_
    rw [List.take_of_length_le (by rw [List.length_drop]; omega)]
    exact hrd _ _ _ (rt hv w)
  have ne : isNil (R.map row3) = false := by cases R; exact absurd rfl hR; rfl
  have len : (R.map row3).length ≤ 1000000 := by rw [List.length_map]; omega
  refine shut_of ?_
  dsimp only [eV, aNil, aCons, eCall, sSeq, sSet, wf1, w1_one, wd_read_cmap, w_read_cmap_1]
  refine hrows _ _ _ ?_
  dsimp only [eV, tCmp, aNil, eList, cEq0, sSeq, sEnd, sIf, sRaise, wL_list, wS_str, lk_list, w_read_cmap_2]
  refine guard_t rfl (guard_t rfl ⟨len, br_f ne ?_⟩)
  dsimp only [eV, eBin, aNil, aCons, fSub, iL, iT, eItem, gLenB, eCallB, eCall, sSeq, sRet, wI_int, wB_bytes, wL_list, w1_one, lk_int, lk_bytes, lk_list, w_read_cmap_3]
  refine for_def ?_
  rw [best_eq]
  refine ⟨by decide, for_map (fun x : Int × Int => V.tup [.int x.1, .int x.2]) (fun pre _ hp2 => hp2 = hp ∧ pre.findSome? (fun x => hit x R) = none) (fun _ _ w => w) ⟨rfl, rfl⟩ (fun pre x post a hp2 Kn' e hi q => ?_) fun a hp2 hi => ?_⟩
  · obtain ⟨rfl, hi⟩ := hi
    dsimp only [sSeq, sEnd, w_read_cmap_4]
    refine for_def ⟨len, for_map (fun p => (.int p.1, .int p.2.1, .int p.2.2)) (fun pre2 _ hp3 => hp3 = hp2 ∧ hit x pre2 = none) (fun _ _ w => w) ⟨rfl, rfl⟩ (fun pre2 z post2 a hp3 Kn2 e2 hi2 q2 => ?_) fun a hp3 hi2 => ?_⟩
    · obtain ⟨rfl, hi2⟩ := hi2
      dsimp only [eV, eBin, tCmp, aNil, aCons, eTup, fSub, gLenB, eCallB, eCall, sEnd, sRet, sIf, wI_int, wB_bytes, w1_one, lk_int, lk_bytes, lk_tup, w_read_cmap_5]
      refine guard_t rfl ⟨[z.1, z.2.1], [x.1, x.2], rfl, rfl, bd (fun c => ?_) fun c => q2 _ _ ⟨rfl, ?_⟩⟩
      · have e3 : hit x R = some z := by
          unfold hit at hi2 ⊢
          rw [e2, List.find?_append, hi2, Option.none_or, List.find?_cons, decide_eq_true c]
        have e4 : pick R = some z := by
          unfold pick
          rw [e, List.findSome?_append, hi, Option.none_or, List.findSome?_cons, e3]
        rw [e4] at hp0
        subst hp0
        exact ⟨h3, fin⟩
      · unfold hit at hi2 ⊢
        rw [List.find?_append, hi2, Option.none_or, List.find?_cons, decide_eq_false c]; rfl
    · obtain ⟨rfl, hi2⟩ := hi2
      exact q _ _ ⟨rfl, by rw [List.findSome?_append, hi, Option.none_or, List.findSome?_cons, hi2]; rfl⟩
  · obtain ⟨rfl, hi⟩ := hi
    have e4 : pick R = none := hi
    rw [e4] at hp0
    cases R with
    | nil => exact absurd rfl hR
    | cons z R =>
      subst hp0
      exact ⟨len, ix_0 ⟨Nat.le_of_ble_eq_true rfl, ix_2 ⟨h3, len, ix_0 ⟨Nat.le_of_ble_eq_true rfl, ix_2 fin⟩⟩⟩⟩
end

noncomputable def gl (d : List (Int × Int)) (c : Int) : Int := (dget d c).getD 0
noncomputable def w0 (d : List (Int × Int)) : List UInt8 := be16 0 ++ be16 262 ++ be16 0 ++ (List.range 256).map fun (i : Nat) => UInt8.ofNat (if gl d i < 256 then gl d i else 0).toNat
noncomputable def w6 (d : List (Int × Int)) (F : Int) (n : Nat) : List UInt8 := be16 6 ++ be16 (10 + ((2 * n : Nat) : Int)) ++ be16 0 ++ be16 F ++ be16 n ++ (List.range n).flatMap fun (i : Nat) => be16 (gl d (F + i))
noncomputable def addRun (acc : List (Int × Int)) (c : Int) : List (Int × Int) := match acc.getLast? with
  | some p => if p.2 = c - 1 then acc.dropLast ++ [(p.1, c)] else acc ++ [(c, c)]
  | none => [(c, c)]
noncomputable def runs (l : List Int) : List (Int × Int) := l.foldl addRun []
noncomputable def runV (p : Int × Int) : V := .tup [.int p.1, .int p.2]
noncomputable def addGrp (d : List (Int × Int)) (acc : List (Int × Int × Int)) (c : Int) : List (Int × Int × Int) := match acc.getLast? with
  | some p => if p.2.1 = c - 1 ∧ p.2.2 + c - p.1 = gl d c then acc.dropLast ++ [(p.1, c, p.2.2)] else acc ++ [(c, c, gl d c)]
  | none => [(c, c, gl d c)]
noncomputable def grps (d : List (Int × Int)) (l : List Int) : List (Int × Int × Int) := l.foldl (addGrp d) []
noncomputable def evenRun (d : List (Int × Int)) (F : Int) (n : Nat) : Bool := (List.range n).all fun i => gl d (F + i) - (F + i) == gl d F - F
theorem dget_def {d k v} (h : dget d k = some v) : gl d k = v := by unfold gl; rw [h]; rfl
theorem be16_len {n} : (be16 n).length = 2 := rfl
theorem be32_len {n} : (be32 n).length = 4 := rfl
theorem fm16_len {α} {l : List α} {g : α → Int} : (l.flatMap fun i => be16 (g i)).length = 2 * l.length := by
  induction l with
  | nil => rfl
  | cons a l ih => rw [List.flatMap_cons, List.length_append, ih, List.length_cons, be16_len]; omega
section
variable {hp : List V} {k : Prop} {A B : Prop} {X : Prop} {K : V → List V → Prop}
theorem c_w0 {d : List (Int × Int)} (h : ∀ c, 0 ≤ gl d c) : Ret cw_write_format_0 [.dict d] (.bytes (w0 d)) := fun hp K X w => by
  refine shut_of ?_
  dsimp only [eV, eBin, aNil, aCons, fAddB, eCallB, eCall, sSeq, sSet, sRet, wf1, wB_bytes, w1_one, lk_bytes, wd_write_format_0, w_write_format_0_1]
  refine comp_def ?_
  dsimp only [eV, wItems_rng, aNil, aCons, gRange1, eCallB, wI_int, w1_one, lk_int]
  refine it_0 (n := 256) rfl (Nat.le_of_ble_eq_true rfl) (comp_rng (fun (i : Nat) => .int (gl d i)) (fun i hi K' q => q) (fun _ => rfl) ?_)
  skip
  refine c_put16 _ _ _ _ (c_put16 _ _ _ _ ⟨(Nat.le_of_ble_eq_true rfl), c_put16 _ _ _ _ ⟨(Nat.le_of_ble_eq_true rfl), comp_def ⟨by rw [tab_len]; exact (Nat.le_of_ble_eq_true rfl), comp_map (fun (i : Nat) => V.int (gl d i)) (fun (i : Nat) => .int (if gl d i < 256 then gl d i else 0)) (fun _ _ w => w) (fun i hi K' q => ?_) (fun _ => rfl) ?_⟩⟩⟩)
  · dsimp only [eV, tCmp, eIf, cLt, wI_int, lk_int]
    exact bd (fun c => by rw [if_pos c] at q; exact q) fun c => by rw [if_neg c] at q; exact q
  · refine ⟨(List.range 256).map fun (i : Nat) => if gl d i < 256 then gl d i else 0, by rw [List.map_map]; rfl, ⟨fun x hx => ?_, by rw [List.length_map, List.length_range]; exact (Nat.le_of_ble_eq_true rfl)⟩, ?_⟩
    · obtain ⟨i, -, rfl⟩ := List.mem_map.mp hx
      have := h i
      split <;> omega
    · dsimp only [wB_bytes, lk_bytes]
      rw [List.map_map]
      exact ⟨by rw [List.length_map, List.length_range]; exact (Nat.le_of_ble_eq_true rfl), rt rfl w⟩
theorem c_exp {p : Nat} (h : p < 64) : Ret cw_exponent_of [.int p] (.int (Nat.log2 p)) := fun hp K X w => by
  refine shut_of ?_
  dsimp only [eV, sSeq, sSet, sRet, wf1, w1_one, wd_exponent_of, w_exponent_of_1, w_exponent_of_2, w_exponent_of_3, w_exponent_of_4]
  refine ⟨fun n a hp1 => ∃ e : Nat, a = (.int e, .int n) ∧ hp1 = hp ∧ e + n.log2 = p.log2, ⟨p, 0, rfl, rfl, Nat.zero_add _⟩, fun n a hp1 hi => ?_⟩
  obtain ⟨e, rfl, rfl, a1⟩ := hi
  dsimp only [eV, eBin, tCmp, fAdd, fDiv, cGt, sSeq, sEnd, sSet, wI_int, lk_int]
  refine bd (fun hq => ⟨by decide, n / 2, ?_, e + 1, rfl, rfl, ?_⟩) fun hq => ?_
  · omega
  · rw [Nat.log2_def, if_pos (by omega)] at a1
    omega
  · rw [Nat.log2_def, if_neg (by omega)] at a1
    have : e = p.log2 := a1
    subst this
    exact rt rfl w
theorem c_even {d : List (Int × Int)} {F L : Int} {n : Nat} (hn : n ≤ 100) (h1 : 0 ≤ F) (h2 : F ≤ 100000) (hd : ∀ i : Nat, i < n → dget d (F + i) = some (gl d (F + i))) (hL : L = F + n - 1) : Ret cw_is_even_run [.dict d, .int F, .int L] (.bool (evenRun d F n)) := fun hp K X w => by
  refine shut_of ?_
  dsimp only [eV, sSeq, sRet, wf3, wd_is_even_run, w_is_even_run_1]
  refine for_def (it_rng (n := n) (by omega) (by omega) (by omega) (by omega) (for_map (fun (i : Nat) => V.int (F + i)) (fun pre _ hp' => pre.all (fun i => gl d (F + i) - (F + i) == gl d F - F) = true ∧ hp' = hp) (fun _ _ w => w) ⟨rfl, rfl⟩ (fun pre i post a hp2 Kn' e hi q => ?_) fun a hp2 hi => ?_))
  · obtain ⟨a1, rfl⟩ := hi
    have hi : i < n := List.mem_range.mp (e ▸ List.mem_append_right _ (List.mem_cons_self ..))
    have d0 := hd 0 (by omega)
    rw [show F + ((0:Nat):Int) = F by omega] at d0
    dsimp only [eV, eBin, tCmp, fSub, cNe, iD, eItem, sEnd, sRet, sIf, wI_int, wD_dict, lk_int, lk_dict, w_is_even_run_2]
    refine ⟨_, hd i hi, _, d0, bn (be (fun c => q _ _ ⟨?_, rfl⟩) fun c => rt rfl ?_)⟩
    · rw [List.all_append, a1, List.all_cons, beq_iff_eq.mpr c]; rfl
    · have hf : evenRun d F n = false := by
        unfold evenRun
        rw [e, List.all_append, List.all_cons, beq_false_of_ne c, Bool.false_and, Bool.and_false]
      rw [hf] at w
      exact w
  · obtain ⟨a1, rfl⟩ := hi
    have : evenRun d F n = true := a1
    rw [this] at w
    exact rt rfl w
end

section
variable {hp : List V} {k : Prop} {A B : Prop} {X : Prop} {K : V → List V → Prop}
theorem if_nil {l : List V} (hl : l.length ≤ 1000000) (hA : l ≠ [] → A) (hB : l = [] → B) : guard true (guard (isNil ([] : List V)) (l.length ≤ 1000000 ∧ br (!isNil l) A B)) := by
  refine ⟨hl, ?_⟩
  cases l with
  | nil => exact br_f rfl (hB rfl)
  | cons a l => exact br_t rfl (hA (List.cons_ne_nil _ _))
theorem ix_last {l : List V} {a : V} {f : V → Prop} (w : f a) : natIx (l ++ [a]) (-1) f := by
  refine ⟨l.length, a, ?_, by rw [List.getD_eq_getElem?_getD, List.getElem?_concat_length]; rfl, w⟩
  unfold idx
  rw [List.length_append, List.length_singleton, if_neg (by omega), if_pos (by omega)]
  congr 1; omega
theorem range_pre {n i : Nat} {ys zs : List Nat} (e : List.range n = ys ++ i :: zs) : i < n ∧ ys.length < n := by
  refine ⟨List.mem_range.mp (e ▸ List.mem_append_right _ (List.mem_cons_self ..)), ?_⟩
  have := congrArg List.length e
  rw [List.length_range, List.length_append, List.length_cons] at this
  omega
theorem c_w6_3 {d : List (Int × Int)} {F L : Int} {n low : Nat} {known : V} {Kn : Unit → List V → Prop} (hn : n ≤ 100) (hF : 0 ≤ F ∧ F ≤ 100000) (hL : L = F + n - 1) (w : K (.bytes (w6 d F n)) hp) : w_write_format_6_4 low (.int L) (.int F) known (.dict d) hp Kn (fun v hp2 => Rt false hp.length v hp2 K) X := by
  dsimp only [eV, eBin, aNil, aCons, fAdd, fSub, fAddB, gLenB, eCallB, eCall, sSeq, sSet, sRet, wI_int, wB_bytes, w1_one, lk_int, lk_bytes, w_write_format_6_4, w_write_format_6_5]
  refine for_def (it_rng (n := n) (by omega) (by omega) (by omega) (by omega) (for_map (fun (i : Nat) => V.int (F + i)) (fun pre a hp' => a = .bytes (pre.flatMap fun (i : Nat) => be16 (gl d (F + i))) ∧ hp' = hp) (fun _ _ w => w) ⟨rfl, rfl⟩ (fun pre i post a hp2 Kn' e hi q => ?_) fun a hp2 hi => ?_))
  · obtain ⟨rfl, rfl⟩ := hi
    have hi := range_pre e
    dsimp only [eV, eBin, aNil, aCons, fAddB, eCall, eGet, sSeq, sEnd, sSet, wI_int, wB_bytes, wD_dict, w2_two, lk_bytes, w_write_format_6_6]
    refine c_put16 _ _ _ _ ⟨?_, q _ _ ⟨?_, rfl⟩⟩
    · rw [fm16_len]
      show 2 * pre.length + 2 ≤ 1000000
      omega
    · rw [List.flatMap_append, List.flatMap_singleton]; rfl
  · obtain ⟨rfl, rfl⟩ := hi
    have len : ((List.range n).flatMap fun (i : Nat) => be16 (gl d (F + i))).length = 2 * n := by rw [fm16_len, List.length_range]
    dsimp only [wB_bytes, lk_bytes]
    refine c_put16 _ _ _ _ ?_
    rw [len]
    refine ⟨by omega, c_put16 _ _ _ _ ⟨(Nat.le_of_ble_eq_true rfl), c_put16 _ _ _ _ ⟨(Nat.le_of_ble_eq_true rfl), c_put16 _ _ _ _ ⟨(Nat.le_of_ble_eq_true rfl), c_put16 _ _ _ _ ⟨(Nat.le_of_ble_eq_true rfl), ?_, rt rfl ?_⟩⟩⟩⟩⟩
    · show 10 + 2 * n ≤ 1000000
      omega
    rw [show L - F + 1 = (n : Int) by omega]
    exact w
theorem c_w6 {d : List (Int × Int)} {F L : Int} {n : Nat} (hs : rising (d.map (·.1)) = true) (hl : d.length ≤ 63) (hn : n ≤ 100) (hF : 0 ≤ F ∧ F ≤ 100000) (hL : L = F + n - 1) (h : d = [] ∧ F = 0 ∧ n = 0 ∨ ∃ r s, d.map (·.1) = F :: r ∧ d.map (·.1) = s ++ [L]) : Ret cw_write_format_6 [.dict d] (.bytes (w6 d F n)) := fun hp K X w => by
  have e : (d.map fun p => V.int p.1) = (d.map (·.1)).map V.int := by rw [List.map_map]; rfl
  have hl' : ((d.map (·.1)).map V.int).length ≤ 1000000 := by rw [List.length_map, List.length_map]; omega
  refine shut_of ?_
  dsimp only [eV, aNil, aCons, eCallB, sSeq, sSet, wf1, w1_one, wd_write_format_6, w_write_format_6_1]
  refine ⟨⟨hs, hl⟩, ?_⟩
  rw [e]
  dsimp only [eV, tCmp, eIf, aNil, eList, cNe0, iL, eItem, sSeq, sSet, wI_int, wL_list, lk_list, w_write_format_6_2]
  have nl : d = [] → (d.map (·.1)).map V.int = [] := fun q => by rw [q]; rfl
  refine if_nil hl' (fun q => ⟨hl', ?_⟩) fun q => ?_
  · rcases h with ⟨h, -, -⟩ | ⟨r, s, h1, h2⟩
    · exact absurd (nl h) q
    · rw [h1]
      refine ix_0 ?_
      dsimp only [eV, tCmp, eIf, aNil, eNeg, eList, cNe0, iL, eItem, sSeq, sSet, wI_int, wL_list, lk_list, w_write_format_6_3]
      rw [← h1]
      refine if_nil hl' (fun q => ⟨hl', ?_⟩) fun q2 => absurd q2 q
      rw [h2, List.map_append]
      exact ix_last (c_w6_3 hn hF hL w)
  · rcases h with ⟨h, rfl, rfl⟩ | ⟨r, s, h1, h2⟩
    · dsimp only [eV, tCmp, eIf, aNil, eNeg, eList, cNe0, iL, eItem, sSeq, sSet, wI_int, wL_list, lk_list, w_write_format_6_3]
      refine if_nil hl' (fun q2 => absurd q q2) fun q => c_w6_3 hn hF rfl w
    · rw [h1] at q; cases q
end

theorem addRun_some {l : List (Int × Int)} {p : Int × Int} {c : Int} : addRun (l ++ [p]) c = if p.2 = c - 1 then l ++ [(p.1, c)] else l ++ [p] ++ [(c, c)] := by
  unfold addRun
  rw [List.getLast?_concat, List.dropLast_concat]
theorem addGrp_some {d} {l : List (Int × Int × Int)} {p : Int × Int × Int} {c : Int} : addGrp d (l ++ [p]) c = if p.2.1 = c - 1 ∧ p.2.2 + c - p.1 = gl d c then l ++ [(p.1, c, p.2.2)] else l ++ [p] ++ [(c, c, gl d c)] := by
  unfold addGrp
  rw [List.getLast?_concat, List.dropLast_concat]
theorem addRun_len (acc : List (Int × Int)) (c : Int) : (addRun acc c).length ≤ acc.length + 1 := by
  rcases List.eq_nil_or_concat acc with rfl | ⟨l, p, rfl⟩
  · exact Nat.le_refl _
  · rw [List.concat_eq_append, addRun_some]
    split <;> simp
theorem addGrp_len (d) (acc : List (Int × Int × Int)) (c : Int) : (addGrp d acc c).length ≤ acc.length + 1 := by
  rcases List.eq_nil_or_concat acc with rfl | ⟨l, p, rfl⟩
  · exact Nat.le_refl _
  · rw [List.concat_eq_append, addGrp_some]
    split <;> simp
theorem foldl_len {α β} {f : List β → α → List β} (hf : ∀ acc c, (f acc c).length ≤ acc.length + 1) (l : List α) : ∀ acc, (l.foldl f acc).length ≤ acc.length + l.length := by
  induction l with
  | nil => intro acc; exact Nat.le_refl _
  | cons a l ih => intro acc; rw [List.foldl_cons, List.length_cons]; have := ih (f acc a); have := hf acc a; omega
theorem runs_snoc (l : List Int) (c : Int) : runs (l ++ [c]) = addRun (runs l) c := by unfold runs; rw [List.foldl_append]; rfl
theorem grps_snoc (d) (l : List Int) (c : Int) : grps d (l ++ [c]) = addGrp d (grps d l) c := by unfold grps; rw [List.foldl_append]; rfl
theorem runs_len (l : List Int) : (runs l).length ≤ l.length := by have := foldl_len addRun_len l []; rwa [List.length_nil, Nat.zero_add] at this
theorem grps_len (d) (l : List Int) : (grps d l).length ≤ l.length := by have := foldl_len (addGrp_len d) l []; rwa [List.length_nil, Nat.zero_add] at this
section
variable {hp : List V} {k : Prop} {A B : Prop} {X : Prop} {K : V → List V → Prop}
theorem rt_cell {x : V} (w : K x hp) : Rt false hp.length (.ref hp.length) (hp ++ [x]) K := by
  show K (frzV hp.length (hp ++ [x]) (.ref hp.length)) ((hp ++ [x]).take hp.length)
  rw [List.take_left, show frzV hp.length (hp ++ [x]) (.ref hp.length) = x from (if_neg (Nat.lt_irrefl _)).trans look_cell]
  exact w
theorem if_cell {l : List V} (hl : l.length ≤ 1000000) (hA : l ≠ [] → A) (hB : l = [] → B) : guard true (wL (look (hp ++ [.list l]) (.ref hp.length)) fun l => guard (isNil ([] : List V)) (l.length ≤ 1000000 ∧ br (!isNil l) A B)) :=
  wL_cell (if_nil hl hA hB)
theorem cell_last {l : List V} {a : V} {f : V → Prop} (hl : l.length ≤ 1000) (w : f a) : wL (look (hp ++ [.list (l ++ [a])]) (.ref hp.length)) fun l => l.length ≤ 1000000 ∧ natIx l (-1) f :=
  wL_cell ⟨by rw [List.length_append, List.length_singleton]; omega, ix_last w⟩
theorem cell_set {l : List V} {a v : V} {Kn : Unit → List V → Prop} (hl : l.length < 1000) (hv : isPlainV v = true) (w : Kn () (hp ++ [.list (l ++ [v])])) : wCell (hp ++ [.list (l ++ [a])]) (.ref hp.length) fun hp0 c h2 => wL c fun l => guard (isPlainV v) (l.length ≤ 1000 ∧ ∃ j, idx l.length (-1) = some j ∧ Kn () (hp0 ++ V.list (l.set j v) :: h2)) := by
  refine ⟨hp, _, [], rfl, rfl, guard_t hv ⟨by rw [List.length_append, List.length_singleton]; omega, l.length, ?_, ?_⟩⟩
  · unfold idx
    rw [List.length_append, List.length_singleton, if_neg (by omega), if_pos (by omega)]
    congr 1; omega
  · rw [List.set_append_right _ _ (Nat.le_refl _), Nat.sub_self]; exact w
theorem cell_app {l : List V} {v : V} {P : List V → Prop} (hl : l.length ≤ 1000) (hv : isPlainV v = true) (w : P (hp ++ [.list (l ++ [v])])) : wCell (hp ++ [.list l]) (.ref hp.length) fun hp0 c h2 => wL c fun l => guard (isPlainV v) (l.length ≤ 1000 ∧ P (hp0 ++ V.list (l ++ [v]) :: h2)) :=
  ⟨hp, _, [], rfl, rfl, guard_t hv ⟨hl, w⟩⟩
theorem c_runs {l : List Int} (hs : rising l = true) (hl : l.length ≤ 63) : Ret cw_runs_of [.list (l.map V.int)] (.list ((runs l).map runV)) := fun hp K X w => by
  refine shut_of ?_
  dsimp only [aNil, sSeq, sSet, wf1, eNewL, w1_one, wd_runs_of, w_runs_of_1]
  refine guard_t rfl ?_
  dsimp only [eV, sSeq, sRet, w_runs_of_2]
  refine for_def ⟨l, rfl, ⟨hs, hl⟩, by rw [List.length_map]; omega, for_map (fun (i : Int) => V.int i) (fun pre _ hp' => hp' = hp ++ [.list ((runs pre).map runV)]) (fun _ _ w => w) rfl (fun pre c post a hp2 Kn' e hi q => ?_) fun a hp2 hi => ?_⟩
  · subst hi
    have hlen := runs_len pre
    have e5 : pre.length < 63 := by have := congrArg List.length e; rw [List.length_append, List.length_cons] at this; omega
    have q := q () _ rfl
    rw [runs_snoc] at q
    dsimp only [eV, eBin, tCmp, tAnd, aNil, eNeg, eList, tEnd, fSub, cEq, cNe0, iL, iT, eItem, sIf, wI_int, wL_list, lk_int, lk_list, w_runs_of_3]
    rcases List.eq_nil_or_concat (runs pre) with ea | ⟨l0, p, ea⟩
    · rw [ea] at q ⊢
      refine if_cell (Nat.le_of_ble_eq_true rfl) (fun h => absurd rfl h) fun _ => br_f rfl ?_
      dsimp only [eV, aNil, aCons, eTup, eApp, sSeq, sEnd, sExpr, wN_none, w1_one, w_runs_of_5]
      exact ⟨hp, _, [], rfl, rfl, guard_t rfl (cell_app (Nat.le_of_ble_eq_true rfl) rfl q)⟩
    · rw [List.concat_eq_append] at ea
      rw [ea, addRun_some] at q
      rw [ea] at hlen ⊢
      rw [List.length_append] at hlen
      have h1 : (l0.map runV).length ≤ 1000 := by rw [List.length_map]; omega
      rw [List.map_append]
      refine if_cell (by rw [List.length_append, List.length_map]; show l0.length + 1 ≤ 1000000; omega) (fun _ => ?_) fun h => absurd (List.append_eq_nil_iff.mp h).2 (List.cons_ne_nil _ _)
      refine cell_last h1 ?_
      dsimp only [wT_tup, lk_tup, runV]
      refine ⟨(Nat.le_of_ble_eq_true rfl), ix_1 ?_⟩
      dsimp only [wI_int, lk_int]
      refine be (fun c1 => br_t rfl ?_) fun c1 => br_f rfl ?_
      · rw [if_pos c1, List.map_append] at q
        dsimp only [eV, aNil, aCons, eNeg, eTup, iL, iT, eItem, sSeq, sEnd, sItemL, wI_int, w_runs_of_4]
        refine cell_last h1 ?_
        dsimp only [wT_tup, lk_tup, runV]
        exact ⟨(Nat.le_of_ble_eq_true rfl), ix_0 (guard_t rfl (cell_set (by rw [List.length_map]; omega) rfl q))⟩
      · rw [if_neg c1, List.map_append, List.map_append] at q
        dsimp only [eV, aNil, aCons, eTup, eApp, sSeq, sEnd, sExpr, wN_none, w1_one, w_runs_of_5]
        exact ⟨hp, _, [], rfl, rfl, guard_t rfl (cell_app (by rw [List.length_append, List.length_map]; show l0.length + 1 ≤ 1000; omega) rfl q)⟩
  · subst hi
    exact rt_cell w
end

noncomputable def w12 (R : List (Int × Int × Int)) : List UInt8 := be16 12 ++ be16 0 ++ be32 (16 + ((12 * R.length : Nat) : Int)) ++ be32 0 ++ be32 R.length ++ R.flatMap fun p => be32 p.1 ++ be32 p.2.1 ++ be32 p.2.2
theorem fm12_len {R : List (Int × Int × Int)} : (R.flatMap fun p => be32 p.1 ++ be32 p.2.1 ++ be32 p.2.2).length = 12 * R.length := by
  induction R with
  | nil => rfl
  | cons a l ih => rw [List.flatMap_cons, List.length_append, ih, List.length_cons]; show 12 + 12 * l.length = _; omega
section
variable {hp : List V} {k : Prop} {A B : Prop} {X : Prop} {K : V → List V → Prop}
theorem c_w12b {d : List (Int × Int)} {R : List (Int × Int × Int)} {low : Nat} {cv : V} {Kn : Unit → List V → Prop} (hl : R.length ≤ 63) (w : K (.bytes (w12 R)) hp) : w_write_format_12_6 low (.list (R.map row3)) cv hp Kn (fun v hp2 => Rt false hp.length v hp2 K) X := by
  dsimp only [eV, eBin, aNil, aCons, fAdd, fAddB, gLenB, gLenL, eCallB, eCall, eJoin, sSeq, sSet, sRet, wI_int, wB_bytes, wL_list, w1_one, lk_int, lk_bytes, lk_list, w_write_format_12_6]
  refine guard_t rfl (comp_def ?_)
  dsimp only [eV, wItems_list]
  refine ⟨by rw [List.length_map]; omega, comp_map (fun p => (V.int p.1, V.int p.2.1, V.int p.2.2)) (fun p : Int × Int × Int => .bytes (be32 p.1 ++ be32 p.2.1 ++ be32 p.2.2)) (fun _ _ w => w) (fun p hp K' q => ?_) (fun _ => rfl) ?_⟩
  · dsimp only [eV, eBin, aNil, aCons, fAddB, eCall, wB_bytes, lk_bytes]
    exact c_put32 _ _ _ _ (c_put32 _ _ _ _ ⟨(Nat.le_of_ble_eq_true rfl), c_put32 _ _ _ _ ⟨(Nat.le_of_ble_eq_true rfl), q⟩⟩)
  · refine ⟨R.map fun p => be32 p.1 ++ be32 p.2.1 ++ be32 p.2.2, by rw [List.map_map]; rfl, ?_⟩
    rw [← List.flatMap_def, fm12_len, List.length_map]
    refine ⟨⟨by omega, by omega⟩, ?_⟩
    skip
    refine c_put16 _ _ _ _ (c_put16 _ _ _ _ ⟨(Nat.le_of_ble_eq_true rfl), ?_⟩)
    rw [List.length_map]
    refine ⟨by omega, c_put32 _ _ _ _ ⟨(Nat.le_of_ble_eq_true rfl), c_put32 _ _ _ _ ⟨(Nat.le_of_ble_eq_true rfl), by omega, c_put32 _ _ _ _ ⟨(Nat.le_of_ble_eq_true rfl), ?_, rt rfl w⟩⟩⟩⟩
    show 16 + 12 * R.length ≤ 1000000
    omega
theorem c_w12 {d : List (Int × Int)} (hs : rising (d.map (·.1)) = true) (hl : d.length ≤ 63) (hd : ∀ p ∈ d, dget d p.1 = some (gl d p.1)) : Ret cw_write_format_12 [.dict d] (.bytes (w12 (grps d (d.map (·.1))))) := fun hp K X w => by
  have em : (d.map fun p => V.int p.1) = (d.map (·.1)).map V.int := by rw [List.map_map]; rfl
  refine shut_of ?_
  dsimp only [aNil, sSeq, sSet, wf1, eNewL, w1_one, wd_write_format_12, w_write_format_12_1]
  refine guard_t rfl ?_
  dsimp only [sSeq, w_write_format_12_2]
  refine for_def ⟨⟨hs, hl⟩, ?_⟩
  rw [em]
  refine ⟨by rw [List.length_map, List.length_map]; omega, for_map (fun (i : Int) => V.int i) (fun pre _ hp' => hp' = hp ++ [.list ((grps d pre).map row3)]) (fun _ _ w => w) rfl (fun pre c post a hp2 Kn' e hi q => ?_) fun a hp2 hi => ?_⟩
  · subst hi
    have hlen := grps_len d pre
    have e5 : pre.length < 63 := by have := congrArg List.length e; rw [List.length_map, List.length_append, List.length_cons] at this; omega
    have hdc : dget d c = some (gl d c) := by
      have : c ∈ d.map (·.1) := e ▸ List.mem_append_right _ (List.mem_cons_self ..)
      obtain ⟨p, hp, rfl⟩ := List.mem_map.mp this
      exact hd p hp
    have q := q () _ rfl
    rw [grps_snoc] at q
    have app : ∀ {G : List (Int × Int × Int)}, G.length ≤ 1000 → Kn' () (hp ++ [.list (G.map row3 ++ [row3 (c, c, gl d c)])]) → w_write_format_12_5 hp.length (.int c) (.ref hp.length) (.dict d) (hp ++ [.list (G.map row3)]) Kn' (fun v hp2 => Rt false hp.length v hp2 K) False := fun hG w => by
      dsimp only [eV, aNil, aCons, eTup, iD, eItem, eApp, sSeq, sEnd, sExpr, wI_int, wD_dict, wN_none, w1_one, lk_dict, w_write_format_12_5]
      exact ⟨hp, _, [], rfl, rfl, _, hdc, guard_t rfl (cell_app (by rw [List.length_map]; exact hG) rfl w)⟩
    dsimp only [eV, eBin, tCmp, tAnd, aNil, eNeg, eList, tEnd, fAdd, fSub, cEq, cNe0, iL, iT, iD, eItem, sIf, wI_int, wL_list, wD_dict, lk_int, lk_list, lk_dict, w_write_format_12_3]
    rcases List.eq_nil_or_concat (grps d pre) with ea | ⟨l0, p, ea⟩
    · rw [ea] at q ⊢
      exact if_cell (Nat.le_of_ble_eq_true rfl) (fun h => absurd rfl h) fun _ => br_f rfl (app (G := []) (Nat.le_of_ble_eq_true rfl) q)
    · rw [List.concat_eq_append] at ea
      rw [ea, addGrp_some] at q
      rw [ea] at hlen ⊢
      rw [List.length_append] at hlen
      have h1 : (l0.map row3).length ≤ 1000 := by rw [List.length_map]; omega
      rw [List.map_append]
      refine if_cell (by rw [List.length_append, List.length_map]; show l0.length + 1 ≤ 1000000; omega) (fun _ => ?_) fun h => absurd (List.append_eq_nil_iff.mp h).2 (List.cons_ne_nil _ _)
      refine cell_last h1 ?_
      dsimp only [wT_tup, lk_tup, row3]
      refine ⟨(Nat.le_of_ble_eq_true rfl), ix_1 ?_⟩
      dsimp only [wI_int, lk_int]
      have no : ¬ (p.2.1 = c - 1 ∧ p.2.2 + c - p.1 = gl d c) → w_write_format_12_5 hp.length (.int c) (.ref hp.length) (.dict d) (hp ++ [.list (l0.map row3 ++ [p].map row3)]) Kn' (fun v hp2 => Rt false hp.length v hp2 K) False := fun c1 => by
        rw [if_neg c1, List.map_append, List.map_append] at q
        rw [← List.map_append]
        refine app (by rw [List.length_append]; omega) ?_
        rw [List.map_append]
        exact q
      refine be (fun c1 => ?_) fun c1 => br_f rfl (no fun h => c1 h.1)
      refine cell_last h1 ?_
      dsimp only [wT_tup, lk_tup, row3]
      refine ⟨(Nat.le_of_ble_eq_true rfl), ix_2 ?_⟩
      dsimp only [wI_int, lk_int]
      refine cell_last h1 ?_
      dsimp only [wT_tup, lk_tup, row3]
      refine ⟨(Nat.le_of_ble_eq_true rfl), ix_0 ?_⟩
      dsimp only [wI_int, lk_int]
      refine ⟨_, hdc, be (fun c2 => br_t rfl ?_) fun c2 => br_f rfl (no fun h => c2 h.2)⟩
      rw [if_pos ⟨c1, c2⟩, List.map_append] at q
      dsimp only [eV, aNil, aCons, eNeg, eTup, iL, iT, eItem, sSeq, sEnd, sItemL, wI_int, w_write_format_12_4]
      refine cell_last h1 ?_
      dsimp only [wT_tup, lk_tup, row3]
      refine ⟨(Nat.le_of_ble_eq_true rfl), ix_0 (cell_last h1 ?_)⟩
      dsimp only [wT_tup, lk_tup, row3]
      exact ⟨(Nat.le_of_ble_eq_true rfl), ix_2 (guard_t rfl (cell_set (by rw [List.length_map]; omega) rfl q))⟩
  · subst hi
    refine ⟨hp, _, rfl, rfl, Nat.le_refl _, guard_t rfl (c_w12b (d := d) ?_ w)⟩
    have := grps_len d (d.map (·.1))
    rw [List.length_map] at this
    omega
end

noncomputable def ks (d : List (Int × Int)) : List Int := (d.filter fun p => decide (p.1 < 65535)).map (·.1)
noncomputable def runN (p : Int × Int) : Nat := (p.2 + 1 - p.1).toNat
noncomputable abbrev S3 := List UInt8 × List UInt8 × List UInt8
noncomputable def st4 (d : List (Int × Int)) (m : Nat) (p : Int × Int) (s : S3) (i : Nat) : S3 :=
  if i + 1 = m then (s.1 ++ be16 1, s.2.1 ++ be16 0, s.2.2)
  else if evenRun d p.1 (runN p) = true then (s.1 ++ be16 (gl d p.1 - p.1), s.2.1 ++ be16 0, s.2.2)
  else (s.1 ++ be16 0, s.2.1 ++ be16 (2 * ((m : Int) - i) + s.2.2.length), s.2.2 ++ (List.range (runN p)).flatMap fun (j : Nat) => be16 (gl d (p.1 + j)))
noncomputable def fl4 (d R : List (Int × Int)) (l : List Nat) : S3 := l.foldl (fun s i => st4 d R.length (R.getD i (0, 0)) s i) ([], [], [])
theorem fl4_snoc (d R : List (Int × Int)) (l : List Nat) (i : Nat) : fl4 d R (l ++ [i]) = st4 d R.length (R.getD i (0, 0)) (fl4 d R l) i := by unfold fl4; rw [List.foldl_append]; rfl
noncomputable def pw (m : Nat) : Nat := 2 ^ m.log2
noncomputable def body4 (R : List (Int × Int)) (s : S3) : List UInt8 := be16 (2 * (R.length : Int)) ++ be16 (2 * (pw R.length : Nat)) ++ be16 ((pw R.length).log2 : Nat) ++ be16 (2 * ((R.length : Int) - (pw R.length : Nat))) ++ R.flatMap (fun p => be16 p.2) ++ be16 0 ++ R.flatMap (fun p => be16 p.1) ++ s.1 ++ s.2.1 ++ s.2.2
noncomputable def w4s (R : List (Int × Int)) (s : S3) : List UInt8 := be16 4 ++ be16 (6 + (body4 R s).length) ++ be16 0 ++ body4 R s
noncomputable def w4 (d R : List (Int × Int)) : List UInt8 := w4s R (fl4 d R (List.range R.length))
noncomputable def Len4 (s : S3) (n : Nat) : Prop := s.1.length = 2 * n ∧ s.2.1.length = 2 * n ∧ s.2.2.length ≤ 200 * n
theorem st4_len {d : List (Int × Int)} {m : Nat} {p : Int × Int} {s : S3} {i n : Nat} (h : runN p ≤ 100) (l : Len4 s n) : Len4 (st4 d m p s i) (n + 1) := by
  have e := @fm16_len _ (List.range (runN p)) (fun (j : Nat) => gl d (p.1 + j))
  rw [List.length_range] at e
  obtain ⟨l1, l2, l3⟩ := l
  have a : ∀ {l : List UInt8} {x : Int}, l.length = 2 * n → (l ++ be16 x).length = 2 * (n + 1) := fun h => by rw [List.length_append, h]; rfl
  unfold st4
  split
  · exact ⟨a l1, a l2, Nat.le_trans l3 (by omega)⟩
  · split
    · exact ⟨a l1, a l2, Nat.le_trans l3 (by omega)⟩
    · refine ⟨a l1, a l2, ?_⟩
      rw [List.length_append, e]; omega
theorem fl4_len {d R : List (Int × Int)} (h : ∀ i, runN (R.getD i (0, 0)) ≤ 100) (l : List Nat) : Len4 (fl4 d R l) l.length := by
  have key : ∀ (l : List Nat) (s : S3) (n : Nat), Len4 s n → Len4 (l.foldl (fun s i => st4 d R.length (R.getD i (0, 0)) s i) s) (n + l.length) := by
    intro l
    induction l with
    | nil => intro s n h; exact h
    | cons a l ih =>
      intro s n hs
      rw [List.foldl_cons, List.length_cons, Nat.add_comm l.length 1, ← Nat.add_assoc]
      exact ih _ _ (st4_len (h a) hs)
  have := key l ([], [], []) 0 ⟨rfl, rfl, Nat.zero_le _⟩
  rwa [Nat.zero_add] at this
section
variable {hp : List V} {k : Prop} {A B : Prop} {X : Prop} {K : V → List V → Prop}
theorem e_join {R : List (Int × Int)} {g : Int × Int → Int} {W : V × V → WP} (hl : R.length ≤ 1000) (h : ∀ p : Int × Int, ∀ {K' : V → List V → Prop}, K' (.bytes (be16 (g p))) hp → W (.int p.1, .int p.2) hp K' X) (w : K (.bytes (R.flatMap fun p => be16 (g p))) hp) : eJoin (eV (.bytes [])) (aCons (eComp (eV (.list (R.map runV))) sp2 (fun _ => tT) W) aNil) hp K X := by
  dsimp only [eV, aNil, aCons, eJoin, wB_bytes, w1_one]
  refine guard_t rfl (comp_def ⟨by rw [List.length_map]; omega, comp_map (fun p => (V.int p.1, V.int p.2)) (fun p : Int × Int => .bytes (be16 (g p))) (fun _ _ w => w) (fun p hp K' q => h p q) (fun _ => rfl) ?_⟩)
  dsimp only [lk_list]
  refine ⟨R.map fun p => be16 (g p), by rw [List.map_map]; rfl, ?_⟩
  rw [← List.flatMap_def, fm16_len, List.length_map]
  exact ⟨⟨by omega, hl⟩, w⟩
theorem s_join {α : Type} {R : List (Int × Int)} (g : Int × Int → Int) {W : V × V → WP} {Rr : V → WS α} {Kn Kr} (hl : R.length ≤ 1000) (h : ∀ p : Int × Int, ∀ {K' : V → List V → Prop}, K' (.bytes (be16 (g p))) hp → W (.int p.1, .int p.2) hp K' X) (w : Rr (.bytes (R.flatMap fun p => be16 (g p))) hp Kn Kr X) : sSeq (sSet (eJoin (eV (.bytes [])) (aCons (eComp (eV (.list (R.map runV))) sp2 (fun _ => tT) W) aNil))) Rr hp Kn Kr X := e_join (K := fun v hp1 => Rr v hp1 Kn Kr X) hl h w
theorem le_add {a b : List UInt8} {n m : Nat} (ha : a.length ≤ n) (hb : b.length ≤ m) (h : n + m ≤ 1000000) : a.length + b.length ≤ 1000000 := Nat.le_trans (Nat.add_le_add ha hb) h
theorem len_app {a b : List UInt8} {n m : Nat} (ha : a.length ≤ n) (hb : b.length ≤ m) : (a ++ b).length ≤ n + m := by rw [List.length_append]; exact Nat.add_le_add ha hb
theorem w4_tail {R : List (Int × Int)} {s : S3} {low : Nat} {cv : V} {Kn : Unit → List V → Prop} (hm0 : R.length ≠ 0) (hm : R.length ≤ 21) (hs : Len4 s R.length) (w : K (.bytes (w4s R s)) hp) : w_write_format_4_13 low (.bytes s.1) (.bytes s.2.1) (.bytes s.2.2) (.int R.length) (.list (R.map runV)) cv hp Kn (fun v hp2 => Rt false hp.length v hp2 K) X := by
  have f1 := @fm16_len _ R (fun p => p.1)
  have f2 := @fm16_len _ R (fun p => p.2)
  have pl : pw R.length ≤ R.length := Nat.log2_self_le hm0
  have lgl : R.length.log2 < 6 := (Nat.log2_lt hm0).mpr (by have : 2 ^ 6 = 64 := rfl; omega)
  obtain ⟨l1, l2, l3⟩ := hs
  refine s_join (fun p => p.2) (by omega) (fun p K' q => c_put16 _ _ _ _ q) ?_
  refine s_join (fun p => p.1) (by omega) (fun p K' q => c_put16 _ _ _ _ q) ?_
  dsimp only [eV, sSeq, sSet, w_write_format_4_15, w_write_format_4_16]
  refine ⟨fun n a hp2 => ∃ j : Nat, j ≤ R.length.log2 ∧ n = R.length.log2 - j ∧ hp2 = hp ∧ a = .int (2 ^ j : Nat), ⟨_, 0, Nat.zero_le _, rfl, rfl, rfl⟩, fun n a hp2 hi => ?_⟩
  obtain ⟨j, a1, rfl, rfl, rfl⟩ := hi
  have hj1 := @Nat.le_log2 R.length (j + 1) hm0
  rw [Nat.pow_succ] at hj1
  dsimp only [eV, eBin, tCmp, fMul, cLe, wI_int, lk_int]
  refine ⟨by decide, bd (fun c => ?_) fun c => ?_⟩
  · dsimp only [eV, eBin, fMul, sSeq, sEnd, sSet, wI_int, lk_int, w_write_format_4_17]
    have : j + 1 ≤ R.length.log2 := hj1.mpr (by omega)
    exact ⟨by decide, R.length.log2 - (j + 1), by omega, j + 1, this, rfl, rfl, by rw [Nat.pow_succ]; rfl⟩
  · have : j = R.length.log2 := by have := fun h => c (by have := hj1.mp h; omega); omega
    subst this
    dsimp only [eV, eBin, aNil, aCons, fAdd, fSub, fMul, fAddB, gLenB, eCallB, eCall, sSeq, sSet, sRet, wI_int, wB_bytes, w1_one, lk_int, lk_bytes, w_write_format_4_18, w_write_format_4_19]
    rw [show 2 ^ R.length.log2 = pw R.length from rfl]
    have hE : (R.flatMap fun p => be16 p.2).length ≤ 42 := by rw [f2]; omega
    have hS : (R.flatMap fun p => be16 p.1).length ≤ 42 := by rw [f1]; omega
    have h1 : s.1.length ≤ 42 := by omega
    have h2 : s.2.1.length ≤ 42 := by omega
    have h3 : s.2.2.length ≤ 4200 := by omega
    have b1 : ∀ {x y z w : Int}, (be16 x ++ be16 y ++ be16 z ++ be16 w).length ≤ 8 := (Nat.le_of_ble_eq_true rfl)
    have b0 : ∀ {x : Int}, (be16 x).length ≤ 2 := (Nat.le_of_ble_eq_true rfl)
    have b2 : ∀ {x y z w : Int}, (be16 x ++ be16 y ++ be16 z ++ be16 w ++ R.flatMap fun p => be16 p.2).length ≤ 50 := len_app b1 hE
    have b3 : ∀ {x y z w v : Int}, (be16 x ++ be16 y ++ be16 z ++ be16 w ++ (R.flatMap fun p => be16 p.2) ++ be16 v).length ≤ 52 := len_app b2 b0
    have b4 : ∀ {x y z w v : Int}, (be16 x ++ be16 y ++ be16 z ++ be16 w ++ (R.flatMap fun p => be16 p.2) ++ be16 v ++ R.flatMap fun p => be16 p.1).length ≤ 94 := len_app b3 hS
    have b5 : (body4 R s).length ≤ 4378 := len_app (len_app (len_app b4 h1) h2) h3
    refine ⟨big1 (by omega), c_put16 _ _ _ _ ⟨big1 (by omega), c_put16 _ _ _ _ ⟨(Nat.le_of_ble_eq_true rfl), c_exp (by omega) _ _ _ (c_put16 _ _ _ _ ⟨(Nat.le_of_ble_eq_true rfl), big1 (by omega), c_put16 _ _ _ _ ⟨(Nat.le_of_ble_eq_true rfl), le_add b1 hE (Nat.le_of_ble_eq_true rfl), c_put16 _ _ _ _ ⟨le_add b2 b0 (Nat.le_of_ble_eq_true rfl), le_add b3 hS (Nat.le_of_ble_eq_true rfl), le_add b4 h1 (Nat.le_of_ble_eq_true rfl), le_add (len_app b4 h1) h2 (Nat.le_of_ble_eq_true rfl), le_add (len_app (len_app b4 h1) h2) h3 (Nat.le_of_ble_eq_true rfl), c_put16 _ _ _ _ ⟨Nat.le_trans b5 (Nat.le_of_ble_eq_true rfl), c_put16 _ _ _ _ ⟨(Nat.le_of_ble_eq_true rfl), c_put16 _ _ _ _ ⟨(Nat.le_of_ble_eq_true rfl), le_add (n := 6) (Nat.le_of_ble_eq_true rfl) b5 (Nat.le_of_ble_eq_true rfl), rt rfl w⟩⟩⟩⟩⟩⟩)⟩⟩⟩
end

section
variable {hp : List V} {k : Prop} {A B : Prop} {X : Prop} {K : V → List V → Prop}
noncomputable def v3 (s : S3) : V × V × V := (.bytes s.1, .bytes s.2.1, .bytes s.2.2)
theorem wItems_dict {l k} : wItems (.dict l) k = (l.length ≤ 1000000 ∧ k (l.map fun p => V.int p.1)) := rfl
theorem w4_step {d : List (Int × Int)} {m i low : Nat} {p : Int × Int} {s : S3} {rv : V} {Kn : V × V × V → List V → Prop} {Kr} (hm : m ≤ 21) (hi : i < m) (hs : Len4 s i) (h : i + 1 ≠ m → 0 ≤ p.1 ∧ p.1 ≤ p.2 ∧ p.2 < 65535 ∧ p.2 - p.1 < 60 ∧ ∀ c, p.1 ≤ c → c ≤ p.2 → dget d c = some (gl d c)) (w : Kn (v3 (st4 d m p s i)) hp) : w_write_format_4_6 low (.int p.1) (.int p.2) (.int i) (.bytes s.1) (.bytes s.2.1) (.bytes s.2.2) (.int m) rv (.dict d) hp Kn Kr X := by
  obtain ⟨l1, l2, l3⟩ := hs
  have b0 : ∀ {x : Int}, (be16 x).length ≤ 2 := (Nat.le_of_ble_eq_true rfl)
  have h1 : s.1.length ≤ 42 := by omega
  have h2 : s.2.1.length ≤ 42 := by omega
  have h3 : s.2.2.length ≤ 4200 := by omega
  dsimp only [eV, eBin, tCmp, fSub, cEq, sIf, wI_int, lk_int, w_write_format_4_6]
  refine be (fun e => ?_) fun ne => ?_
  · dsimp only [eV, eBin, aNil, aCons, fAddB, eCall, sSeq, sEnd, sTup2, wB_bytes, lk_bytes, w_write_format_4_7]
    have q : st4 d m p s i = (s.1 ++ be16 1, s.2.1 ++ be16 0, s.2.2) := if_pos (by omega)
    rw [q] at w
    exact c_put16 _ _ _ _ ⟨le_add h1 b0 (Nat.le_of_ble_eq_true rfl), c_put16 _ _ _ _ ⟨le_add h2 b0 (Nat.le_of_ble_eq_true rfl), w⟩⟩
  · have ne' : i + 1 ≠ m := by omega
    obtain ⟨a1, a2, a3, a4, a5⟩ := h ne'
    have hn : ((runN p : Nat) : Int) = p.2 + 1 - p.1 := by unfold runN; omega
    have dj : ∀ j : Nat, j < runN p → dget d (p.1 + j) = some (gl d (p.1 + j)) := fun j hj => a5 _ (by omega) (by omega)
    dsimp only [eV, tE, aNil, aCons, eCall, sIf, w_write_format_4_8]
    refine c_even (n := runN p) (by omega) a1 (by omega) dj (by omega) _ _ _ ?_
    dsimp only [wBo_bool]
    refine ⟨fun ev => ?_, fun ev => ?_⟩
    · have q : st4 d m p s i = (s.1 ++ be16 (gl d p.1 - p.1), s.2.1 ++ be16 0, s.2.2) := (if_neg ne').trans (if_pos ev)
      rw [q] at w
      dsimp only [eV, eBin, aNil, aCons, fSub, fAddB, iD, eItem, eCall, sSeq, sEnd, sTup2, wI_int, wB_bytes, wD_dict, lk_int, lk_bytes, lk_dict, w_write_format_4_9]
      exact ⟨_, a5 p.1 (Int.le_refl _) a2, c_put16 _ _ _ _ ⟨le_add h1 b0 (Nat.le_of_ble_eq_true rfl), c_put16 _ _ _ _ ⟨le_add h2 b0 (Nat.le_of_ble_eq_true rfl), w⟩⟩⟩
    · have q : st4 d m p s i = (s.1 ++ be16 0, s.2.1 ++ be16 (2 * ((m : Int) - i) + s.2.2.length), s.2.2 ++ (List.range (runN p)).flatMap fun (j : Nat) => be16 (gl d (p.1 + j))) := (if_neg ne').trans (if_neg (by rw [ev]; decide))
      rw [q] at w
      dsimp only [eV, eBin, aNil, aCons, fAdd, fSub, fMul, fAddB, gLenB, eCallB, eCall, sSeq, sTup2, wI_int, wB_bytes, w1_one, lk_int, lk_bytes, w_write_format_4_10]
      refine c_put16 _ _ _ _ ⟨le_add h1 b0 (Nat.le_of_ble_eq_true rfl), big1 (by omega), Nat.le_trans h3 (Nat.le_of_ble_eq_true rfl), c_put16 _ _ _ _ ⟨le_add h2 b0 (Nat.le_of_ble_eq_true rfl), ?_⟩⟩
      dsimp only [sSeq, sEnd, w_write_format_4_11]
      refine for_def (it_rng (n := runN p) (by omega) (by omega) (by omega) (by omega) (for_map (fun (j : Nat) => V.int (p.1 + j)) (fun pre a hp' => hp' = hp ∧ a = .bytes (s.2.2 ++ pre.flatMap fun (j : Nat) => be16 (gl d (p.1 + j)))) (fun _ _ w => w) ⟨rfl, by rw [List.flatMap_nil, List.append_nil]⟩ (fun pre j post a hp2 Kn' e hi q => ?_) fun a hp2 hi => ?_))
      · obtain ⟨rfl, rfl⟩ := hi
        have hj := range_pre e
        have e4 := @fm16_len _ pre (fun (j : Nat) => gl d (p.1 + j))
        dsimp only [eV, eBin, aNil, aCons, fAddB, iD, eItem, eCall, sSeq, sEnd, sSet, wI_int, wB_bytes, wD_dict, lk_bytes, lk_dict, w_write_format_4_12]
        refine ⟨_, dj j hj.1, c_put16 _ _ _ _ ⟨le_add (n := 4400) (m := 2) (by rw [List.length_append, e4]; omega) b0 (Nat.le_of_ble_eq_true rfl), q _ _ ⟨rfl, ?_⟩⟩⟩
        rw [List.flatMap_append, List.flatMap_singleton, List.append_assoc]
      · obtain ⟨rfl, rfl⟩ := hi
        exact w
theorem range_ix {n i : Nat} {ys zs : List Nat} (e : List.range n = ys ++ i :: zs) : i = ys.length := by
  have h := range_pre e
  have := congrArg (fun l : List Nat => l[ys.length]?) e
  rw [List.getElem?_range h.2, List.getElem?_append_right (Nat.le_refl _), Nat.sub_self] at this
  exact (Option.some.inj this).symm
theorem c_w4 {d R0 R : List (Int × Int)} (hR0 : runs (ks d) = R0) (hR : R = R0 ++ [(65535, 65535)]) (hs : rising (ks d) = true) (hd : d.length ≤ 63) (hr0 : R0.length ≤ 20) (h : ∀ p ∈ R0, 0 ≤ p.1 ∧ p.1 ≤ p.2 ∧ p.2 < 65535 ∧ p.2 - p.1 < 60 ∧ ∀ c, p.1 ≤ c → c ≤ p.2 → dget d c = some (gl d c)) : Ret cw_write_format_4 [.dict d] (.bytes (w4 d R)) := fun hp K X w => by
  have kl : (ks d).length ≤ 63 := by
    unfold ks; rw [List.length_map]; exact Nat.le_trans (List.length_filter_le ..) hd
  have rl : R.length = R0.length + 1 := by rw [hR, List.length_append]; rfl
  have g0 : ∀ i, i < R0.length → R.getD i (0, 0) ∈ R0 := fun i hi => by
    rw [hR, List.getD_eq_getElem?_getD, List.getElem?_append_left hi, List.getElem?_eq_getElem hi]; exact List.getElem_mem hi
  have hN : ∀ i, runN (R.getD i (0, 0)) ≤ 100 := fun i => by
    by_cases hi : i < R0.length
    · obtain ⟨h1, h2, h3, h4, -⟩ := h _ (g0 i hi)
      unfold runN; omega
    · by_cases hj : i = R0.length
      · rw [hj, hR, List.getD_eq_getElem?_getD, List.getElem?_concat_length]; exact (Nat.le_of_ble_eq_true rfl)
      · rw [List.getD_eq_getElem?_getD, List.getElem?_eq_none (by omega)]; exact (Nat.le_of_ble_eq_true rfl)
  have ek : ((d.filter fun p => decide (p.1 < 65535)).map fun p => V.int p.1) = (ks d).map V.int := by unfold ks; rw [List.map_map]; rfl
  have eR : R0.map runV ++ [V.tup [V.int 65535, V.int 65535]] = R.map runV := by rw [hR, List.map_append]; rfl
  have lR : (R.map runV).length = R.length := List.length_map _
  refine shut_of ?_
  dsimp only [eV, eBin, aNil, aCons, eList, eTup, fAddL, eCall, sSeq, sSet, wf1, wL_list, w1_one, lk_list, wd_write_format_4, w_write_format_4_1]
  refine comp_def ?_
  dsimp only [eV, wItems_dict]
  refine ⟨by omega, comp_if (fun p => V.int p.1) (fun p : Int × Int => decide (p.1 < 65535)) (fun p => V.int p.1) (fun _ _ w => w) (fun p hp K' q => q) (fun p hp K' q => q) (fun _ => rfl) ?_⟩
  rw [ek]
  refine c_runs hs kl _ _ _ (guard_t rfl (guard_t rfl ?_))
  rw [hR0]
  dsimp only [wL_list, lk_list]
  rw [eR]
  refine ⟨by rw [List.length_map]; show R0.length + 1 ≤ 1000000; omega, ?_⟩
  dsimp only [eV, aNil, aCons, gLenL, eCallB, sSeq, sSet, wL_list, w1_one, lk_list, w_write_format_4_2]
  rw [lR]
  refine ⟨by omega, ?_⟩
  dsimp only [eV, aNil, aCons, sSeq, sTup3, w_write_format_4_3, w_write_format_4_4]
  refine for_def (it_0 rfl (by omega) (for_map (fun (i : Nat) => V.int i) (fun pre a hp' => hp' = hp ∧ a = v3 (fl4 d R pre)) (fun _ _ w => w) ⟨rfl, rfl⟩ (fun pre i post a hp2 Kn' e hi q => ?_) fun a hp2 hi => ?_))
  · obtain ⟨rfl, rfl⟩ := hi
    have hi := (range_pre e).1
    have q := q _ _ ⟨rfl, rfl⟩
    rw [fl4_snoc] at q
    have hl := fl4_len (d := d) hN pre
    rw [← range_ix e] at hl
    generalize fl4 d R pre = s at *
    dsimp only [eV, iL, eItem, sSeq, sUn, sp2, wI_int, wL_list, lk_list, w_write_format_4_5]
    refine ⟨by omega, ix_at rfl (by rw [lR]; exact hi) (v := runV (R.getD i (0, 0))) (by rw [List.getD_eq_getElem?_getD, List.getD_eq_getElem?_getD, List.getElem?_map, List.getElem?_eq_getElem hi]; rfl) ?_⟩
    exact w4_step (by omega) hi hl (fun ne => h _ (g0 i (by omega))) q
  · obtain ⟨rfl, rfl⟩ := hi
    have hl := fl4_len (d := d) hN (List.range R.length)
    rw [List.length_range] at hl
    exact w4_tail (by omega) (by omega) hl w
end

noncomputable def hdrs : List (Int × Int × List UInt8) → Int → List UInt8
  | [], _ => []
  | x :: r, off => be16 x.1 ++ be16 x.2.1 ++ be32 off ++ hdrs r (off + x.2.2.length)
noncomputable def maps (L : List (Int × Int × List UInt8)) : List UInt8 := L.flatMap fun x => x.2.2
theorem maps_snoc (x : Int × Int × List UInt8) (L) : maps (L ++ [x]) = maps L ++ x.2.2 := by unfold maps; rw [List.flatMap_append, List.flatMap_singleton]
theorem hdrs_snoc (x : Int × Int × List UInt8) : ∀ (L : List (Int × Int × List UInt8)) (off : Int), hdrs (L ++ [x]) off = hdrs L off ++ be16 x.1 ++ be16 x.2.1 ++ be32 (off + (maps L).length)
  | [], off => by
    show hdrs [x] off = [] ++ be16 x.1 ++ be16 x.2.1 ++ be32 (off + ((0 : Nat) : Int))
    rw [hdrs, hdrs, List.append_nil, List.nil_append]
    congr 2; exact (Int.add_zero off).symm
  | y :: r, off => by
    have e : (maps (y :: r)).length = y.2.2.length + (maps r).length := by unfold maps; rw [List.flatMap_cons, List.length_append]
    rw [List.cons_append, hdrs, hdrs_snoc x r, hdrs, e, Int.natCast_add, Int.add_assoc]
    simp only [List.append_assoc]
theorem hdrs_len : ∀ (L : List (Int × Int × List UInt8)) (off : Int), (hdrs L off).length = 8 * L.length
  | [], _ => rfl
  | x :: r, off => by
    rw [hdrs, List.length_append, hdrs_len r, List.length_cons]
    show 8 + 8 * r.length = _
    omega
noncomputable def wcm (L : List (Int × Int × List UInt8)) : List UInt8 := be16 0 ++ be16 L.length ++ hdrs L (4 + 8 * (L.length : Int)) ++ maps L
section
variable {hp : List V} {k : Prop} {A B : Prop} {X : Prop} {K : V → List V → Prop}
theorem wm_0 {d : List (Int × Int)} {w : List UInt8} (h : Ret cw_write_format_0 [.dict d] (.bytes w)) : Ret cw_write_map [.int 0, .dict d] (.bytes w) := fun hp K X q => by
  refine shut_of ?_
  dsimp only [eV, tCmp, aNil, aCons, cEq, eCall, sSeq, sEnd, sRet, sIf, wf2, wI_int, w2_two, lk_int, wd_write_map, w_write_map_1]
  exact br_t rfl (h _ _ _ (rt rfl q))
theorem wm_4 {d : List (Int × Int)} {w : List UInt8} (h : Ret cw_write_format_4 [.dict d] (.bytes w)) : Ret cw_write_map [.int 4, .dict d] (.bytes w) := fun hp K X q => by
  refine shut_of ?_
  dsimp only [eV, tCmp, aNil, aCons, cEq, eCall, sSeq, sEnd, sRet, sIf, wf2, wI_int, w2_two, lk_int, wd_write_map, w_write_map_1, w_write_map_2]
  exact br_f rfl (br_t rfl (h _ _ _ (rt rfl q)))
theorem wm_6 {d : List (Int × Int)} {w : List UInt8} (h : Ret cw_write_format_6 [.dict d] (.bytes w)) : Ret cw_write_map [.int 6, .dict d] (.bytes w) := fun hp K X q => by
  refine shut_of ?_
  dsimp only [eV, tCmp, aNil, aCons, cEq, eCall, sSeq, sEnd, sRet, sIf, wf2, wI_int, w2_two, lk_int, wd_write_map, w_write_map_1, w_write_map_2, w_write_map_3]
  exact br_f rfl (br_f rfl (br_t rfl (h _ _ _ (rt rfl q))))
theorem wm_12 {d : List (Int × Int)} {w : List UInt8} (h : Ret cw_write_format_12 [.dict d] (.bytes w)) : Ret cw_write_map [.int 12, .dict d] (.bytes w) := fun hp K X q => by
  refine shut_of ?_
  dsimp only [eV, eBin, tCmp, aNil, aCons, fAddS, cEq, gStr, eCallB, eCall, sSeq, sEnd, sRet, sIf, sRaise, wf2, wI_int, wS_str, w1_one, w2_two, lk_int, wd_write_map, w_write_map_1, w_write_map_2, w_write_map_3, w_write_map_4]
  exact br_f rfl (br_f rfl (br_f rfl (br_t rfl (h _ _ _ (rt rfl q)))))
theorem c_wcmap {rs L : List (Int × Int × List UInt8)} (h1 : apart rs = true) (h2 : 2 ≤ rs.length) (h3 : rs.length ≤ 3) (hL : rowSort rs = L) (hl : L.length = rs.length) (hm : (maps L).length ≤ 100000) : Ret cw_write_cmap [.list (rs.map rowV)] (.bytes (wcm L)) := fun hp K X w => by
  have lr : (rs.map rowV).length = L.length := by rw [List.length_map, hl]
  refine shut_of ?_
  dsimp only [eV, eBin, aNil, aCons, fAdd, fMul, fAddB, gLenL, eCallB, eCall, sSeq, sSet, sRet, wf1, wI_int, wL_list, w1_one, lk_int, lk_list, wd_write_cmap, w_write_cmap_1, w_write_cmap_2, w_write_cmap_3, w_write_cmap_4]
  rw [lr]
  refine c_put16 _ _ _ _ ⟨by omega, c_put16 _ _ _ _ ⟨(Nat.le_of_ble_eq_true rfl), by omega, big1 (by omega), for_def ⟨rs, rfl, ⟨h1, h2, h3⟩, ?_⟩⟩⟩
  rw [hL]
  refine ⟨by rw [List.length_map]; omega, for_map (fun x : Int × Int × List UInt8 => (V.int x.1, V.int x.2.1, V.bytes x.2.2)) (fun pre a hp' => hp' = hp ∧ a = (.bytes (maps pre), .bytes (be16 0 ++ be16 L.length ++ hdrs pre (4 + 8 * (L.length : Int))))) (fun _ _ w => w) ⟨rfl, by rw [hdrs, List.append_nil]; rfl⟩ (fun pre x post a hp2 Kn' e hi q => ?_) fun a hp2 hi => ?_⟩
  · obtain ⟨rfl, rfl⟩ := hi
    have q := q _ _ ⟨rfl, rfl⟩
    rw [maps_snoc, hdrs_snoc, ← List.append_assoc, ← List.append_assoc, ← List.append_assoc] at q
    have e5 : pre.length ≤ 3 := by have := congrArg List.length e; rw [List.length_append] at this; omega
    have m2 : (maps pre).length + x.2.2.length ≤ 100000 := by
      have : maps L = maps pre ++ (x.2.2 ++ maps post) := by rw [e]; unfold maps; rw [List.flatMap_append, List.flatMap_cons]
      rw [this, List.length_append, List.length_append] at hm
      omega
    have l1 : (be16 0 ++ be16 L.length ++ hdrs pre (4 + 8 * (L.length : Int))).length ≤ 4 + 24 := len_app (Nat.le_of_ble_eq_true rfl) (by rw [hdrs_len]; omega)
    have b0 : ∀ {x : Int}, (be16 x).length ≤ 2 := (Nat.le_of_ble_eq_true rfl)
    dsimp only [eV, eBin, aNil, aCons, fAdd, fAddB, gLenB, eCallB, eCall, sSeq, sEnd, sSet, wI_int, wB_bytes, w1_one, lk_int, lk_bytes, w_write_cmap_5, w_write_cmap_6]
    exact c_put16 _ _ _ _ ⟨le_add l1 b0 (Nat.le_of_ble_eq_true rfl), c_put16 _ _ _ _ ⟨le_add (len_app l1 b0) b0 (Nat.le_of_ble_eq_true rfl), by omega, c_put32 _ _ _ _ ⟨le_add (m := 4) (len_app (len_app l1 b0) b0) (Nat.le_of_ble_eq_true rfl) (Nat.le_of_ble_eq_true rfl), Nat.le_trans m2 (Nat.le_of_ble_eq_true rfl), q⟩⟩⟩
  · obtain ⟨rfl, rfl⟩ := hi
    exact ⟨le_add (n := 4 + 8 * L.length) (len_app (Nat.le_of_ble_eq_true rfl) (Nat.le_of_eq (hdrs_len ..))) hm (by omega), rt rfl w⟩
end

section
variable {hp : List V} {k : Prop} {A B : Prop} {X : Prop} {K : V → List V → Prop}
noncomputable def src (a b : Int) (t : List V) : List V := .list [.int a, .int b] :: t
theorem rt_same {hp2 : List V} {v : V} {n : Nat} (hl : hp2.length = n) (h : isPlainV v = true) (w : K v hp2) : Rt false n v hp2 K := by
  subst hl; exact rt h w
theorem big_pos {c : Int} {b : Bool} : 0 ≤ max c (-1 - c) * (if b = true then 1 else 0) := Int.mul_nonneg (by omega) (by split <;> decide)
theorem pool_head {zs : List Int} {R : V → WS Unit} {Kn : Unit → List V → Prop} {Kr} (hz : zs.length ≤ 63) (key : ∀ c : Int, R (.int c) [] Kn Kr X) : sSeq (sSet (eIf (tCmp cLt (eV (.int 0)) (eCallB gLenL (aCons (eV (.list (zs.map V.int))) aNil))) (eItem iL (eV (.list (zs.map V.int))) (eV (.int 0))) (eV (.int 0)))) R [] Kn Kr X := by
  dsimp only [eV, tCmp, eIf, aNil, aCons, cLt, iL, eItem, gLenL, eCallB, sSeq, sSet, wI_int, wL_list, w1_one, lk_int, lk_list]
  refine ⟨by rw [List.length_map]; omega, bd (fun h => ⟨by rw [List.length_map]; omega, ?_⟩) fun _ => key 0⟩
  cases zs with
  | nil => exact absurd h (by decide)
  | cons c r => exact ix_0 (key c)
theorem pool_rest {c : Int} {sv : V} (w : ∀ a b : Int, 0 ≤ a → 0 ≤ b → K (.ref 0) (src a b [])) : w_law_pool_2 0 (.int c) sv (.int 0) [] (fun _ hp2 => Rt true 0 .none hp2 K) (fun v hp2 => Rt true 0 v hp2 K) X := by
  dsimp only [eV, List.nil_append, eBin, tCmp, eB, aNil, aCons, eNeg, fAdd, fSub, fMul, fMod, fPow, cGe, gMax, gInt, gIntB, eCallB, sSeq, sSet, sRet, eNewL, wI_int, wBo_bool, w1_one, w2_two, lk_int, lk_bool, w_law_pool_2]
  exact ⟨⟨by decide, by decide, by decide⟩, by split <;> decide, by decide, by decide, by decide, by decide, guard_t rfl (w _ _ big_pos (Int.emod_nonneg _ (by decide)))⟩
theorem c_pool {zs : List Int} (hz : zs.length ≤ 63) (w : ∀ a b : Int, 0 ≤ a → 0 ≤ b → K (.ref 0) (src a b [])) : cw_law_pool [.list (zs.map V.int), .int 0] [] K X := shut_of (wf2_run (pool_head hz fun _ => pool_rest w))
theorem c_take {a b top : Int} {t : List V} (ha : 0 ≤ a) (hb : 0 ≤ b) (ht : 0 < top) (ht2 : top ≤ 1000) (w : ∀ r a b : Int, 0 ≤ r → r < top → 0 ≤ a → 0 ≤ b → K (.int r) (src a b t)) : cw_law_take [.ref 0, .int top] (src a b t) K X := by
  have m0 := Int.emod_nonneg a (b := top) (by omega)
  have m1 := Int.emod_lt_of_pos a ht
  refine shut_of ?_
  dsimp only [eV, lk_0, tCmp, cGt, iL, eItem, sSeq, sEnd, sIf, wf2, wI_int, wL_list, w2_two, lk_int, wd_law_take, w_law_take_1, src]
  refine ⟨(Nat.le_of_ble_eq_true rfl), ix_0 (bd (fun c => ?_) fun c => ?_)⟩
  · dsimp only [eV, lk_0, eBin, fDiv, fMod, iL, eItem, sSeq, sSet, sRet, sItemL, wI_int, wL_list, lk_int, w_law_take_2, w_law_take_3]
    refine ⟨(Nat.le_of_ble_eq_true rfl), ix_0 ⟨ht, (Nat.le_of_ble_eq_true rfl), ix_0 ⟨⟨ht, by omega⟩, [], _, t, rfl, rfl, guard_t rfl ⟨(Nat.le_of_ble_eq_true rfl), 0, rfl, rt_same rfl rfl (w _ _ _ m0 m1 (Int.ediv_nonneg ha (by omega)) hb)⟩⟩⟩⟩
  · dsimp only [eV, lk_0, eBin, fAdd, fMul, fDiv, fMod, iL, eItem, sSeq, sRet, sItemL, wI_int, wL_list, lk_int, w_law_take_4]
    have n0 := Int.emod_nonneg (b * 39373 + 7) (b := 2147483647) (by decide)
    have n1 := Int.emod_lt_of_pos (b * 39373 + 7) (b := 2147483647) (by decide)
    refine ⟨(Nat.le_of_ble_eq_true rfl), ix_1 ⟨by decide, by decide, [], _, t, rfl, rfl, guard_t rfl ⟨(Nat.le_of_ble_eq_true rfl), 1, rfl, ?_⟩⟩⟩
    dsimp only [lk_0, List.nil_append, wL_list]
    generalize (b * 39373 + 7) % 2147483647 = b1 at *
    refine ⟨(Nat.le_of_ble_eq_true rfl), ix_1 ⟨(Nat.le_of_ble_eq_true rfl), ix_1 ⟨⟨by omega, by omega⟩, by decide, ⟨by decide, by decide⟩, ht, rt_same rfl rfl (w _ _ _ (Int.emod_nonneg _ (by omega)) (Int.emod_lt_of_pos _ ht) ha n0)⟩⟩⟩
theorem c_one {a b : Int} {L t : List V} (ha : 0 ≤ a) (hb : 0 ≤ b) (h0 : 0 < L.length) (h1 : L.length ≤ 10) (hp : ∀ v ∈ L, isPlainV v = true) (w : ∀ v ∈ L, ∀ a b : Int, 0 ≤ a → 0 ≤ b → K v (src a b t)) : cw_law_one [.ref 0, .list L] (src a b t) K X := by
  refine shut_of ?_
  dsimp only [eV, aNil, aCons, iL, eItem, gLenL, eCallB, eCall, sRet, wf2, wL_list, w1_one, w2_two, lk_list, wd_law_one]
  refine ⟨by omega, c_take ha hb (by omega) (by omega) fun r a1 b1 r0 r1 a0 b0 => ?_⟩
  dsimp only [wI_int]
  have hr : r.toNat < L.length := by omega
  have e : L.getD r.toNat .none = L[r.toNat] := by rw [List.getD_eq_getElem?_getD, List.getElem?_eq_getElem hr]; rfl
  have m : L[r.toNat] ∈ L := List.getElem_mem hr
  exact ⟨by omega, ix_at (i := r.toNat) (by omega) hr e (rt_same rfl (hp _ m) (w _ m _ _ a0 b0))⟩
theorem c_oneI {a b : Int} {L : List Int} {t : List V} (ha : 0 ≤ a) (hb : 0 ≤ b) (h0 : 0 < L.length) (h1 : L.length ≤ 10) (w : ∀ v ∈ L, ∀ a b : Int, 0 ≤ a → 0 ≤ b → K (.int v) (src a b t)) : cw_law_one [.ref 0, .list (L.map V.int)] (src a b t) K X := by
  refine c_one ha hb (by rw [List.length_map]; exact h0) (by rw [List.length_map]; exact h1) (fun v hv => ?_) fun v hv => ?_
  · obtain ⟨i, -, rfl⟩ := List.mem_map.mp hv; rfl
  · obtain ⟨i, hi, rfl⟩ := List.mem_map.mp hv; exact w i hi
theorem rising_snoc : ∀ (l : List Int) (c : Int), rising l = true → (∀ x ∈ l, x < c) → rising (l ++ [c]) = true
  | [], _, _, _ => rfl
  | [a], c, _, h => by
    show (decide (a < c) && true) = true
    rw [decide_eq_true (h a (List.mem_singleton.mpr rfl))]; rfl
  | a :: b :: r, c, h1, h2 => by
    have h1 : (decide (a < b) && rising (b :: r)) = true := h1
    rw [Bool.and_eq_true] at h1
    show (decide (a < b) && rising ((b :: r) ++ [c])) = true
    rw [h1.1, rising_snoc (b :: r) c h1.2 fun x hx => h2 x (List.mem_cons_of_mem _ hx)]; rfl
theorem dput_new {d : List (Int × Int)} {c v : Int} (h : ∀ p ∈ d, p.1 < c) : dput d c v = d ++ [(c, v)] := by
  unfold dput
  refine if_neg fun q => ?_
  obtain ⟨p, hp, e⟩ := List.any_eq_true.mp q
  have := h p hp
  rw [of_decide_eq_true e] at this
  exact Int.lt_irrefl _ this
/-- what `_law_codes` gives -/
structure Good (d : List (Int × Int)) : Prop where
  ris : rising (d.map (·.1)) = true
  len : d.length ≤ 6
  near : ∃ c0 : Int, 0 ≤ c0 ∧ c0 ≤ 65520 ∧ ∀ p ∈ d, c0 < p.1 ∧ p.1 ≤ c0 + 30 ∧ p.1 < 65535 ∧ 1 ≤ p.2 ∧ p.2 ≤ 200
theorem c_codes {a b : Int} (ha : 0 ≤ a) (hb : 0 ≤ b) (w : ∀ d, ∀ a b : Int, 0 ≤ a → 0 ≤ b → Good d → K (.dict d) (src a b [])) : cw_law_codes [.ref 0] (src a b []) K X := by
  refine shut_of ?_
  dsimp only [eV, aNil, aCons, eList, eCall, sSeq, sTup2, wf1, eNewD, w1_one, wd_law_codes, w_law_codes_1]
  refine guard_t rfl (c_oneI (L := [0, 30, 250, 65520]) (t := [V.dict []]) ha hb (Nat.le_of_ble_eq_true rfl) (Nat.le_of_ble_eq_true rfl) fun c0 m0 a b ha hb => ?_)
  have hc0 : 0 ≤ c0 ∧ c0 ≤ 65520 := by
    simp only [List.mem_cons, List.not_mem_nil, or_false] at m0; omega
  dsimp only [eV, sSeq, sRet, w_law_codes_2]
  refine for_def ?_
  dsimp only [eV, wItems_rng, aNil, aCons, gRange1, eCallB, eCall, w1_one]
  refine c_take ha hb (by decide) (by decide) fun n a b n0 n1 ha hb => ?_
  dsimp only [wI_int, lk_int]
  refine it_0 (n := n.toNat) (by omega) (by omega) (for_map (fun (i : Nat) => V.int i) (fun pre x hp' => ∃ a b code d, x = .int code ∧ 0 ≤ a ∧ 0 ≤ b ∧ hp' = src a b [.dict d] ∧ c0 ≤ code ∧ code ≤ c0 + 5 * (pre.length : Nat) ∧ (∀ p ∈ d, c0 < p.1 ∧ p.1 ≤ code ∧ p.1 < 65535 ∧ 1 ≤ p.2 ∧ p.2 ≤ 200) ∧ rising (d.map (·.1)) = true ∧ d.length ≤ pre.length) (fun _ _ w => w) ⟨a, b, c0, [], rfl, ha, hb, rfl, Int.le_refl _, by omega, fun _ h => (by cases h), rfl, Nat.le_refl _⟩ (fun pre i post x hp2 Kn' e hi q => ?_) fun x hp2 hi => ?_)
  · obtain ⟨a, b, code, d, rfl, ha, hb, rfl, k1, k2, k3, k4, k5⟩ := hi
    have hi := range_pre e
    have ll : (pre ++ [i]).length = pre.length + 1 := by rw [List.length_append]; rfl
    dsimp only [eV, eBin, aNil, aCons, eList, fAdd, eCall, sSeq, sSet, wI_int, lk_int, w_law_codes_3]
    refine guard_t rfl (c_oneI (L := [1, 1, 1, 2, 5]) ha hb (Nat.le_of_ble_eq_true rfl) (Nat.le_of_ble_eq_true rfl) fun s ms a b ha hb => ?_)
    have hs : 1 ≤ s ∧ s ≤ 5 := by simp only [List.mem_cons, List.not_mem_nil, or_false] at ms; omega
    dsimp only [eV, tCmp, cLt, sEnd, sIf, wI_int, lk_int, w_law_codes_4]
    refine bd (fun c => ?_) fun c => q _ _ ⟨a, b, _, d, rfl, ha, hb, rfl, by omega, by omega, fun p hp => by have := k3 p hp; omega, k4, by omega⟩
    dsimp only [eV, eBin, aNil, aCons, eList, fAdd, fMod, eCall, sSeq, sEnd, sItemD, wI_int, lk_int, w_law_codes_5]
    refine guard_t rfl (c_oneI (L := [0, 0, 3]) ha hb (Nat.le_of_ble_eq_true rfl) (Nat.le_of_ble_eq_true rfl) fun g mg a b ha hb => ?_)
    dsimp only [wI_int, lk_int]
    have hg : 1 ≤ 1 + (code + s + g) % 200 ∧ 1 + (code + s + g) % 200 ≤ 200 := by omega
    refine ⟨by decide, [.list [.int a, .int b]], _, [], rfl, rfl, by omega, q _ _ ⟨a, b, _, _, rfl, ha, hb, rfl, by omega, by omega, ?_, ?_, ?_⟩⟩
    all_goals rw [dput_new (fun p hp => by have := k3 p hp; omega)]
    · intro p hp
      rcases List.mem_append.mp hp with hp | hp
      · have := k3 p hp; omega
      · rw [List.mem_singleton.mp hp]; exact ⟨by omega, Int.le_refl _, c, hg⟩
    · rw [List.map_append]
      refine rising_snoc _ _ k4 fun x hx => ?_
      obtain ⟨p, hp, rfl⟩ := List.mem_map.mp hx
      have := k3 p hp
      show p.1 < code + s
      omega
    · rw [List.length_append, ll]; exact Nat.succ_le_succ k5
  · obtain ⟨a, b, code, d, rfl, ha, hb, rfl, k1, k2, k3, k4, k5⟩ := hi
    rw [List.length_range] at k2 k5
    exact rt_cell (hp := [.list [.int a, .int b]]) (w d a b ha hb ⟨k4, by omega, c0, hc0.1, hc0.2, fun p hp => by have := k3 p hp; omega⟩)
end

noncomputable def beside (d : List (Int × Int)) : List Int := ([0, 31, 65535] ++ d.flatMap fun (p : Int × Int) => [p.1, p.1 + 1, max 0 (p.1 - 1)])
theorem fm3_len {d : List (Int × Int)} : (d.flatMap fun (p : Int × Int) => [p.1, p.1 + 1, max 0 (p.1 - 1)]).length = 3 * d.length := by
  induction d with
  | nil => rfl
  | cons a l ih => rw [List.flatMap_cons, List.length_append, ih]; show 3 + 3 * l.length = 3 * (l.length + 1); omega
section
variable {hp : List V} {k : Prop} {A B : Prop} {X : Prop} {K : V → List V → Prop}
theorem c_beside {d : List (Int × Int)} (hd : d.length ≤ 63) : Ret cw_law_beside [.dict d] (.list ((beside d).map V.int)) := fun hp K X w => by
  refine shut_of ?_
  dsimp only [eV, aNil, aCons, eList, sSeq, sSet, wf1, w1_one, wd_law_beside, w_law_beside_1]
  refine guard_t rfl ?_
  dsimp only [eV, sSeq, sRet, w_law_beside_2]
  refine for_def ⟨by omega, for_map (fun p => V.int p.1) (fun pre x hp' => hp' = hp ∧ x = .list (([0, 31, 65535] ++ pre.flatMap fun (p : Int × Int) => [p.1, p.1 + 1, max 0 (p.1 - 1)]).map V.int)) (fun _ _ w => w) ⟨rfl, rfl⟩ (fun pre p post x hp2 Kn' e hi q => ?_) fun x hp2 hi => ?_⟩
  · obtain ⟨rfl, rfl⟩ := hi
    have e5 : pre.length ≤ 63 := by have := congrArg List.length e; rw [List.length_append] at this; omega
    dsimp only [eV, eBin, aNil, aCons, eList, fAdd, fSub, fAddL, gMax, eCallB, sSeq, sEnd, sSet, wI_int, wL_list, w2_two, lk_int, lk_list, w_law_beside_3]
    refine guard_t rfl ⟨?_, q _ _ ⟨rfl, ?_⟩⟩
    · rw [List.length_map, List.length_append, fm3_len]
      show 3 + 3 * pre.length + 3 ≤ 1000000
      omega
    · rw [List.flatMap_append, List.flatMap_singleton, ← List.append_assoc, List.map_append (l₁ := [0, 31, 65535] ++ _)]; rfl
  · obtain ⟨rfl, rfl⟩ := hi
    exact rt rfl w
/-- a thing that finds g -/
noncomputable def Tells (C : Str) (f : List (Str × V)) (g : Int → Int) : Prop := (isClsName C = true ∧ f.lookup ("find" : Str) = Option.none) ∧ ∀ c, 0 ≤ c → c ≤ 2000000 → Ret (cFind C) [.inst C f, .int c] (.int (g c))
theorem c_right {C : Str} {f : List (Str × V)} {g : Int → Int} {d : List (Int × Int)} {most : Int} (hT : Tells C f g) (hd : d.length ≤ 63) (h0 : ∀ c ∈ beside d, 0 ≤ c ∧ c ≤ 2000000) (h : ∀ c ∈ beside d, g c = if c ≤ most then gl d c else 0) (h7 : g 70000 = 0) : Ret cw_law_map_right [.inst C f, .dict d, .int most] (.bool true) := fun hp K X w => by
  have lb : (beside d).length ≤ 200 := by unfold beside; rw [List.length_append, fm3_len]; show 3 + 3 * d.length ≤ 200; omega
  refine shut_of ?_
  dsimp only [eV, tCmp, eB, aNil, aCons, cEq, eFind, sSeq, sRet, wf3, wI_int, wO_inst, lk_int, wd_law_map_right, w_law_map_right_1]
  refine for_def ?_
  dsimp only [eV, aNil, aCons, eCall]
  refine c_beside hd _ _ _ ⟨by rw [List.length_map]; omega, for_keep (fun c => V.int c) (fun _ _ w => w) (fun c hc Kn' q => ?_) ?_⟩
  · obtain ⟨c1, c2⟩ := h0 c hc
    have hg := h c hc
    dsimp only [eV, tCmp, eIf, aNil, aCons, cLe, cNe, eGet, eFind, sEnd, sRet, sIf, wI_int, wD_dict, wO_inst, w2_two, lk_int, w_law_map_right_2]
    refine ⟨hT.1, hT.2 c c1 c2 _ _ _ (bd (fun hm => ?_) fun hm => ?_)⟩
    · rw [if_pos hm] at hg
      exact bn (be_t hg q)
    · rw [if_neg hm] at hg
      exact bn (be_t hg q)
  · refine ⟨hT.1, hT.2 70000 (by decide) (by decide) _ _ _ ?_⟩
    dsimp only [wI_int, lk_int]
    rw [h7]
    exact rt rfl w
end

theorem u8_of {n : Int} (h0 : 0 ≤ n) (h1 : n < 256) : ((UInt8.ofNat n.toNat).toNat : Int) = n := by
  rw [UInt8.toNat_ofNat']; omega
theorem rd16_at {b A B : List UInt8} {n p : Int} (h : b = A ++ (be16 n ++ B)) (hp : p = A.length) : rd16 b p = n % 65536 := by
  have e1 : b.getD p.toNat 0 = UInt8.ofNat (n / 256 % 256).toNat := by
    subst h; simp only [List.getD]; rw [List.getElem?_append_right (by omega), show p.toNat - A.length = 0 by omega]; rfl
  have e2 : b.getD (p + 1).toNat 0 = UInt8.ofNat (n % 256).toNat := by
    subst h; simp only [List.getD]; rw [List.getElem?_append_right (by omega), show (p + 1).toNat - A.length = 1 by omega]; rfl
  unfold rd16
  rw [e1, e2, u8_of (by omega) (by omega), u8_of (by omega) (by omega)]
  omega
theorem rd32_at {b A B : List UInt8} {n p : Int} (h : b = A ++ (be32 n ++ B)) (hp : p = A.length) : rd32 b p = n % 4294967296 := by
  unfold rd32
  unfold be32 at h
  rw [rd16_at (b := b) (A := A) (B := be16 n ++ B) (n := n / 65536) (by rw [h, List.append_assoc]) hp, rd16_at (b := b) (A := A ++ be16 (n / 65536)) (B := B) (n := n) (by rw [h]; simp only [List.append_assoc]) (by rw [List.length_append, be16_len]; omega)]
  omega
theorem split_at {α} {l : List α} {i : Nat} {x : α} (h : l[i]? = some x) : ∃ l1 l2, l = l1 ++ x :: l2 ∧ l1.length = i := by
  rw [List.getElem?_eq_some_iff] at h
  obtain ⟨hi, rfl⟩ := h
  refine ⟨l.take i, l.drop (i + 1), ?_, by rw [List.length_take]; omega⟩
  rw [List.getElem_cons_drop, List.take_append_drop]
theorem rd16_tab {α} {b A B : List UInt8} {l : List α} {g : α → Int} (h : b = A ++ ((l.flatMap fun x => be16 (g x)) ++ B)) {i : Nat} {x : α} (hx : l[i]? = some x) {p : Int} (hp : p = A.length + 2 * i) : rd16 b p = g x % 65536 := by
  obtain ⟨l1, l2, rfl, hl⟩ := split_at hx
  refine rd16_at (A := A ++ l1.flatMap fun x => be16 (g x)) (B := (l2.flatMap fun x => be16 (g x)) ++ B) ?_ ?_
  · rw [h]; simp only [List.flatMap_append, List.flatMap_cons, List.append_assoc]
  · rw [List.length_append, fm16_len]; omega
theorem rd32_rec {b A B : List UInt8} {l : List (Int × Int × Int)} (h : b = A ++ ((l.flatMap fun p => be32 p.1 ++ be32 p.2.1 ++ be32 p.2.2) ++ B)) {i : Nat} {x : Int × Int × Int} (hx : l[i]? = some x) {p : Int} (hp : p = A.length + 12 * i) :
    rd32 b p = x.1 % 4294967296 ∧ rd32 b (p + 4) = x.2.1 % 4294967296 ∧ rd32 b (p + 8) = x.2.2 % 4294967296 := by
  obtain ⟨l1, l2, rfl, hl⟩ := split_at hx
  have e := @fm12_len l1
  generalize hF : (l1.flatMap fun p => be32 p.1 ++ be32 p.2.1 ++ be32 p.2.2) = F1 at *
  generalize hG : (l2.flatMap fun p => be32 p.1 ++ be32 p.2.1 ++ be32 p.2.2) = F2 at *
  rw [List.flatMap_append, List.flatMap_cons, hF, hG] at h
  refine ⟨rd32_at (A := A ++ F1) (B := be32 x.2.1 ++ (be32 x.2.2 ++ (F2 ++ B))) ?_ ?_, rd32_at (A := A ++ F1 ++ be32 x.1) (B := be32 x.2.2 ++ (F2 ++ B)) ?_ ?_, rd32_at (A := A ++ F1 ++ be32 x.1 ++ be32 x.2.1) (B := F2 ++ B) ?_ ?_⟩
  · rw [h]; simp only [List.append_assoc]
  · simp only [List.length_append, be32_len]; omega
  · rw [h]; simp only [List.append_assoc]
  · simp only [List.length_append, be32_len]; omega
  · rw [h]; simp only [List.append_assoc]
  · simp only [List.length_append, be32_len]; omega
theorem rising_pw : ∀ (l : List Int), rising l = true → l.Pairwise (· < ·)
  | [], _ => List.Pairwise.nil
  | [a], _ => List.pairwise_singleton _ _
  | a :: b :: r, h => by
    have h : (decide (a < b) && rising (b :: r)) = true := h
    rw [Bool.and_eq_true, decide_eq_true_eq] at h
    have ih := rising_pw (b :: r) h.2
    refine List.Pairwise.cons ?_ ih
    intro x hx
    rw [List.pairwise_cons] at ih
    rcases List.mem_cons.mp hx with rfl | hx
    · exact h.1
    · have := ih.1 x hx; omega
/-- the dictionaries of the law -/
structure Dict (d : List (Int × Int)) : Prop where
  ris : rising (d.map (·.1)) = true
  len : d.length ≤ 20
  val : ∀ p ∈ d, 0 ≤ p.1 ∧ p.1 ≤ 1200000 ∧ 1 ≤ p.2 ∧ p.2 < 65535
theorem dget_none {d : List (Int × Int)} {c : Int} (h : c ∉ d.map (·.1)) : dget d c = Option.none := by
  unfold dget
  rw [List.find?_eq_none.mpr]
  · rfl
  · intro p hp e
    simp only [decide_eq_true_eq] at e
    exact h (List.mem_map.mpr ⟨p, hp, e⟩)
theorem dget_some {d : List (Int × Int)} {c : Int} (h : c ∈ d.map (·.1)) : ∃ p ∈ d, p.1 = c ∧ dget d c = some p.2 := by
  unfold dget
  rw [List.mem_map] at h
  obtain ⟨q, hq, e⟩ := h
  cases hf : d.find? (fun p => p.1 = c) with
  | none => exact absurd e (by have := List.find?_eq_none.mp hf q hq; simpa using this)
  | some p =>
    have h1 := List.find?_some hf
    have h2 := List.mem_of_find?_eq_some hf
    exact ⟨p, h2, by simpa using h1, rfl⟩
theorem gl_in {d : List (Int × Int)} (hD : Dict d) {c : Int} (h : c ∈ d.map (·.1)) : dget d c = some (gl d c) ∧ 1 ≤ gl d c ∧ gl d c < 65535 ∧ 0 ≤ c ∧ c ≤ 1200000 := by
  obtain ⟨p, hp, rfl, e⟩ := dget_some h
  have : gl d p.1 = p.2 := dget_def e
  rw [this]
  have := hD.val p hp
  exact ⟨e, by omega, by omega, by omega, by omega⟩
theorem gl_out {d : List (Int × Int)} {c : Int} (h : c ∉ d.map (·.1)) : gl d c = 0 := by unfold gl; rw [dget_none h]; rfl
structure RunsOK (l : List Int) (R : List (Int × Int)) : Prop where
  a : ∀ p ∈ R, p.1 ≤ p.2 ∧ p.2 - p.1 < l.length ∧ ∀ c, p.1 ≤ c → c ≤ p.2 → c ∈ l
  b : ∀ c ∈ l, ∃ p ∈ R, p.1 ≤ c ∧ c ≤ p.2
  c : R.Pairwise fun p q => p.2 < q.1
theorem runs_step {l : List Int} {R : List (Int × Int)} {c : Int} (h : RunsOK l R) (hc : ∀ x ∈ l, x < c) : RunsOK (l ++ [c]) (addRun R c) := by
  have hlen : (l ++ [c]).length = l.length + 1 := by simp
  have new : RunsOK (l ++ [c]) (R ++ [(c, c)]) := by
    refine ⟨fun p hp => ?_, fun x hx => ?_, ?_⟩
    · rw [List.mem_append, List.mem_singleton] at hp
      rcases hp with hp | rfl
      · obtain ⟨h1, h2, h3⟩ := h.a p hp
        exact ⟨h1, by omega, fun x a b => List.mem_append_left _ (h3 x a b)⟩
      · exact ⟨Int.le_refl _, by dsimp only; omega, fun x a b => List.mem_append_right _ (by dsimp only at a b; rw [List.mem_singleton]; omega)⟩
    · rw [List.mem_append, List.mem_singleton] at hx
      rcases hx with hx | rfl
      · obtain ⟨p, hp, h1⟩ := h.b x hx
        exact ⟨p, List.mem_append_left _ hp, h1⟩
      · exact ⟨(x, x), List.mem_append_right _ (by simp), Int.le_refl _, Int.le_refl _⟩
    · rw [List.pairwise_append]
      refine ⟨h.c, List.pairwise_singleton _ _, fun p hp q hq => ?_⟩
      rw [List.mem_singleton] at hq
      subst hq
      obtain ⟨h1, -, h3⟩ := h.a p hp
      exact hc _ (h3 p.2 h1 (Int.le_refl _))
  unfold addRun
  rcases List.eq_nil_or_concat R with rfl | ⟨l0, p, rfl⟩
  · exact new
  · rw [List.concat_eq_append] at *
    simp only [List.getLast?_concat, List.dropLast_concat]
    split
    · rename_i e
      have hp := h.a p (by simp)
      have hpw := h.c
      rw [List.pairwise_append] at hpw
      refine ⟨fun q hq => ?_, fun x hx => ?_, ?_⟩
      · rw [List.mem_append, List.mem_singleton] at hq
        rcases hq with hq | rfl
        · obtain ⟨h1, h2, h3⟩ := h.a q (List.mem_append_left _ hq)
          exact ⟨h1, by omega, fun x a b => List.mem_append_left _ (h3 x a b)⟩
        · refine ⟨by dsimp only; omega, by dsimp only; omega, fun x a b => ?_⟩
          dsimp only at a b
          rw [List.mem_append, List.mem_singleton]
          by_cases hx : x = c
          · exact .inr hx
          · exact .inl (hp.2.2 x a (by omega))
      · rw [List.mem_append, List.mem_singleton] at hx
        rcases hx with hx | rfl
        · obtain ⟨q, hq, h1, h2⟩ := h.b x hx
          rw [List.mem_append, List.mem_singleton] at hq
          rcases hq with hq | rfl
          · exact ⟨q, List.mem_append_left _ hq, h1, h2⟩
          · exact ⟨(q.1, c), List.mem_append_right _ (by simp), h1, by dsimp only; omega⟩
        · exact ⟨(p.1, x), List.mem_append_right _ (by simp), by dsimp only; omega, Int.le_refl _⟩
      · rw [List.pairwise_append]
        refine ⟨hpw.1, List.pairwise_singleton _ _, fun q hq q2 hq2 => ?_⟩
        rw [List.mem_singleton] at hq2
        subst hq2
        exact hpw.2.2 q hq p (by simp)
    · exact new
theorem runs_ok : ∀ (l pre : List Int) (acc : List (Int × Int)), RunsOK pre acc → (pre ++ l).Pairwise (· < ·) → RunsOK (pre ++ l) (l.foldl addRun acc)
  | [], pre, acc, h, _ => by rw [List.append_nil]; exact h
  | c :: l, pre, acc, h, hp => by
    rw [List.foldl_cons, show pre ++ c :: l = (pre ++ [c]) ++ l by simp]
    rw [show pre ++ c :: l = (pre ++ [c]) ++ l by simp] at hp
    refine runs_ok l (pre ++ [c]) _ (runs_step h fun x hx => ?_) hp
    rw [List.append_assoc, List.pairwise_append] at hp
    exact hp.2.2 x hx c (by simp)
structure GrpOK (d : List (Int × Int)) (l : List Int) (R : List (Int × Int × Int)) : Prop where
  a : ∀ p ∈ R, p.1 ≤ p.2.1 ∧ ∀ c, p.1 ≤ c → c ≤ p.2.1 → c ∈ l ∧ gl d c = p.2.2 + c - p.1
  b : ∀ c ∈ l, ∃ p ∈ R, p.1 ≤ c ∧ c ≤ p.2.1
  c : R.Pairwise fun p q => p.2.1 < q.1
theorem grps_step {d : List (Int × Int)} {l : List Int} {R : List (Int × Int × Int)} {c : Int} (h : GrpOK d l R) (hc : ∀ x ∈ l, x < c) : GrpOK d (l ++ [c]) (addGrp d R c) := by
  have new : GrpOK d (l ++ [c]) (R ++ [(c, c, gl d c)]) := by
    refine ⟨fun p hp => ?_, fun x hx => ?_, ?_⟩
    · rw [List.mem_append, List.mem_singleton] at hp
      rcases hp with hp | rfl
      · obtain ⟨h1, h3⟩ := h.a p hp
        exact ⟨h1, fun x a b => ⟨List.mem_append_left _ (h3 x a b).1, (h3 x a b).2⟩⟩
      · refine ⟨Int.le_refl _, fun x a b => ?_⟩
        dsimp only at a b ⊢
        have : x = c := by omega
        subst this
        exact ⟨List.mem_append_right _ (by simp), by omega⟩
    · rw [List.mem_append, List.mem_singleton] at hx
      rcases hx with hx | rfl
      · obtain ⟨p, hp, h1⟩ := h.b x hx
        exact ⟨p, List.mem_append_left _ hp, h1⟩
      · exact ⟨(x, x, gl d x), List.mem_append_right _ (by simp), Int.le_refl _, Int.le_refl _⟩
    · rw [List.pairwise_append]
      refine ⟨h.c, List.pairwise_singleton _ _, fun p hp q hq => ?_⟩
      rw [List.mem_singleton] at hq
      subst hq
      obtain ⟨h1, h3⟩ := h.a p hp
      exact hc _ (h3 p.2.1 h1 (Int.le_refl _)).1
  unfold addGrp
  rcases List.eq_nil_or_concat R with rfl | ⟨l0, p, rfl⟩
  · exact new
  · rw [List.concat_eq_append] at *
    simp only [List.getLast?_concat, List.dropLast_concat]
    split
    · rename_i e
      obtain ⟨e, e2⟩ := e
      have hp := h.a p (by simp)
      have hpw := h.c
      rw [List.pairwise_append] at hpw
      refine ⟨fun q hq => ?_, fun x hx => ?_, ?_⟩
      · rw [List.mem_append, List.mem_singleton] at hq
        rcases hq with hq | rfl
        · obtain ⟨h1, h3⟩ := h.a q (List.mem_append_left _ hq)
          exact ⟨h1, fun x a b => ⟨List.mem_append_left _ (h3 x a b).1, (h3 x a b).2⟩⟩
        · refine ⟨by dsimp only; omega, fun x a b => ?_⟩
          dsimp only at a b ⊢
          by_cases hx : x = c
          · subst hx; exact ⟨by simp, by omega⟩
          · have := hp.2 x a (by omega)
            exact ⟨List.mem_append_left _ this.1, this.2⟩
      · rw [List.mem_append, List.mem_singleton] at hx
        rcases hx with hx | rfl
        · obtain ⟨q, hq, h1, h2⟩ := h.b x hx
          rw [List.mem_append, List.mem_singleton] at hq
          rcases hq with hq | rfl
          · exact ⟨q, List.mem_append_left _ hq, h1, h2⟩
          · exact ⟨(q.1, c, q.2.2), List.mem_append_right _ (by simp), h1, by dsimp only; omega⟩
        · exact ⟨(p.1, x, p.2.2), List.mem_append_right _ (by simp), by dsimp only; omega, Int.le_refl _⟩
      · rw [List.pairwise_append]
        refine ⟨hpw.1, List.pairwise_singleton _ _, fun q hq q2 hq2 => ?_⟩
        rw [List.mem_singleton] at hq2
        subst hq2
        exact hpw.2.2 q hq p (by simp)
    · exact new
theorem grps_ok {d : List (Int × Int)} : ∀ (l pre : List Int) (acc : List (Int × Int × Int)), GrpOK d pre acc → (pre ++ l).Pairwise (· < ·) → GrpOK d (pre ++ l) (l.foldl (addGrp d) acc)
  | [], pre, acc, h, _ => by rw [List.append_nil]; exact h
  | c :: l, pre, acc, h, hp => by
    rw [List.foldl_cons, show pre ++ c :: l = (pre ++ [c]) ++ l by simp]
    rw [show pre ++ c :: l = (pre ++ [c]) ++ l by simp] at hp
    refine grps_ok l (pre ++ [c]) _ (grps_step h fun x hx => ?_) hp
    rw [List.append_assoc, List.pairwise_append] at hp
    exact hp.2.2 x hx c (by simp)
theorem first_ex (c : Int) (E : Nat → Int) : ∀ m : Nat, (∀ i, i + 1 < m → E i < E (i + 1)) → ∃ r, r ≤ m ∧ (∀ i, i < r → E i < c) ∧ ∀ i, r ≤ i → i < m → c ≤ E i
  | 0, _ => ⟨0, Nat.le_refl _, fun i h => by omega, fun i _ h => by omega⟩
  | m + 1, h => by
    obtain ⟨r, h1, h2, h3⟩ := first_ex c E m fun i hi => h i (by omega)
    by_cases hr : r = m
    · by_cases hc : E m < c
      · refine ⟨m + 1, Nat.le_refl _, fun i hi => ?_, fun i a b => by omega⟩
        by_cases hi2 : i = m
        · rw [hi2]; exact hc
        · exact h2 i (by omega)
      · refine ⟨m, by omega, fun i hi => h2 i (by omega), fun i a b => ?_⟩
        have : i = m := by omega
        rw [this]; omega
    · refine ⟨r, by omega, h2, fun i a b => ?_⟩
      by_cases hi2 : i = m
      · have := h3 (m - 1) (by omega) (by omega)
        have e := h (m - 1) (by omega)
        rw [show m - 1 + 1 = m by omega] at e
        rw [hi2]; omega
      · exact h3 i a (by omega)
theorem pw_get {α} {P : α → α → Prop} {l : List α} (h : l.Pairwise P) {i j : Nat} {x y : α} (hi : l[i]? = some x) (hj : l[j]? = some y) (hij : i < j) : P x y := by
  rw [List.getElem?_eq_some_iff] at hi hj
  obtain ⟨a, rfl⟩ := hi
  obtain ⟨b, rfl⟩ := hj
  exact List.pairwise_iff_getElem.mp h i j a b hij
theorem get_d {α} {l : List α} {i : Nat} {x : α} (h : i < l.length) : l[i]? = some (l.getD i x) := by
  simp [List.getD, h]
theorem mem_d {α} {l : List α} {i : Nat} {x : α} (h : i < l.length) : l.getD i x ∈ l := List.mem_of_getElem? (get_d h)

theorem tellsG {m S E D} {g : Int → Int} (h : ∀ c, 0 ≤ c → c ≤ 2000000 → Ret cw_GroupMap_find [.inst (Str.ofString "GroupMap") (fGrp m S E D), .int c] (.int (g c))) : Tells (Str.ofString "GroupMap") (fGrp m S E D) g := ⟨⟨clsG, (by kernel_rfl)⟩, fun c c0 c1 hp K X w => shut_of (by rw [cFind0_4]; exact h c c0 c1 hp K X w)⟩
theorem tellsS {b m E S D B O} {g : Int → Int} (h : ∀ c, 0 ≤ c → c ≤ 2000000 → Ret cw_SegmentMap_find [.inst (Str.ofString "SegmentMap") (fSeg b m E S D B O), .int c] (.int (g c))) : Tells (Str.ofString "SegmentMap") (fSeg b m E S D B O) g := ⟨⟨clsS, (by kernel_rfl)⟩, fun c c0 c1 hp K X w => shut_of (by rw [cFind0_3]; exact h c c0 c1 hp K X w)⟩
theorem tellsT {a l} {g : Int → Int} (h : ∀ c, 0 ≤ c → c ≤ 2000000 → Ret cw_TrimmedMap_find [.inst (Str.ofString "TrimmedMap") (fTrim a l), .int c] (.int (g c))) : Tells (Str.ofString "TrimmedMap") (fTrim a l) g := ⟨⟨clsT, (by kernel_rfl)⟩, fun c c0 c1 hp K X w => shut_of (by rw [cFind0_2]; exact h c c0 c1 hp K X w)⟩
theorem tellsB {l} {g : Int → Int} (h : ∀ c, 0 ≤ c → c ≤ 2000000 → Ret cw_ByteMap_find [.inst (Str.ofString "ByteMap") (fByte l), .int c] (.int (g c))) : Tells (Str.ofString "ByteMap") (fByte l) g := ⟨⟨clsB, (by kernel_rfl)⟩, fun c c0 c1 hp K X w => shut_of (by rw [cFind0_1]; exact h c c0 c1 hp K X w)⟩
theorem runs_good {l : List Int} (h : rising l = true) : RunsOK l (runs l) := by
  have := runs_ok l [] [] ⟨fun p hp => by simp at hp, fun c hc => by simp at hc, List.Pairwise.nil⟩ (rising_pw l h)
  exact this
theorem grps_good {d : List (Int × Int)} {l : List Int} (h : rising l = true) : GrpOK d l (grps d l) := by
  have := @grps_ok d l [] [] ⟨fun p hp => by simp at hp, fun c hc => by simp at hc, List.Pairwise.nil⟩ (rising_pw l h)
  exact this
theorem F12 {d : List (Int × Int)} (hD : Dict d) (rest : List UInt8) (hr : rest.length ≤ 100000) : ∃ f, Tells (Str.ofString "GroupMap") f (gl d) ∧ Ret cw_read_map [.bytes (w12 (grps d (d.map (·.1))) ++ rest)] (.inst (Str.ofString "GroupMap") f) := by
  have G := @grps_good d (d.map (·.1)) hD.ris
  have hlen := grps_len d (d.map (·.1))
  rw [List.length_map] at hlen
  have hd := hD.len
  generalize grps d (d.map (·.1)) = R at *
  generalize hb : w12 R ++ rest = b
  obtain ⟨m, hm⟩ : ∃ m, R.length = m := ⟨_, rfl⟩
  have hb2 : b = be16 12 ++ be16 0 ++ be32 (16 + ((12 * R.length : Nat) : Int)) ++ be32 0 ++ be32 R.length ++ ((R.flatMap fun p => be32 p.1 ++ be32 p.2.1 ++ be32 p.2.2) ++ rest) := by
    rw [← hb]; unfold w12; simp only [List.append_assoc]
  have hbl : b.length = 16 + 12 * m + rest.length := by
    rw [hb2]; simp only [List.length_append, be16_len, be32_len, fm12_len]; omega
  have h0 : rd16 b 0 = 12 := by
    rw [rd16_at (b := b) (p := 0) (A := []) (n := 12) (B := be16 0 ++ be32 (16 + ((12 * R.length : Nat) : Int)) ++ be32 0 ++ be32 R.length ++ ((R.flatMap fun p => be32 p.1 ++ be32 p.2.1 ++ be32 p.2.2) ++ rest)) (by rw [hb2]; simp only [List.append_assoc, List.nil_append]) rfl]; decide
  have h12 : rd32 b 12 = m := by
    rw [rd32_at (b := b) (p := 12) (A := be16 12 ++ be16 0 ++ be32 (16 + ((12 * R.length : Nat) : Int)) ++ be32 0) (n := R.length) (B := (R.flatMap fun p => be32 p.1 ++ be32 p.2.1 ++ be32 p.2.2) ++ rest) (by rw [hb2]; simp only [List.append_assoc]) rfl]; omega
  have row : ∀ i, i < m → R.getD i (0, 0, 0) ∈ R := fun i hi => mem_d (by omega)
  have val : ∀ p ∈ R, 0 ≤ p.1 ∧ p.1 ≤ p.2.1 ∧ p.2.1 ≤ 1200000 ∧ 1 ≤ p.2.2 ∧ p.2.2 < 65535 := by
    intro p hp
    obtain ⟨a1, a2⟩ := G.a p hp
    obtain ⟨b1, b2⟩ := a2 p.1 (Int.le_refl _) a1
    obtain ⟨c1, c2⟩ := a2 p.2.1 a1 (Int.le_refl _)
    have g1 := gl_in hD b1
    have g2 := gl_in hD c1
    omega
  have rdi : ∀ i, i < m → rd32 b (16 + 12 * (i : Int)) = (R.getD i (0, 0, 0)).1 ∧ rd32 b (20 + 12 * (i : Int)) = (R.getD i (0, 0, 0)).2.1 ∧ rd32 b (24 + 12 * (i : Int)) = (R.getD i (0, 0, 0)).2.2 := by
    intro i hi
    have hv := val _ (row i hi)
    obtain ⟨a1, a2, a3⟩ := rd32_rec (b := b) (A := be16 12 ++ be16 0 ++ be32 (16 + ((12 * R.length : Nat) : Int)) ++ be32 0 ++ be32 R.length) (B := rest) (l := R) hb2 (get_d (x := (0, 0, 0)) (show i < R.length by omega)) (p := 16 + 12 * (i : Int)) rfl
    rw [show 16 + 12 * (i : Int) + 4 = 20 + 12 * i by omega] at a2
    rw [show 16 + 12 * (i : Int) + 8 = 24 + 12 * i by omega] at a3
    generalize R.getD i (0, 0, 0) = p at *
    omega
  have mono : ∀ i, i + 1 < m → rd32 b (20 + 12 * (i:Int)) < rd32 b (16 + 12 * ((i+1 : Nat):Int)) := by
    intro i hi
    rw [(rdi i (by omega)).2.1, (rdi (i + 1) hi).1]
    exact pw_get G.c (get_d (by omega)) (get_d (by omega)) (Nat.lt_succ_self i)
  have le2 : ∀ i : Nat, i < m → rd32 b (16 + 12 * (i:Int)) ≤ rd32 b (20 + 12 * (i:Int)) := by
    intro i hi
    rw [(rdi i hi).1, (rdi i hi).2.1]
    exact (val _ (row i hi)).2.1
  refine ⟨_, tellsG fun c c0 c1 => ?_, r_12 h0 (by omega) (by omega) (c_grp m h12 (by omega) (by omega) le2 mono)⟩
  obtain ⟨r, r1, r2, r3⟩ := first_ex c (fun i => rd32 b (20 + 12 * (i:Int))) m fun i hi => by
    have := mono i hi; have := le2 (i + 1) hi; omega
  have inv : c ∈ d.map (·.1) → r < m ∧ rd32 b (16 + 12 * (r:Int)) ≤ c := fun hin => by
    obtain ⟨p, hp, p1, p2⟩ := G.b c hin
    obtain ⟨i, hi, rfl⟩ := List.mem_iff_getElem.mp hp
    have ei : R.getD i (0, 0, 0) = R[i] := by rw [List.getD_eq_getElem?_getD, List.getElem?_eq_getElem hi]; rfl
    have hrr : r < m := Nat.lt_of_not_le fun h => by
      have := r2 i (by omega)
      rw [(rdi i (by omega)).2.1, ei] at this; omega
    refine ⟨hrr, ?_⟩
    have hE := r3 r (Nat.le_refl _) hrr
    rcases Nat.lt_trichotomy i r with h | h | h
    · have := r2 i h
      rw [(rdi i (by omega)).2.1, ei] at this; omega
    · subst h
      rw [(rdi i (by omega)).1, ei]; exact p1
    · have e1 := pw_get G.c (get_d (x := (0, 0, 0)) (show r < R.length by omega)) (get_d (x := (0, 0, 0)) hi) h
      rw [ei] at e1
      rw [(rdi r hrr).2.1] at hE
      omega
  refine c_grp_find (by omega) r1 r2 r3 ?_ ?_ ?_
  · exact fun e => gl_out fun hin => by have := (inv hin).1; omega
  · exact fun _ lt => gl_out fun hin => by have := (inv hin).2; omega
  · intro hrr hS
    have hE := r3 r (Nat.le_refl _) hrr
    obtain ⟨q1, q2⟩ := G.a _ (row r hrr)
    rw [(rdi r hrr).1] at hS ⊢
    rw [(rdi r hrr).2.2]
    rw [(rdi r hrr).2.1] at hE
    exact (q2 c hS hE).2
theorem F6 {d : List (Int × Int)} (hD : Dict d) (F : Int) (n : Nat) (hF : 0 ≤ F ∧ F < 65536) (hn : n ≤ 100) (hk : ∀ p ∈ d, F ≤ p.1 ∧ p.1 < F + n) (rest : List UInt8) (hr : rest.length ≤ 100000) : ∃ f, Tells (Str.ofString "TrimmedMap") f (gl d) ∧ Ret cw_read_map [.bytes (w6 d F n ++ rest)] (.inst (Str.ofString "TrimmedMap") f) := by
  generalize hb : w6 d F n ++ rest = b
  have hb2 : b = be16 6 ++ be16 (10 + ((2 * n : Nat) : Int)) ++ be16 0 ++ be16 F ++ be16 n ++ (((List.range n).flatMap fun (i : Nat) => be16 (gl d (F + i))) ++ rest) := by
    rw [← hb]; unfold w6; simp only [List.append_assoc]
  have fl := @fm16_len _ (List.range n) (fun (i : Nat) => gl d (F + i))
  rw [List.length_range] at fl
  have hbl : b.length = 10 + 2 * n + rest.length := by
    rw [hb2]; simp only [List.length_append, be16_len, fl]; omega
  have h0 : rd16 b 0 = 6 := by
    rw [rd16_at (b := b) (p := 0) (A := []) (n := 6) (B := be16 (10 + ((2 * n : Nat) : Int)) ++ be16 0 ++ be16 F ++ be16 n ++ (((List.range n).flatMap fun (i : Nat) => be16 (gl d (F + i))) ++ rest)) (by rw [hb2]; simp only [List.append_assoc, List.nil_append]) rfl]; decide
  have h6 : rd16 b 6 = F := by
    rw [rd16_at (b := b) (p := 6) (A := be16 6 ++ be16 (10 + ((2 * n : Nat) : Int)) ++ be16 0) (n := F) (B := be16 n ++ (((List.range n).flatMap fun (i : Nat) => be16 (gl d (F + i))) ++ rest)) (by rw [hb2]; simp only [List.append_assoc]) rfl]; omega
  have h8 : rd16 b 8 = n := by
    rw [rd16_at (b := b) (p := 8) (A := be16 6 ++ be16 (10 + ((2 * n : Nat) : Int)) ++ be16 0 ++ be16 F) (n := n) (B := (((List.range n).flatMap fun (i : Nat) => be16 (gl d (F + i))) ++ rest)) (by rw [hb2]; simp only [List.append_assoc]) rfl]; omega
  have glb : ∀ c, 0 ≤ gl d c ∧ gl d c < 65535 := fun c => by
    by_cases h : c ∈ d.map (·.1)
    · have := gl_in hD h; omega
    · rw [gl_out h]; omega
  have rdi : ∀ i, i < n → rd16 b (10 + 2 * (i : Int)) = gl d (F + i) := by
    intro i hi
    have e : (List.range n)[i]? = some i := by rw [List.getElem?_range hi]
    rw [rd16_tab (b := b) (p := 10 + 2 * (i : Int)) (A := be16 6 ++ be16 (10 + ((2 * n : Nat) : Int)) ++ be16 0 ++ be16 F ++ be16 n) (B := rest) (l := List.range n) (g := fun (i : Nat) => gl d (F + i)) hb2 e rfl]
    have := glb (F + i)
    omega
  refine ⟨_, tellsT fun c c0 c1 => c_trim_find (by omega) (fun i a b => ?_) (fun h => ?_), r_6 h0 (by omega) (by omega) (c_trim n h8 (by omega) (by omega))⟩
  · rw [h6] at a
    rw [rdi i b]
    congr 1; omega
  · rw [h6] at h
    apply gl_out
    intro hin
    rw [List.mem_map] at hin
    obtain ⟨p, hp, rfl⟩ := hin
    have := hk p hp
    omega
theorem F0 {d : List (Int × Int)} (hD : Dict d) (hv : ∀ p ∈ d, p.2 < 256) : ∃ f g, (∀ c, 0 ≤ c → g c = if c ≤ 255 then gl d c else 0) ∧ Tells (Str.ofString "ByteMap") f g ∧ Ret cw_read_map [.bytes (w0 d)] (.inst (Str.ofString "ByteMap") f) := by
  generalize hb : w0 d = b
  have hb2 : b = be16 0 ++ be16 262 ++ be16 0 ++ (List.range 256).map fun (i : Nat) => UInt8.ofNat (if gl d i < 256 then gl d i else 0).toNat := by
    rw [← hb]; rfl
  have hbl : b.length = 262 := by
    rw [hb2]; simp only [List.length_append, be16_len, List.length_map, List.length_range]
  have h0 : rd16 b 0 = 0 := by
    rw [rd16_at (b := b) (p := 0) (A := []) (n := 0) (B := be16 262 ++ be16 0 ++ (List.range 256).map fun (i : Nat) => UInt8.ofNat (if gl d i < 256 then gl d i else 0).toNat) (by rw [hb2]; simp only [List.append_assoc, List.nil_append]) rfl]; decide
  have hG : (b.drop 6).take 256 = (List.range 256).map fun (i : Nat) => UInt8.ofNat (if gl d i < 256 then gl d i else 0).toNat := by
    rw [hb2, List.drop_append_of_le_length (by simp [be16_len])]
    rw [show (be16 0 ++ be16 262 ++ be16 0).drop 6 = [] from rfl, List.nil_append, List.take_of_length_le (by simp)]
  refine ⟨_, fun c => (if c < 256 then ((((b.drop 6).take 256).getD c.toNat 0).toNat : Int) else 0), fun c c0 => ?_, tellsB fun c c0 c1 => c_byte_find (by rw [hG, List.length_map, List.length_range]) (fun _ h => if_pos h) (fun h => if_neg fun q => h ⟨c0, q⟩), r_0 h0 (by omega) (by omega) (c_byte (by omega) (by omega))⟩
  · dsimp only
    rw [hG]
    by_cases hc : c < 256
    · rw [if_pos hc, if_pos (by omega)]
      have e : ((List.range 256).map fun (i : Nat) => UInt8.ofNat (if gl d i < 256 then gl d i else 0).toNat).getD c.toNat 0 = UInt8.ofNat (if gl d (c.toNat : Nat) < 256 then gl d (c.toNat : Nat) else 0).toNat := by
        simp only [List.getD]; rw [List.getElem?_map, List.getElem?_range (by omega)]; rfl
      rw [e, show ((c.toNat : Nat) : Int) = c by omega]
      have hg : 0 ≤ gl d c ∧ gl d c < 256 := by
        by_cases h : c ∈ d.map (·.1)
        · obtain ⟨p, hp, rfl, e⟩ := dget_some h
          rw [dget_def e]
          have h1 := hD.val p hp
          have h2 := hv p hp
          omega
        · rw [gl_out h]; omega
      rw [if_pos hg.2, u8_of hg.1 hg.2]
    · rw [if_neg hc, if_neg (by omega)]

theorem pw_rising : ∀ (l : List Int), l.Pairwise (· < ·) → rising l = true
  | [], _ => rfl
  | [a], _ => rfl
  | a :: b :: r, h => by
    show (decide (a < b) && rising (b :: r)) = true
    rw [List.pairwise_cons] at h
    rw [pw_rising (b :: r) h.2, decide_eq_true (h.1 b (by simp))]; rfl
theorem ks_rising {d : List (Int × Int)} (h : rising (d.map (·.1)) = true) : rising (ks d) = true := by
  refine pw_rising _ (List.Pairwise.sublist ?_ (rising_pw _ h))
  unfold ks
  exact List.filter_sublist.map _
theorem mem_ks {d : List (Int × Int)} {c : Int} : c ∈ ks d ↔ c ∈ d.map (·.1) ∧ c < 65535 := by
  unfold ks
  simp only [List.mem_map, List.mem_filter, decide_eq_true_eq]
  constructor
  · rintro ⟨p, ⟨h1, h2⟩, rfl⟩; exact ⟨⟨p, h1, rfl⟩, h2⟩
  · rintro ⟨⟨p, h1, rfl⟩, h2⟩; exact ⟨p, ⟨h1, h2⟩, rfl⟩
theorem app_some {α} {l r : List α} {i : Nat} {x : α} (h : l[i]? = some x) : (l ++ r)[i]? = some x := by
  obtain ⟨hi, -⟩ := List.getElem?_eq_some_iff.mp h
  rw [List.getElem?_append_left hi]; exact h
theorem app_last {α} {l : List α} {x : α} {n : Nat} (h : l.length = n) : (l ++ [x])[n]? = some x := by subst h; simp
noncomputable def Seg (d R : List (Int × Int)) (Dl Ol Ll : List Int) (i : Nat) : Prop :=
  (i + 1 = R.length ∧ Dl[i]? = some 1 ∧ Ol[i]? = some 0) ∨
  (i + 1 ≠ R.length ∧ evenRun d (R.getD i (0, 0)).1 (runN (R.getD i (0, 0))) = true ∧ Dl[i]? = some (gl d (R.getD i (0, 0)).1 - (R.getD i (0, 0)).1) ∧ Ol[i]? = some 0) ∨
  (i + 1 ≠ R.length ∧ Dl[i]? = some 0 ∧ ∃ off : Nat, Ol[i]? = some (2 * ((R.length : Int) - i) + 2 * off) ∧ ∀ j, j < runN (R.getD i (0, 0)) → Ll[off + j]? = some (gl d ((R.getD i (0, 0)).1 + j)))
theorem seg_mono {d R : List (Int × Int)} {Dl Ol Ll D' O' L' : List Int} {i : Nat} (h : Seg d R Dl Ol Ll i) : Seg d R (Dl ++ D') (Ol ++ O') (Ll ++ L') i := by
  rcases h with ⟨a, b, c⟩ | ⟨a, b, c, e⟩ | ⟨a, b, off, c, e⟩
  · exact .inl ⟨a, app_some b, app_some c⟩
  · exact .inr (.inl ⟨a, b, app_some c, app_some e⟩)
  · exact .inr (.inr ⟨a, app_some b, off, app_some c, fun j hj => app_some (e j hj)⟩)
theorem inv4 (d R : List (Int × Int)) : ∀ n, n ≤ R.length → ∃ Dl Ol Ll : List Int, (fl4 d R (List.range n)).1 = (Dl.flatMap fun x => be16 x) ∧ (fl4 d R (List.range n)).2.1 = (Ol.flatMap fun x => be16 x) ∧ (fl4 d R (List.range n)).2.2 = (Ll.flatMap fun x => be16 x) ∧ Dl.length = n ∧ Ol.length = n ∧ ∀ i, i < n → Seg d R Dl Ol Ll i
  | 0, _ => ⟨[], [], [], rfl, rfl, rfl, rfl, rfl, fun i h => by omega⟩
  | n + 1, h => by
    obtain ⟨Dl, Ol, Ll, e1, e2, e3, l1, l2, hs⟩ := inv4 d R n (by omega)
    rw [List.range_succ, fl4_snoc]
    generalize fl4 d R (List.range n) = s at *
    have l3 : s.2.2.length = 2 * Ll.length := by rw [e3]; exact fm16_len
    have q4 : st4 d R.length (R.getD n (0, 0)) s n = if n + 1 = R.length then (s.1 ++ be16 1, s.2.1 ++ be16 0, s.2.2)
      else if evenRun d (R.getD n (0, 0)).1 (runN (R.getD n (0, 0))) = true then (s.1 ++ be16 (gl d (R.getD n (0, 0)).1 - (R.getD n (0, 0)).1), s.2.1 ++ be16 0, s.2.2)
      else (s.1 ++ be16 0, s.2.1 ++ be16 (2 * ((R.length : Int) - n) + s.2.2.length), s.2.2 ++ (List.range (runN (R.getD n (0, 0)))).flatMap fun (j : Nat) => be16 (gl d ((R.getD n (0, 0)).1 + j))) := rfl
    have fin : ∀ (v w : Int) (L' : List Int), Seg d R (Dl ++ [v]) (Ol ++ [w]) (Ll ++ L') n → ∀ i, i < n + 1 → Seg d R (Dl ++ [v]) (Ol ++ [w]) (Ll ++ L') i := by
      intro v w L' hn i hi
      by_cases hi2 : i = n
      · rw [hi2]; exact hn
      · exact seg_mono (hs i (by omega))
    have fm : ∀ (l : List Int) (x : Int), ((l ++ [x]).flatMap fun x => be16 x) = (l.flatMap fun x => be16 x) ++ be16 x := by
      intro l x; rw [List.flatMap_append, List.flatMap_cons, List.flatMap_nil, List.append_nil]
    by_cases hA : n + 1 = R.length
    · rw [if_pos hA] at q4
      rw [q4]
      refine ⟨Dl ++ [1], Ol ++ [0], Ll ++ [], by rw [fm, e1], by rw [fm, e2], by rw [List.append_nil, e3], by simp [l1], by simp [l2], fin _ _ _ (.inl ⟨hA, app_last l1, app_last l2⟩)⟩
    · rw [if_neg hA] at q4
      by_cases hB : evenRun d (R.getD n (0, 0)).1 (runN (R.getD n (0, 0))) = true
      · rw [if_pos hB] at q4
        rw [q4]
        refine ⟨Dl ++ [gl d (R.getD n (0, 0)).1 - (R.getD n (0, 0)).1], Ol ++ [0], Ll ++ [], by rw [fm, e1], by rw [fm, e2], by rw [List.append_nil, e3], by simp [l1], by simp [l2], fin _ _ _ (.inr (.inl ⟨hA, hB, app_last l1, app_last l2⟩))⟩
      · rw [if_neg hB] at q4
        rw [q4]
        refine ⟨Dl ++ [0], Ol ++ [2 * ((R.length : Int) - n) + 2 * (Ll.length : Nat)], Ll ++ (List.range (runN (R.getD n (0, 0)))).map fun (j : Nat) => gl d ((R.getD n (0, 0)).1 + j), by rw [fm, e1], ?_, ?_, by simp [l1], by simp [l2], fin _ _ _ (.inr (.inr ⟨hA, app_last l1, Ll.length, app_last l2, fun j hj => ?_⟩))⟩
        · rw [fm, e2, l3]; congr 2
        · rw [List.flatMap_append, e3, List.flatMap_map]
        · rw [List.getElem?_append_right (by omega), show Ll.length + j - Ll.length = j by omega, List.getElem?_map, List.getElem?_range hj]; rfl
theorem F4 {d : List (Int × Int)} (hD : Dict d) : ∃ R, Ret cw_write_format_4 [.dict d] (.bytes (w4 d R)) ∧ (w4 d R).length ≤ 10000 ∧ ∃ f, Tells (Str.ofString "SegmentMap") f (fun c => if c < 65535 then gl d c else 0) ∧ Ret cw_read_map [.bytes (w4 d R)] (.inst (Str.ofString "SegmentMap") f) := by
  have hr := ks_rising hD.ris
  have G := runs_good hr
  have hd := hD.len
  have hkl : (ks d).length ≤ 20 := by
    unfold ks; rw [List.length_map]; have := List.length_filter_le (fun p : Int × Int => decide (p.1 < 65535)) d; omega
  have hlen := runs_len (ks d)
  have key : ∀ p ∈ runs (ks d), 0 ≤ p.1 ∧ p.1 ≤ p.2 ∧ p.2 < 65535 ∧ p.2 - p.1 < 20 ∧ ∀ c, p.1 ≤ c → c ≤ p.2 → dget d c = some (gl d c) := by
    intro p hp
    obtain ⟨a1, a2, a3⟩ := G.a p hp
    have b1 := mem_ks.mp (a3 p.1 (Int.le_refl _) a1)
    have b2 := mem_ks.mp (a3 p.2 a1 (Int.le_refl _))
    have g1 := gl_in hD b1.1
    exact ⟨by omega, a1, b2.2, by omega, fun c h1 h2 => (gl_in hD (mem_ks.mp (a3 c h1 h2)).1).1⟩
  obtain ⟨R0, hR0⟩ : ∃ R0, runs (ks d) = R0 := ⟨_, rfl⟩
  rw [hR0] at G hlen key
  refine ⟨R0 ++ [(65535, 65535)], c_w4 hR0 rfl hr (by omega) (by omega) fun p hp => ?_, ?_⟩
  · obtain ⟨k1, k2, k3, k4, k5⟩ := key p hp
    exact ⟨k1, k2, k3, by omega, k5⟩
  obtain ⟨R, hR⟩ : ∃ R, R = R0 ++ [(65535, 65535)] := ⟨_, rfl⟩
  rw [← hR]
  have rl : R.length = R0.length + 1 := by rw [hR]; simp
  obtain ⟨m, hm⟩ : ∃ m, R.length = m := ⟨_, rfl⟩
  obtain ⟨Dl, Ol, Ll, e1, e2, e3, l1, l2, hs⟩ := inv4 d R R.length (Nat.le_refl _)
  have hN : ∀ i, runN (R.getD i (0, 0)) ≤ 100 := by
    intro i
    by_cases hi : i < R0.length
    · have : R.getD i (0, 0) ∈ R0 := by rw [hR]; simp only [List.getD]; rw [List.getElem?_append_left hi, List.getElem?_eq_getElem hi]; exact List.getElem_mem hi
      obtain ⟨h1, h2, h3, h4, -⟩ := key _ this
      unfold runN; omega
    · by_cases hj : i = R0.length
      · subst hj; rw [hR]; simp [List.getD, runN]
      · rw [show R.getD i (0, 0) = (0, 0) from by simp only [List.getD]; rw [List.getElem?_eq_none (by omega)]; rfl]
        decide
  obtain ⟨-, -, f3⟩ := fl4_len (d := d) hN (List.range R.length)
  rw [List.length_range] at f3
  have hLl : (Ll.flatMap fun x => be16 x).length = 2 * Ll.length := fm16_len
  have hDl : (Dl.flatMap fun x => be16 x).length = 2 * Dl.length := fm16_len
  have hOl : (Ol.flatMap fun x => be16 x).length = 2 * Ol.length := fm16_len
  rw [e3, hLl] at f3
  generalize hb : w4 d R = b
  obtain ⟨x1, x5, x6, x7, hb2⟩ : ∃ x1 x5 x6 x7 : Int, b = be16 4 ++ be16 x1 ++ be16 0 ++ (be16 (2 * (m:Int)) ++ be16 x5 ++ be16 x6 ++ be16 x7 ++ (R.flatMap fun p => be16 p.2) ++ be16 0 ++ (R.flatMap fun p => be16 p.1) ++ (Dl.flatMap fun x => be16 x) ++ (Ol.flatMap fun x => be16 x) ++ (Ll.flatMap fun x => be16 x)) := by
    refine ⟨6 + (body4 R (fl4 d R (List.range R.length))).length, 2 * (pw R.length : Nat), ((pw R.length).log2 : Nat), 2 * ((R.length : Int) - (pw R.length : Nat)), ?_⟩
    rw [← hb, ← e1, ← e2, ← e3, ← hm]
    rfl
  have hE := @fm16_len _ R (fun p => p.2)
  have hS := @fm16_len _ R (fun p => p.1)
  have hbl : b.length = 16 + 8 * m + 2 * Ll.length := by
    rw [hb2]; simp only [List.length_append, be16_len, hE, hS, hLl, hDl, hOl]; omega
  refine ⟨by omega, ?_⟩
  have h0 : rd16 b 0 = 4 := by
    rw [rd16_at (b := b) (p := 0) (A := []) (n := 4) (B := be16 x1 ++ be16 0 ++ (be16 (2 * (m:Int)) ++ be16 x5 ++ be16 x6 ++ be16 x7 ++ (R.flatMap fun p => be16 p.2) ++ be16 0 ++ (R.flatMap fun p => be16 p.1) ++ (Dl.flatMap fun x => be16 x) ++ (Ol.flatMap fun x => be16 x) ++ (Ll.flatMap fun x => be16 x))) (by rw [hb2]; simp only [List.append_assoc, List.nil_append]) rfl]; decide
  have h6 : rd16 b 6 / 2 = m := by
    rw [rd16_at (b := b) (p := 6) (A := be16 4 ++ be16 x1 ++ be16 0) (n := 2 * (m:Int)) (B := be16 x5 ++ be16 x6 ++ be16 x7 ++ (R.flatMap fun p => be16 p.2) ++ be16 0 ++ (R.flatMap fun p => be16 p.1) ++ (Dl.flatMap fun x => be16 x) ++ (Ol.flatMap fun x => be16 x) ++ (Ll.flatMap fun x => be16 x)) (by rw [hb2]; simp only [List.append_assoc]) rfl]
    omega
  have row : ∀ i, i < m → (i + 1 < m ∧ R.getD i (0, 0) ∈ R0) ∨ (i + 1 = m ∧ R.getD i (0, 0) = (65535, 65535)) := by
    intro i hi
    by_cases hi2 : i < R0.length
    · left
      refine ⟨by omega, ?_⟩
      rw [hR]; simp only [List.getD]; rw [List.getElem?_append_left hi2, List.getElem?_eq_getElem hi2]; exact List.getElem_mem hi2
    · right
      have : i = R0.length := by omega
      subst this
      refine ⟨by omega, ?_⟩
      rw [hR]; simp [List.getD]
  have val : ∀ i, i < m → 0 ≤ (R.getD i (0, 0)).1 ∧ (R.getD i (0, 0)).1 ≤ (R.getD i (0, 0)).2 ∧ (R.getD i (0, 0)).2 ≤ 65535 := by
    intro i hi
    rcases row i hi with ⟨-, h⟩ | ⟨-, h⟩
    · have := key _ h; omega
    · rw [h]; decide
  have pw : R.Pairwise fun p q => p.2 < q.1 := by
    rw [hR, List.pairwise_append]
    refine ⟨G.c, List.pairwise_singleton _ _, fun p hp q hq => ?_⟩
    rw [List.mem_singleton] at hq; subst hq
    exact (key p hp).2.2.1
  have rE : ∀ i, i < m → rd16 b (14 + 2 * (i:Int)) = (R.getD i (0, 0)).2 := by
    intro i hi
    rw [rd16_tab (b := b) (i := i) (p := 14 + 2 * (i:Int)) (A := be16 4 ++ be16 x1 ++ be16 0 ++ be16 (2 * (m:Int)) ++ be16 x5 ++ be16 x6 ++ be16 x7) (B := be16 0 ++ (R.flatMap fun p => be16 p.1) ++ (Dl.flatMap fun x => be16 x) ++ (Ol.flatMap fun x => be16 x) ++ (Ll.flatMap fun x => be16 x)) (l := R) (g := fun p => p.2) (by rw [hb2]; simp only [List.append_assoc]) (get_d (x := (0, 0)) (by omega)) rfl]
    have := val i hi; omega
  have rS : ∀ i, i < m → rd16 b (16 + 2 * (m:Int) + 2 * (i:Int)) = (R.getD i (0, 0)).1 := by
    intro i hi
    rw [rd16_tab (b := b) (i := i) (p := 16 + 2 * (m:Int) + 2 * (i:Int)) (A := be16 4 ++ be16 x1 ++ be16 0 ++ be16 (2 * (m:Int)) ++ be16 x5 ++ be16 x6 ++ be16 x7 ++ (R.flatMap fun p => be16 p.2) ++ be16 0) (B := (Dl.flatMap fun x => be16 x) ++ (Ol.flatMap fun x => be16 x) ++ (Ll.flatMap fun x => be16 x)) (l := R) (g := fun p => p.1) (by rw [hb2]; simp only [List.append_assoc]) (get_d (x := (0, 0)) (by omega)) (by simp only [List.length_append, be16_len, hE]; omega)]
    have := val i hi; omega
  have rD : ∀ (i : Nat) v, Dl[i]? = some v → rd16 b (16 + 2 * (m:Int) + 2 * ((m:Int) + (i:Int))) = v % 65536 := by
    intro i v hv
    rw [rd16_tab (b := b) (i := i) (p := 16 + 2 * (m:Int) + 2 * ((m:Int) + (i:Int))) (A := be16 4 ++ be16 x1 ++ be16 0 ++ be16 (2 * (m:Int)) ++ be16 x5 ++ be16 x6 ++ be16 x7 ++ (R.flatMap fun p => be16 p.2) ++ be16 0 ++ (R.flatMap fun p => be16 p.1)) (B := (Ol.flatMap fun x => be16 x) ++ (Ll.flatMap fun x => be16 x)) (l := Dl) (g := fun x => x) (by rw [hb2]; simp only [List.append_assoc]) hv (by simp only [List.length_append, be16_len, hE, hS]; omega)]
  have rO : ∀ (i : Nat) v, Ol[i]? = some v → rd16 b (16 + 2 * (m:Int) + 4 * (m:Int) + 2 * (i:Int)) = v % 65536 := by
    intro i v hv
    rw [rd16_tab (b := b) (i := i) (p := 16 + 2 * (m:Int) + 4 * (m:Int) + 2 * (i:Int)) (A := be16 4 ++ be16 x1 ++ be16 0 ++ be16 (2 * (m:Int)) ++ be16 x5 ++ be16 x6 ++ be16 x7 ++ (R.flatMap fun p => be16 p.2) ++ be16 0 ++ (R.flatMap fun p => be16 p.1) ++ (Dl.flatMap fun x => be16 x)) (B := (Ll.flatMap fun x => be16 x)) (l := Ol) (g := fun x => x) (by rw [hb2]; simp only [List.append_assoc]) hv (by simp only [List.length_append, be16_len, hE, hS, hDl]; omega)]
  have rL : ∀ (i : Nat) (v p : Int), Ll[i]? = some v → p = 16 + 8 * (m:Int) + 2 * (i:Int) → rd16 b p = v % 65536 := by
    intro i v p hv hp
    rw [rd16_tab (b := b) (p := p) (A := be16 4 ++ be16 x1 ++ be16 0 ++ be16 (2 * (m:Int)) ++ be16 x5 ++ be16 x6 ++ be16 x7 ++ (R.flatMap fun p => be16 p.2) ++ be16 0 ++ (R.flatMap fun p => be16 p.1) ++ (Dl.flatMap fun x => be16 x) ++ (Ol.flatMap fun x => be16 x)) (B := []) (l := Ll) (g := fun x => x) (by rw [hb2]; simp only [List.append_assoc, List.append_nil]) hv (by simp only [List.length_append, be16_len, hE, hS, hDl, hOl]; omega)]
  have mono : ∀ i : Nat, i + 1 < m → rd16 b (14 + 2 * (i:Int)) < rd16 b (14 + 2 * ((i+1 : Nat):Int)) := by
    intro i hi
    rw [rE i (by omega), rE (i + 1) hi]
    have e1 := pw_get pw (get_d (x := (0, 0)) (show i < R.length by omega)) (get_d (x := (0, 0)) (show i + 1 < R.length by omega)) (Nat.lt_succ_self i)
    have e2 := val (i + 1) hi
    omega
  refine ⟨_, tellsS fun c c0 c1 => ?_, r_4 h0 (by omega) (by omega) (c_seg m h6 (by omega) (by omega) mono)⟩
  obtain ⟨r, r1, r2, r3⟩ := first_ex c (fun i => rd16 b (14 + 2 * (i:Int))) m fun i hi => mono i hi
  have hrm : r = m → 65535 < c := fun e => by
    have := r2 (m - 1) (by omega)
    rcases row (m - 1) (by omega) with ⟨h, -⟩ | ⟨-, h⟩
    · omega
    · rw [rE (m - 1) (by omega), h] at this
      exact this
  refine c_seg_find (by omega) r1 r2 r3 (by omega) c1 (fun e => if_neg (by have := hrm e; omega)) (fun hr hcs => ?_) (fun hr hcs hO0 => ?_) (fun hr hcs hO0 => ?_)
  all_goals
    have hEr := r3 r (Nat.le_refl _) hr
    have vr := val r hr
    rw [rE r hr] at hEr
    rw [rS r hr] at hcs
  · rw [if_pos (by omega)]
    refine gl_out fun hin => ?_
    obtain ⟨p, hp, p1, p2⟩ := G.b c (mem_ks.mpr ⟨hin, by omega⟩)
    obtain ⟨i, hi, rfl⟩ := List.mem_iff_getElem.mp hp
    have ei : R.getD i (0, 0) = R0[i] := by rw [hR, List.getD_eq_getElem?_getD, List.getElem?_append_left hi, List.getElem?_eq_getElem hi]; rfl
    rcases Nat.lt_trichotomy i r with h | h | h
    · have := r2 i h
      rw [rE i (by omega), ei] at this; omega
    · subst h; rw [ei] at hcs; omega
    · have e1 := pw_get pw (get_d (x := (0, 0)) (show r < R.length by omega)) (get_d (x := (0, 0)) (show i < R.length by omega)) h
      rw [ei] at e1; omega
  · rcases row r hr with ⟨hr2, hp⟩ | ⟨hr2, hp⟩
    · have kp := key _ hp
      obtain ⟨a1, a2, a3⟩ := G.a _ hp
      have hin := mem_ks.mp (a3 c (by omega) hEr)
      have g1 := gl_in hD hin.1
      rw [if_pos hin.2]
      rcases hs r (by omega) with ⟨q1, -⟩ | ⟨q1, q2, q3, q4⟩ | ⟨q1, q2, off, q3, q4⟩
      · omega
      · rw [rD r _ q3]
        have ev : gl d c - c = gl d (R.getD r (0, 0)).1 - (R.getD r (0, 0)).1 := by
          unfold evenRun at q2
          rw [List.all_eq_true] at q2
          have := q2 (c - (R.getD r (0, 0)).1).toNat (List.mem_range.mpr (by unfold runN; omega))
          have := eq_of_beq this
          rw [show (R.getD r (0, 0)).1 + (((c - (R.getD r (0, 0)).1).toNat : Nat) : Int) = c by omega] at this
          exact this
        omega
      · have hL := q4 (c - (R.getD r (0, 0)).1).toNat (by unfold runN; omega)
        have hoff : off + (c - (R.getD r (0, 0)).1).toNat < Ll.length := (List.getElem?_eq_some_iff.mp hL).1
        rw [rO r _ q3, hm] at hO0
        omega
    · rcases hs r (by omega) with ⟨-, q3, q4⟩ | ⟨q1, -⟩ | ⟨q1, -⟩
      · rw [rD r _ q3]
        rw [hp] at hcs hEr
        have hc : c = 65535 := Int.le_antisymm hEr hcs
        rw [if_neg (by omega), hc]; rfl
      · omega
      · omega
  · rcases row r hr with ⟨hr2, hp⟩ | ⟨hr2, hp⟩
    · have kp := key _ hp
      obtain ⟨a1, a2, a3⟩ := G.a _ hp
      have hin := mem_ks.mp (a3 c (by omega) hEr)
      have g1 := gl_in hD hin.1
      rw [if_pos hin.2]
      rcases hs r (by omega) with ⟨q1, -⟩ | ⟨q1, q2, q3, q4⟩ | ⟨q1, q2, off, q3, q4⟩
      · omega
      · rw [rO r _ q4] at hO0
        exact absurd rfl hO0
      · have hL := q4 (c - (R.getD r (0, 0)).1).toNat (by unfold runN; omega)
        rw [show (R.getD r (0, 0)).1 + (((c - (R.getD r (0, 0)).1).toNat : Nat) : Int) = c by omega] at hL
        have hoff : off + (c - (R.getD r (0, 0)).1).toNat < Ll.length := (List.getElem?_eq_some_iff.mp hL).1
        have hO : rd16 b (16 + 2 * (m:Int) + 4 * (m:Int) + 2 * (r:Int)) = 2 * ((m:Int) - r) + 2 * off := by
          rw [rO r _ q3, hm]; omega
        have hG := rL _ _ (16 + 2 * (m:Int) + 4 * (m:Int) + 2 * (r:Int) + (2 * ((m:Int) - r) + 2 * off) + 2 * (c - (R.getD r (0, 0)).1)) hL (by omega)
        rw [rS r hr, rD r _ q2, hO, hG]
        exact ⟨by omega, by omega, by omega, by omega, by omega⟩
    · rcases hs r (by omega) with ⟨-, q3, q4⟩ | ⟨q1, -⟩ | ⟨q1, -⟩
      · rw [rO r _ q4] at hO0
        exact absurd rfl hO0
      · omega
      · omega

theorem W6 {d : List (Int × Int)} (hD : Dict d) (hs : ∀ p ∈ d, ∀ q ∈ d, q.1 < p.1 + 90) (hk : ∀ p ∈ d, p.1 < 65536) : ∃ F n, (0 ≤ F ∧ F < 65536) ∧ n ≤ 100 ∧ (∀ p ∈ d, F ≤ p.1 ∧ p.1 < F + (n : Nat)) ∧ Ret cw_write_format_6 [.dict d] (.bytes (w6 d F n)) := by
  by_cases hd : d = []
  · subst hd
    exact ⟨0, 0, by decide, by decide, fun p hp => by simp at hp, c_w6 (L := -1) rfl (by decide) (by decide) (by decide) rfl (.inl ⟨rfl, rfl, rfl⟩)⟩
  · have hl : 0 < d.length := List.length_pos_iff.mpr hd
    have hlen := hD.len
    have pw := rising_pw _ hD.ris
    obtain ⟨ks, hks⟩ : ∃ ks, d.map (·.1) = ks := ⟨_, rfl⟩
    have kl : ks.length = d.length := by rw [← hks]; simp
    have e0 : ks[0]? = some (ks.getD 0 0) := get_d (by omega)
    have e1 : ks[d.length - 1]? = some (ks.getD (d.length - 1) 0) := get_d (by omega)
    have m0 : ks.getD 0 0 ∈ d.map (·.1) := by rw [hks]; exact mem_d (by omega)
    have m1 : ks.getD (d.length - 1) 0 ∈ d.map (·.1) := by rw [hks]; exact mem_d (by omega)
    have bnd : ∀ c ∈ ks, ks.getD 0 0 ≤ c ∧ c ≤ ks.getD (d.length - 1) 0 := by
      intro c hc
      rw [hks] at pw
      obtain ⟨i, hi, rfl⟩ := List.mem_iff_getElem.mp hc
      have ei : ks[i]? = some ks[i] := List.getElem?_eq_getElem hi
      constructor
      · by_cases h : i = 0
        · subst h; rw [ei] at e0; exact Int.le_of_eq (Option.some.inj e0).symm
        · have := pw_get pw e0 ei (by omega); omega
      · by_cases h : i = d.length - 1
        · subst h; rw [ei] at e1; exact Int.le_of_eq (Option.some.inj e1)
        · have := pw_get pw ei e1 (by omega); omega
    obtain ⟨p, hp, ep⟩ := List.mem_map.mp m0
    obtain ⟨q, hq, eq⟩ := List.mem_map.mp m1
    have v0 := hD.val p hp
    have v1 := hs p hp q hq
    have v2 := hk p hp
    have b01 := (bnd _ (by rw [← hks]; exact m0)).2
    generalize hF : ks.getD 0 0 = F at *
    generalize hL : ks.getD (d.length - 1) 0 = L at *
    have hn : (((L - F + 1).toNat : Nat) : Int) = L - F + 1 := by omega
    refine ⟨F, (L - F + 1).toNat, by omega, by omega, fun r hr => ?_, c_w6 (L := L) hD.ris (by omega) (by omega) (by omega) (by omega) (.inr ?_)⟩
    · have := bnd r.1 (by rw [← hks]; exact List.mem_map.mpr ⟨r, hr, rfl⟩)
      omega
    · rw [hks]
      have e0 : ks[0]? = some F := by rw [e0]
      have e1 : ks[d.length - 1]? = some L := by rw [e1]
      obtain ⟨l1, l2, q1, q2⟩ := split_at e0
      obtain ⟨l3, l4, q3, q4⟩ := split_at e1
      have z1 : l1 = [] := List.eq_nil_of_length_eq_zero q2
      have z4 : l4 = [] := List.eq_nil_of_length_eq_zero (by have := congrArg List.length q3; rw [List.length_append, List.length_cons] at this; omega)
      rw [z1] at q1
      rw [z4] at q3
      exact ⟨l2, l3, q1, q3⟩
theorem Good.dict {d : List (Int × Int)} (h : Good d) : Dict d := by
  obtain ⟨c0, h1, h2, h3⟩ := h.near
  have := h.len
  exact ⟨h.ris, by omega, fun p hp => by have := h3 p hp; omega⟩
theorem beside_mem {d : List (Int × Int)} {c : Int} (h : c ∈ beside d) : c = 0 ∨ c = 31 ∨ c = 65535 ∨ ∃ p ∈ d, c = p.1 ∨ c = p.1 + 1 ∨ c = max 0 (p.1 - 1) := by
  unfold beside at h
  rw [List.mem_append, List.mem_flatMap] at h
  rcases h with h | ⟨p, hp, h⟩
  · simp only [List.mem_cons, List.not_mem_nil, or_false] at h
    rcases h with h | h | h
    · exact .inl h
    · exact .inr (.inl h)
    · exact .inr (.inr (.inl h))
  · simp only [List.mem_cons, List.not_mem_nil, or_false] at h
    exact .inr (.inr (.inr ⟨p, hp, h⟩))
theorem beside_b {d : List (Int × Int)} (hD : Dict d) : ∀ c ∈ beside d, 0 ≤ c ∧ c ≤ 2000000 := by
  intro c hc
  rcases beside_mem hc with h | h | h | ⟨p, hp, h⟩
  · omega
  · omega
  · omega
  · have := hD.val p hp; omega
/-- one map: written, read, and right -/
noncomputable def FormOK (d : List (Int × Int)) (x most : Int) : Prop := ∃ w C f, Ret cw_write_map [.int x, .dict d] (.bytes w) ∧ Ret cw_read_map [.bytes w] (.inst C f) ∧ Ret cw_law_map_right [.inst C f, .dict d, .int most] (.bool true)
theorem ok4 {d : List (Int × Int)} (hD : Dict d) (most : Int) (h : most = 65534 ∨ most = 65535 ∧ ∀ p ∈ d, p.1 < 65535) : FormOK d 4 most := by
  obtain ⟨R, h1, h2, f, h3, h4⟩ := F4 hD
  refine ⟨_, _, f, wm_4 h1, h4, c_right h3 (Nat.le_trans hD.len (Nat.le_of_ble_eq_true rfl)) (beside_b hD) (fun c hc => ?_) rfl⟩
  by_cases hc : c < 65535
  · rw [if_pos hc, if_pos (by omega)]
  · rw [if_neg hc]
    rcases h with h | ⟨h, hk⟩
    · rw [if_neg (by omega)]
    · have : gl d c = 0 := gl_out fun hin => by obtain ⟨p, hp, rfl⟩ := List.mem_map.mp hin; exact hc (hk p hp)
      rw [this, ite_self]
theorem far_0 {d : List (Int × Int)} (h : ∀ p ∈ d, p.1 < 65535) {c : Int} (hc : 65535 ≤ c) : gl d c = 0 := gl_out fun hin => by obtain ⟨p, hp, rfl⟩ := List.mem_map.mp hin; exact Int.not_lt.mpr hc (h p hp)
theorem okN {d : List (Int × Int)} (hD : Dict d) (h : ∀ p ∈ d, p.1 < 65535) : ∀ c ∈ beside d, gl d c = if c ≤ 65535 then gl d c else 0 := fun c _ => by
  by_cases hc : c ≤ 65535
  · rw [if_pos hc]
  · rw [if_neg hc]; exact far_0 h (by omega)
theorem wr_12 {d : List (Int × Int)} (hD : Dict d) : Ret cw_write_map [.int 12, .dict d] (.bytes (w12 (grps d (d.map (·.1))))) := wm_12 (c_w12 hD.ris (Nat.le_trans hD.len (Nat.le_of_ble_eq_true rfl)) fun p hp => (gl_in hD (List.mem_map.mpr ⟨p, hp, rfl⟩)).1)
theorem ok12 {d : List (Int × Int)} (hD : Dict d) (h : ∀ p ∈ d, p.1 < 65535) : FormOK d 12 65535 := by
  obtain ⟨f, h1, h2⟩ := F12 hD [] (Nat.zero_le _)
  rw [List.append_nil] at h2
  exact ⟨_, _, f, wr_12 hD, h2, c_right h1 (Nat.le_trans hD.len (Nat.le_of_ble_eq_true rfl)) (beside_b hD) (okN hD h) (far_0 h (by decide))⟩
theorem ok6 {d : List (Int × Int)} (hD : Dict d) (hs : ∀ p ∈ d, ∀ q ∈ d, q.1 < p.1 + 90) (h : ∀ p ∈ d, p.1 < 65535) : FormOK d 6 65535 := by
  obtain ⟨F, n, hF, hn, hk, hw⟩ := W6 hD hs fun p hp => Int.lt_trans (h p hp) (by decide)
  obtain ⟨f, h1, h2⟩ := F6 hD F n hF hn hk [] (Nat.zero_le _)
  rw [List.append_nil] at h2
  exact ⟨_, _, f, wm_6 hw, h2, c_right h1 (Nat.le_trans hD.len (Nat.le_of_ble_eq_true rfl)) (beside_b hD) (okN hD h) (far_0 h (by decide))⟩
theorem ok0 {d : List (Int × Int)} (hD : Dict d) (hv : ∀ p ∈ d, p.2 < 256) : FormOK d 0 255 := by
  obtain ⟨f, g, hg, h1, h2⟩ := F0 hD hv
  have gn : ∀ c, 0 ≤ gl d c := fun c => by
    by_cases h : c ∈ d.map (·.1)
    · have := gl_in hD h; omega
    · rw [gl_out h]; exact Int.le_refl _
  refine ⟨_, _, f, wm_0 (c_w0 gn), h2, c_right h1 (Nat.le_trans hD.len (Nat.le_of_ble_eq_true rfl)) (beside_b hD) (fun c hc => hg c (beside_b hD c hc).1) ?_⟩
  rw [hg _ (by decide)]; rfl
theorem form_ok {d : List (Int × Int)} (h : Good d) (x : Int) (hx : x = 0 ∨ x = 6 ∨ x = 4 ∨ x = 12) : FormOK d x (if x = 0 then 255 else 65535) := by
  have hD := h.dict
  obtain ⟨c0, h1, h2, h3⟩ := h.near
  have hk : ∀ p ∈ d, p.1 < 65535 := fun p hp => (h3 p hp).2.2.1
  rcases hx with rfl | rfl | rfl | rfl
  · exact ok0 hD fun p hp => by have := h3 p hp; omega
  · exact ok6 hD (fun p hp q hq => by have := h3 p hp; have := h3 q hq; omega) hk
  · exact ok4 hD 65535 (.inr ⟨rfl, hk⟩)
  · exact ok12 hD hk
theorem maps_app (l1 l2 : List (Int × Int × List UInt8)) : maps (l1 ++ l2) = maps l1 ++ maps l2 := by simp [maps]
theorem hdrs_app : ∀ (l1 l2 : List (Int × Int × List UInt8)) (off : Int), hdrs (l1 ++ l2) off = hdrs l1 off ++ hdrs l2 (off + (maps l1).length)
  | [], l2, off => by simp [hdrs, maps]
  | y :: r, l2, off => by
    rw [List.cons_append, hdrs, hdrs_app r l2, hdrs]
    simp only [maps, List.flatMap_cons, List.length_append, List.append_assoc, Int.natCast_add, Int.add_assoc]
theorem cm_row {L L1 L2 : List (Int × Int × List UInt8)} {x : Int × Int × List UInt8} (hL : L = L1 ++ x :: L2) (h1 : 0 ≤ x.1 ∧ x.1 < 65536) (h2 : 0 ≤ x.2.1 ∧ x.2.1 < 65536) (hl : L.length ≤ 10) (hm : (maps L).length ≤ 200000) {i : Nat} (hi : i = L1.length) :
    rd16 (wcm L) (4 + 8 * (i : Int)) = x.1 ∧ rd16 (wcm L) (6 + 8 * (i : Int)) = x.2.1 ∧ rd32 (wcm L) (8 + 8 * (i : Int)) = 4 + 8 * (L.length : Int) + (maps L1).length ∧ (wcm L).length = 4 + 8 * L.length + (maps L1).length + (x.2.2.length + (maps L2).length) ∧ (wcm L).drop (4 + 8 * (L.length : Int) + (maps L1).length).toNat = x.2.2 ++ maps L2 := by
  subst hi
  have eh : hdrs L (4 + 8 * (L.length : Int)) = hdrs L1 (4 + 8 * (L.length : Int)) ++ hdrs (x :: L2) (4 + 8 * (L.length : Int) + (maps L1).length) := by
    generalize (4 + 8 * (L.length : Int)) = off
    rw [hL, hdrs_app]
  have em : maps L = maps L1 ++ (x.2.2 ++ maps L2) := by rw [hL, maps_app]; rfl
  have e : wcm L = be16 0 ++ be16 L.length ++ hdrs L1 (4 + 8 * (L.length : Int)) ++ be16 x.1 ++ be16 x.2.1 ++ be32 (4 + 8 * (L.length : Int) + (maps L1).length) ++ hdrs L2 (4 + 8 * (L.length : Int) + (maps L1).length + x.2.2.length) ++ maps L1 ++ (x.2.2 ++ maps L2) := by
    unfold wcm
    rw [eh, em, hdrs]
    simp only [List.append_assoc]
  have hh := hdrs_len L1 (4 + 8 * (L.length : Int))
  have hh2 := hdrs_len L2 (4 + 8 * (L.length : Int) + (maps L1).length + x.2.2.length)
  have hlL : L.length = L1.length + 1 + L2.length := by rw [hL]; simp; omega
  have hml : (maps L).length = (maps L1).length + (x.2.2.length + (maps L2).length) := by rw [hL, maps_app]; simp [maps]
  generalize hdrs L1 (4 + 8 * (L.length : Int)) = H1 at *
  generalize hdrs L2 (4 + 8 * (L.length : Int) + (maps L1).length + x.2.2.length) = H2 at *
  generalize hn : L.length = n at *
  generalize hM : maps L1 = M1 at *
  generalize wcm L = b at *
  have a1 : rd16 b (4 + 8 * (L1.length : Int)) = x.1 := by
    rw [rd16_at (b := b) (p := 4 + 8 * (L1.length : Int)) (n := x.1) (A := be16 0 ++ be16 n ++ H1) (B := be16 x.2.1 ++ be32 (4 + 8 * (n : Int) + M1.length) ++ H2 ++ M1 ++ (x.2.2 ++ maps L2)) (by rw [e]; simp only [List.append_assoc]) (by simp only [List.length_append, be16_len]; omega)]
    omega
  have a2 : rd16 b (6 + 8 * (L1.length : Int)) = x.2.1 := by
    rw [rd16_at (b := b) (p := 6 + 8 * (L1.length : Int)) (n := x.2.1) (A := be16 0 ++ be16 n ++ H1 ++ be16 x.1) (B := be32 (4 + 8 * (n : Int) + M1.length) ++ H2 ++ M1 ++ (x.2.2 ++ maps L2)) (by rw [e]; simp only [List.append_assoc]) (by simp only [List.length_append, be16_len]; omega)]
    omega
  have a3 : rd32 b (8 + 8 * (L1.length : Int)) = 4 + 8 * (n : Int) + M1.length := by
    rw [rd32_at (b := b) (p := 8 + 8 * (L1.length : Int)) (n := 4 + 8 * (n : Int) + M1.length) (A := be16 0 ++ be16 n ++ H1 ++ be16 x.1 ++ be16 x.2.1) (B := H2 ++ M1 ++ (x.2.2 ++ maps L2)) (by rw [e]; simp only [List.append_assoc]) (by simp only [List.length_append, be16_len]; omega)]
    omega
  have hb : b.length = 4 + 8 * n + M1.length + (x.2.2.length + (maps L2).length) := by
    rw [e]; simp only [List.length_append, be16_len, be32_len, hh, hh2]; omega
  refine ⟨a1, a2, a3, hb, ?_⟩
  rw [e]
  rw [List.drop_left' (by simp only [List.length_append, be16_len, be32_len, hh, hh2]; omega)]
noncomputable def offs : List (Int × Int × List UInt8) → List (Int × Int × List UInt8) → Int → List (Int × Int × Int)
  | _, [], _ => []
  | pre, x :: r, o => (x.1, x.2.1, o + (maps pre).length) :: offs (pre ++ [x]) r o
theorem offs_app : ∀ (L1 L2 pre : List (Int × Int × List UInt8)) (o : Int), offs pre (L1 ++ L2) o = offs pre L1 o ++ offs (pre ++ L1) L2 o
  | [], L2, pre, o => by rw [List.append_nil]; rfl
  | x :: r, L2, pre, o => by rw [List.cons_append, offs, offs, offs_app r, List.append_assoc]; rfl
theorem offs_len : ∀ (L pre : List (Int × Int × List UInt8)) (o : Int), (offs pre L o).length = L.length
  | [], _, _ => rfl
  | x :: r, pre, o => congrArg (· + 1) (offs_len r _ o)
theorem cm_head {L : List (Int × Int × List UInt8)} (hl : L.length ≤ 10) : rd16 (wcm L) 2 = L.length := by
  unfold wcm
  rw [rd16_at (p := 2) (n := L.length) (A := be16 0) (B := hdrs L (4 + 8 * (L.length : Int)) ++ maps L) (by simp only [List.append_assoc]) rfl]
  omega
theorem cm_rows {L : List (Int × Int × List UInt8)} (ok : ∀ x ∈ L, (0 ≤ x.1 ∧ x.1 < 65536) ∧ 0 ≤ x.2.1 ∧ x.2.1 < 65536) (hl : L.length ≤ 10) (hm : (maps L).length ≤ 200000) : ((List.range L.length).map fun (i : Nat) => (rd16 (wcm L) (4 + 8 * (i : Int)), rd16 (wcm L) (6 + 8 * (i : Int)), rd32 (wcm L) (8 + 8 * (i : Int)))) = offs [] L (4 + 8 * (L.length : Int)) := by
  refine List.ext_getElem? fun i => ?_
  by_cases hi : i < L.length
  · obtain ⟨L1, L2, e, h1⟩ := split_at (List.getElem?_eq_getElem hi)
    have hx := ok _ (List.getElem_mem hi)
    obtain ⟨a1, a2, a3, -⟩ := cm_row e hx.1 hx.2 hl hm h1.symm
    rw [List.getElem?_map, List.getElem?_range hi]
    show some (_, _, _) = _
    rw [a1, a2, a3]
    generalize hn : 4 + 8 * (L.length : Int) = o
    generalize hz : L[i] = x at *
    rw [e, offs_app, List.getElem?_append_right (by rw [offs_len]; exact Nat.le_of_eq h1), offs_len, h1, Nat.sub_self]
    rfl
  · rw [List.getElem?_eq_none (by rw [List.length_map, List.length_range]; omega), List.getElem?_eq_none (by rw [offs_len]; omega)]
theorem cm_found {L L1 L2 : List (Int × Int × List UInt8)} {x : Int × Int × List UInt8} {v : V} (hL : L = L1 ++ x :: L2) (ok : ∀ x ∈ L, (0 ≤ x.1 ∧ x.1 < 65536) ∧ 0 ≤ x.2.1 ∧ x.2.1 < 65536) (hl : L.length ≤ 10) (hm : (maps L).length ≤ 200000)
    (hp : (pick (offs [] L (4 + 8 * (L.length : Int)))).getD ((offs [] L (4 + 8 * (L.length : Int))).headD (0, 0, 0)) = (x.1, x.2.1, 4 + 8 * (L.length : Int) + (maps L1).length)) (hv : isPlainV v = true) (hrd : Ret cw_read_map [.bytes (x.2.2 ++ maps L2)] v) : Ret cw_read_cmap [.bytes (wcm L)] v := by
  have hx := ok x (hL ▸ List.mem_append_right _ (List.mem_cons_self ..))
  obtain ⟨-, -, -, a4, a5⟩ := cm_row hL hx.1 hx.2 hl hm rfl
  have ll : L.length = L1.length + 1 + L2.length := by rw [hL, List.length_append, List.length_cons]; omega
  have ml : (maps L1).length + (x.2.2.length + (maps L2).length) = (maps L).length := by rw [hL, maps_app, List.length_append]; congr 1; exact (List.length_append ..).symm
  refine c_rcmap (c_rows (cm_head hl) (by omega) (by omega) (cm_rows ok hl hm)) (by omega) (fun e => ?_) (by rw [offs_len]; omega) hp (by show (0 : Int) ≤ 4 + 8 * (L.length : Int) + (maps L1).length; omega) (by show 4 + 8 * (L.length : Int) + (maps L1).length ≤ _; omega) hv (by rw [show ((x.1, x.2.1, 4 + 8 * (L.length : Int) + (maps L1).length) : Int × Int × Int).2.2 = 4 + 8 * (L.length : Int) + (maps L1).length from rfl, a5]; exact hrd)
  have := congrArg List.length e
  rw [offs_len] at this
  rw [this] at ll
  exact absurd ll.symm (by rw [List.length_nil]; omega)

noncomputable def dFar : List (Int × Int) := [(65536, 5), (65537, 6), (1114111, 9)]
noncomputable def dOth : List (Int × Int) := [(7, 3), (9, 4)]
noncomputable def dUne : List (Int × Int) := [(5, 1), (7, 3), (8, 9), (65534, 6), (65535, 2)]
noncomputable def dSho : List (Int × Int) := [(5, 1), (7, 9)]
theorem far_d : Dict dFar := ⟨by decide, by decide, by decide⟩
theorem oth_d : Dict dOth := ⟨by decide, by decide, by decide⟩
theorem une_d : Dict dUne := ⟨by decide, by decide, by decide⟩
theorem sho_d : Dict dSho := ⟨by decide, by decide, by decide⟩
noncomputable def wFar : List UInt8 := w12 (grps dFar (dFar.map (·.1)))
noncomputable def wOth : List UInt8 := w6 dOth 7 3
theorem far_w : Ret cw_write_map [.int 12, .dict dFar] (.bytes wFar) := wr_12 far_d
theorem oth_w : Ret cw_write_map [.int 6, .dict dOth] (.bytes wOth) := wm_6 (c_w6 (L := 9) rfl (by decide) (by decide) (by decide) rfl (.inr ⟨[9], [7], rfl, rfl⟩))
theorem far_r (rest : List UInt8) (hr : rest.length ≤ 100000) : ∃ f, Tells (Str.ofString "GroupMap") f (gl dFar) ∧ Ret cw_read_map [.bytes (wFar ++ rest)] (.inst (Str.ofString "GroupMap") f) := F12 far_d rest hr
theorem oth_r (rest : List UInt8) (hr : rest.length ≤ 100000) : ∃ f, Tells (Str.ofString "TrimmedMap") f (gl dOth) ∧ Ret cw_read_map [.bytes (wOth ++ rest)] (.inst (Str.ofString "TrimmedMap") f) := F6 oth_d 7 3 (by decide) (by decide) (by decide) rest hr
theorem far_len : wFar.length = 40 := by decide +kernel
theorem oth_len : wOth.length = 16 := by decide +kernel
/-- the table of the law: written from the rows, read, and right for the best map -/
noncomputable def TableOK (rows : List (Int × Int × List UInt8)) (best : List (Int × Int)) : Prop := ∃ T C f g, Ret cw_write_cmap [.list (rows.map rowV)] (.bytes T) ∧ Ret cw_read_cmap [.bytes T] (.inst C f) ∧ Tells C f g ∧ ∀ c ∈ beside best ++ [7, 9], g c = gl best c
noncomputable def wS4 : List UInt8 := w4 dSho [(5, 5), (7, 7), (65535, 65535)]
noncomputable def wS12 : List UInt8 := w12 (grps dSho (dSho.map (·.1)))
theorem sho_4 : Ret cw_write_map [.int 4, .dict dSho] (.bytes wS4) :=
  wm_4 (c_w4 (R0 := [(5, 5), (7, 7)]) (by decide) rfl (by decide) (by decide) (by decide) (by
    intro p hp
    have one : ∀ a : Int, 0 ≤ a → a < 65535 → dget dSho a = some (gl dSho a) → 0 ≤ a ∧ a ≤ a ∧ a < 65535 ∧ a - a < 60 ∧ ∀ c, a ≤ c → c ≤ a → dget dSho c = some (gl dSho c) := fun a h0 h1 h => ⟨h0, Int.le_refl _, h1, by omega, fun c h2 h3 => by rw [Int.le_antisymm h3 h2]; exact h⟩
    rcases List.mem_cons.mp hp with rfl | hp
    · exact one 5 (by decide) (by decide) rfl
    · rw [List.mem_singleton.mp hp]; exact one 7 (by decide) (by decide) rfl))
theorem sho_12 : Ret cw_write_map [.int 12, .dict dSho] (.bytes wS12) := wr_12 sho_d
theorem short_len : 20 ≤ wS4.length ∧ wS4.length ≤ 1000 ∧ 20 ≤ wS12.length ∧ wS12.length ≤ 1000 := by decide +kernel
theorem fell_two : Exc cw_read_map [.bytes twoBytes] := x_2 (by decide +kernel) (by decide +kernel)
theorem fell4 (b : List UInt8) (h : rd16 b 0 = 4 ∧ rd16 b 6 / 2 = (3 : Nat) ∧ 8 ≤ b.length ∧ b.length < 24) : Exc cw_read_map [.bytes b] := x_4 h.1 (by omega) (seg_exc 3 h.2.1 h.2.2.1 (by omega) (by decide) (by decide) h.2.2.2)
theorem fell12 (b : List UInt8) (h : rd16 b 0 = 12 ∧ b.length ≤ 1000 ∧ (b.length : Int) < 16 + 12 * rd32 b 12 ∧ (rd32 b 12).natAbs ≤ 100000000 ∨ rd16 b 0 = 12 ∧ b.length < 16 ∧ (rd32 b 12).natAbs ≤ 100000000) : Exc cw_read_map [.bytes b] := by
  rcases h with ⟨h1, h2, h3, h4⟩ | ⟨h1, h2, h4⟩
  · exact x_12 h1 (by omega) (grp_exc h2 (fun _ => h3) h4)
  · exact x_12 h1 (by omega) (grp_exc (by omega) (fun h => by omega) h4)
theorem fell_short : ∀ k ∈ [0, 1, 15, 20], Exc cw_read_map [.bytes (wS4.take k)] ∧ Exc cw_read_map [.bytes (wS12.take k)] := by
  intro k hk
  simp only [List.mem_cons, List.not_mem_nil, or_false] at hk
  rcases hk with rfl | rfl | rfl | rfl
  · exact ⟨x_short (by decide +kernel), x_short (by decide +kernel)⟩
  · exact ⟨x_short (by decide +kernel), x_short (by decide +kernel)⟩
  · exact ⟨fell4 _ (by decide +kernel), fell12 _ (.inr (by decide +kernel))⟩
  · exact ⟨fell4 _ (by decide +kernel), fell12 _ (.inl (by decide +kernel))⟩
theorem tab {rs L L1 L2 : List (Int × Int × List UInt8)} {x : Int × Int × List UInt8} {best : List (Int × Int)} {C : Str} {f : List (Str × V)} {g : Int → Int} (hL : L = L1 ++ x :: L2) (h1 : apart rs = true) (h2 : 2 ≤ rs.length) (h3 : rs.length ≤ 3) (hs : rowSort rs = L) (hl : L.length = rs.length) (ok : (L.all fun x => decide (0 ≤ x.1) && decide (x.1 < 65536) && (decide (0 ≤ x.2.1) && decide (x.2.1 < 65536))) = true) (hm : (maps L).length ≤ 100000)
    (hp : (pick (offs [] L (4 + 8 * (L.length : Int)))).getD ((offs [] L (4 + 8 * (L.length : Int))).headD (0, 0, 0)) = (x.1, x.2.1, 4 + 8 * (L.length : Int) + (maps L1).length)) (hT : Tells C f g) (hrd : Ret cw_read_map [.bytes (x.2.2 ++ maps L2)] (.inst C f)) (hg : ∀ c ∈ beside best ++ [7, 9], g c = gl best c) : TableOK rs best :=
  ⟨_, C, f, g, c_wcmap h1 h2 h3 hs hl hm, cm_found hL (fun x hx => by
    have := List.all_eq_true.mp ok x hx
    simp only [Bool.and_eq_true, decide_eq_true_eq] at this
    exact this) (by omega) (by omega) hp rfl hrd, hT, hg⟩
theorem table1 {d : List (Int × Int)} (h : Good d) : ∃ w, Ret cw_write_map [.int 4, .dict d] (.bytes w) ∧ TableOK [(3, 1, w), (1, 0, wOth)] d ∧ ∀ a b, (a, b) ∈ [((3 : Int), (10 : Int)), (0, 4), (0, 3)] → TableOK [(a, b, wFar), (3, 1, w), (1, 0, wOth)] dFar := by
  have hD := h.dict
  obtain ⟨c0, k1, k2, k3⟩ := h.near
  obtain ⟨R, h1, h2, f, h3, h4⟩ := F4 hD
  generalize w4 d R = w at *
  have l1 := far_len
  have l2 := oth_len
  have m2 : (maps [(1, 0, wOth), (3, 1, w)]).length ≤ 20000 := by
    show (wOth ++ (w ++ [])).length ≤ 20000
    rw [List.length_append, List.length_append, l2]; show 16 + (w.length + 0) ≤ 20000; omega
  have m3 : ∀ {a b : Int}, (maps [(a, b, wFar), (1, 0, wOth), (3, 1, w)]).length ≤ 100000 := by
    intro a b
    show (wFar ++ maps [(1, 0, wOth), (3, 1, w)]).length ≤ 100000
    rw [List.length_append, l1]; omega
  refine ⟨w, wm_4 h1, ?_, fun a b hab => ?_⟩
  · refine tab (L := [(1, 0, wOth), (3, 1, w)]) (L1 := [(1, 0, wOth)]) (L2 := []) (x := (3, 1, w)) rfl rfl (Nat.le_of_ble_eq_true rfl) (Nat.le_of_ble_eq_true rfl) rfl rfl rfl (Nat.le_trans m2 (Nat.le_of_ble_eq_true rfl)) (by kernel_rfl) h3 (by rw [show (3, 1, w).2.2 ++ maps [] = w from List.append_nil w]; exact h4) fun c hc => ?_
    show (if c < 65535 then gl d c else 0) = gl d c
    split
    · rfl
    · exact (far_0 (fun p hp => (k3 p hp).2.2.1) (by omega)).symm
  · obtain ⟨f, r1, r2⟩ := far_r (maps [(1, 0, wOth), (3, 1, w)]) (Nat.le_trans m2 (Nat.le_of_ble_eq_true rfl))
    obtain ⟨f', r1', r2'⟩ := far_r [] (Nat.le_of_ble_eq_true rfl)
    simp only [List.mem_cons, List.not_mem_nil, or_false, Prod.mk.injEq] at hab
    rcases hab with ⟨rfl, rfl⟩ | ⟨rfl, rfl⟩ | ⟨rfl, rfl⟩
    · exact tab (L := [(1, 0, wOth), (3, 1, w), (3, 10, wFar)]) (L1 := [(1, 0, wOth), (3, 1, w)]) (L2 := []) (x := (3, 10, wFar)) rfl rfl (Nat.le_of_ble_eq_true rfl) (Nat.le_of_ble_eq_true rfl) rfl rfl rfl (by
        show (wOth ++ (w ++ (wFar ++ []))).length ≤ 100000
        rw [List.length_append, List.length_append, List.length_append, l1, l2]; show 16 + (w.length + 40) ≤ 100000; omega) (by kernel_rfl) r1' r2' fun c hc => rfl
    · exact tab (L := [(0, 4, wFar), (1, 0, wOth), (3, 1, w)]) (L1 := []) (L2 := [(1, 0, wOth), (3, 1, w)]) (x := (0, 4, wFar)) rfl rfl (Nat.le_of_ble_eq_true rfl) (Nat.le_of_ble_eq_true rfl) rfl rfl rfl m3 (by kernel_rfl) r1 r2 fun c hc => rfl
    · exact tab (L := [(0, 3, wFar), (1, 0, wOth), (3, 1, w)]) (L1 := []) (L2 := [(1, 0, wOth), (3, 1, w)]) (x := (0, 3, wFar)) rfl rfl (Nat.le_of_ble_eq_true rfl) (Nat.le_of_ble_eq_true rfl) rfl rfl rfl m3 (by kernel_rfl) r1 r2 fun c hc => rfl
/-- the last table: no row of a known platform -/
theorem table2 : ∃ T f, Ret cw_write_cmap [.list [.tup [.int 9, .int 9, .bytes wFar], .tup [.int 9, .int 8, .bytes wOth]]] (.bytes T) ∧ Ret cw_read_cmap [.bytes T] (.inst (Str.ofString "TrimmedMap") f) ∧ Tells (Str.ofString "TrimmedMap") f (gl dOth) := by
  have l1 := far_len
  have l2 := oth_len
  obtain ⟨f, r1, r2⟩ := oth_r (maps [(9, 9, wFar)]) (by show (wFar ++ []).length ≤ _; rw [List.length_append, l1]; exact (Nat.le_of_ble_eq_true rfl))
  have hm : (maps [(9, 8, wOth), (9, 9, wFar)]).length ≤ 100000 := by
    show (wOth ++ (wFar ++ [])).length ≤ 100000
    rw [List.length_append, List.length_append, l1, l2]; exact (Nat.le_of_ble_eq_true rfl)
  refine ⟨_, f, c_wcmap (rs := [(9, 9, wFar), (9, 8, wOth)]) (L := [(9, 8, wOth), (9, 9, wFar)]) rfl (Nat.le_of_ble_eq_true rfl) (Nat.le_of_ble_eq_true rfl) rfl rfl hm, cm_found (L1 := []) (L2 := [(9, 9, wFar)]) (x := (9, 8, wOth)) rfl (fun x hx => ?_) (Nat.le_of_ble_eq_true rfl) (Nat.le_trans hm (Nat.le_of_ble_eq_true rfl)) (by kernel_rfl) rfl r2, r1⟩
  rcases List.mem_cons.mp hx with rfl | hx
  · decide
  · rw [List.mem_singleton.mp hx]; decide

section
variable {hp : List V} {k : Prop} {A B : Prop} {X : Prop} {K : V → List V → Prop}
variable {a b : Int} {pl tb pk be ro to fa un co ot sc : V}
theorem L21 {w : List UInt8} (hw : ∀ k ∈ [0, 1, 15, 20], Exc cw_read_map [.bytes (w.take k)]) (hl : 20 ≤ w.length ∧ w.length ≤ 1000) (ha : 0 ≤ a) (hb : 0 ≤ b) : w_law_21 1 (.bytes w) pl tb pk be ro to fa un co ot (.ref 0) sc (src a b []) := by
  dsimp only [eV, lLast, aNil, aCons, eList, eCutH, eCall, wB_bytes, w_law_21]
  refine ⟨guard_t rfl (c_oneI (L := [0, 1, 15, 20]) ha hb (Nat.le_of_ble_eq_true rfl) (Nat.le_of_ble_eq_true rfl) fun k hk a b _ _ => ?_), fell_two _ _ _ trivial⟩
  dsimp only [wI_int]
  have h : (0 ≤ k ∧ k ≤ 20) ∧ k.toNat ∈ [0, 1, 15, 20] := by
    simp only [List.mem_cons, List.not_mem_nil, or_false] at hk ⊢
    omega
  exact ⟨by omega, _, rfl, hw _ h.2 _ _ _ trivial⟩
theorem L20 (ha : 0 ≤ a) (hb : 0 ≤ b) : w_law_20 1 pl tb pk be ro to fa un co ot (.ref 0) sc (src a b []) := by
  dsimp only [eV, lSeq, aNil, aCons, eList, eCall, sSet, w_law_20]
  refine guard_t rfl (c_oneI (L := [4, 12]) ha hb (Nat.le_of_ble_eq_true rfl) (Nat.le_of_ble_eq_true rfl) fun k hk a b ha hb => ?_)
  skip
  obtain ⟨l1, l2, l3, l4⟩ := short_len
  rcases List.mem_cons.mp hk with rfl | hk
  · exact sho_4 _ _ _ (L21 (fun k hk => (fell_short k hk).1) ⟨l1, l2⟩ ha hb)
  · rw [List.mem_singleton.mp hk]
    exact sho_12 _ _ _ (L21 (fun k hk => (fell_short k hk).2) ⟨l3, l4⟩ ha hb)
/-- a thing is asked in turn -/
theorem e_asked {C : Str} {f : List (Str × V)} {g : Int → Int} {L : List Int} (hT : Tells C f g) (h0 : ∀ c ∈ L, 0 ≤ c ∧ c ≤ 2000000) (w : K (.list ((L.map g).map V.int)) hp) : compK sp1 (fun _ => tT) (fun c => eFind cFind (eV (.inst C f)) (aCons (eV c) aNil)) K X hp (L.map V.int) :=
  comp_map (fun c => V.int c) (fun c => .int (g c)) (fun _ _ w => w) (fun c hc K' q => ⟨hT.1, hT.2 c (h0 c hc).1 (h0 c hc).2 _ _ _ q⟩) (fun _ => rfl) (by rw [List.map_map] at w; exact w)
theorem L18 (ha : 0 ≤ a) (hb : 0 ≤ b) : w_law_18 1 tb pk be ro to (.dict dFar) un co (.dict dOth) (.ref 0) sc (src a b []) := by
  obtain ⟨T, f, h1, h2, h3⟩ := table2
  dsimp only [eV, lSeq, aNil, aCons, eList, eTup, eCall, sSet, w_law_18]
  refine far_w _ _ _ (guard_t rfl (oth_w _ _ _ (guard_t rfl (guard_t rfl (h1 _ _ _ (h2 _ _ _ ?_))))))
  dsimp only [eV, lSeq, tCmp, aNil, aCons, eList, sEnd, sRet, sIf, lk_list, w_law_19]
  refine comp_def ?_
  dsimp only [eV, wItems_list, aNil, aCons, eList]
  refine guard_t rfl ⟨(Nat.le_of_ble_eq_true rfl), e_asked (L := [6, 7, 8, 9, 10]) h3 (by decide) ?_⟩
  exact guard_t rfl ⟨[6, 7, 8, 9, 10].map (gl dOth), [0, 3, 0, 4, 0], rfl, rfl, br_f (by decide +kernel) (L20 ha hb)⟩
theorem L15 {rows : List (Int × Int × List UInt8)} {best : List (Int × Int)} (hl : rows.length ≤ 1000) (ht : TableOK rows.reverse best) (hd : best.length ≤ 63) (h0 : ∀ c ∈ beside best, 0 ≤ c ∧ c ≤ 2000000) (ha : 0 ≤ a) (hb : 0 ≤ b) : w_law_15 1 pk (.dict best) (.list (rows.map rowV)) to (.dict dFar) un co (.dict dOth) (.ref 0) sc (src a b []) := by
  obtain ⟨T, C, f, g, h1, h2, h3, h4⟩ := ht
  have lb : (beside best).length ≤ 200 := by unfold beside; rw [List.length_append, fm3_len]; show 3 + 3 * best.length ≤ 200; omega
  dsimp only [eV, lSeq, aNil, aCons, eRev, eCall, sSet, wL_list, w_law_15]
  rw [List.length_map, ← List.map_reverse]
  refine ⟨hl, h1 _ _ _ (h2 _ _ _ ?_)⟩
  dsimp only [lSeq, w_law_16]
  refine for_def ?_
  dsimp only [eV, wItems_list, eBin, aNil, aCons, eList, fAddL, eCall, wL_list, lk_list]
  refine c_beside hd _ _ _ (guard_t rfl ?_)
  dsimp only [wL_list, lk_list]
  rw [show ((beside best).map V.int ++ [V.int 7, V.int 9]) = (beside best ++ [7, 9]).map V.int by rw [List.map_append]; rfl, List.length_map, List.length_map, List.length_append]
  refine ⟨by show (beside best).length + 2 ≤ 1000000; omega, by show (beside best).length + 2 ≤ 1000000; omega, for_keep (fun c => V.int c) (fun _ _ w => w) (fun c hc Kn' q => ?_) (L18 ha hb)⟩
  have hc0 : 0 ≤ c ∧ c ≤ 2000000 := (List.mem_append.mp hc).elim (h0 c) fun h => by
    rcases List.mem_cons.mp h with rfl | h
    · decide
    · rw [List.mem_singleton.mp h]; decide
  dsimp only [eV, tCmp, aNil, aCons, cNe, eGet, eFind, sEnd, sRet, sIf, wI_int, wD_dict, wO_inst, w2_two, lk_int, w_law_17]
  exact ⟨h3.1, h3.2 c hc0.1 hc0.2 _ _ _ (bn (be_t (h4 c hc) q))⟩
theorem L9 {d : List (Int × Int)} {f} (h : Good d) (hT : Tells (Str.ofString "GroupMap") f (gl dFar)) (ha : 0 ≤ a) (hb : 0 ≤ b) : w_law_9 1 (.inst (Str.ofString "GroupMap") f) (.dict dFar) un (.dict d) (.dict dOth) (.ref 0) sc (src a b []) := by
  obtain ⟨w, w1, t1, t2⟩ := table1 h
  have hD := h.dict
  dsimp only [eV, lSeq, tCmp, aNil, aCons, eList, sEnd, sRet, sIf, lk_list, w_law_9]
  refine comp_def ?_
  dsimp only [eV, wItems_list, aNil, aCons, eList]
  refine guard_t rfl ⟨(Nat.le_of_ble_eq_true rfl), e_asked (L := [65535, 65536, 65537, 65538, 1114111]) hT (by decide) ?_⟩
  refine guard_t rfl ⟨[65535, 65536, 65537, 65538, 1114111].map (gl dFar), [0, 5, 6, 0, 9], rfl, rfl, br_f (by decide +kernel) ?_⟩
  dsimp only [eV, lSeq, aNil, aCons, eList, eTup, eCall, sSet, w_law_10]
  refine oth_w _ _ _ (guard_t rfl (w1 _ _ _ (guard_t rfl (guard_t rfl ?_))))
  dsimp only [eV, lSeq, aNil, aCons, eList, eTup, eCall, sSet, w_law_11, w_law_12]
  refine guard_t rfl (guard_t rfl (guard_t rfl (guard_t rfl (c_one (L := [.none, .tup [.int 3, .int 10], .tup [.int 0, .int 4], .tup [.int 0, .int 3]]) ha hb (Nat.le_of_ble_eq_true rfl) (Nat.le_of_ble_eq_true rfl) ?_ fun v hv a b ha hb => ?_))))
  · intro v hv
    simp only [List.mem_cons, List.not_mem_nil, or_false] at hv
    rcases hv with rfl | rfl | rfl | rfl <;> rfl
  have some_row : ∀ x y : Int, (x, y) ∈ [((3 : Int), (10 : Int)), (0, 4), (0, 3)] → w_law_13 1 (.tup [.int x, .int y]) (.dict d) (.list [rowV (1, 0, wOth), rowV (3, 1, w)]) (.inst (Str.ofString "GroupMap") f) (.dict dFar) un (.dict d) (.dict dOth) (.ref 0) sc (src a b []) := fun x y hxy => by
    dsimp only [eV, lSeq, tCmp, cNone, sEnd, sIf, wN_none, lk_tup, lk_none, w_law_13]
    refine br_t rfl ?_
    dsimp only [eV, eBin, aNil, aCons, eList, eTup, fAddL, iT, eItem, eCall, sSeq, sEnd, sTup2, wI_int, wL_list, wT_tup, lk_list, lk_tup, w_law_14]
    refine ⟨(Nat.le_of_ble_eq_true rfl), ix_0 ⟨(Nat.le_of_ble_eq_true rfl), ix_1 (far_w _ _ _ (guard_t rfl (guard_t rfl ⟨(Nat.le_of_ble_eq_true rfl), ?_⟩)))⟩⟩
    exact L15 (rows := [(1, 0, wOth), (3, 1, w), (x, y, wFar)]) (Nat.le_of_ble_eq_true rfl) (t2 x y hxy) (Nat.le_of_ble_eq_true rfl) (beside_b far_d) ha hb
  simp only [List.mem_cons, List.not_mem_nil, or_false] at hv
  rcases hv with rfl | rfl | rfl | rfl
  · dsimp only [eV, lSeq, tCmp, cNone, sEnd, sIf, wN_none, lk_none, w_law_13]
    exact br_f rfl (L15 (rows := [(1, 0, wOth), (3, 1, w)]) (Nat.le_of_ble_eq_true rfl) t1 (Nat.le_trans h.len (Nat.le_of_ble_eq_true rfl)) (beside_b hD) ha hb)
  · exact some_row 3 10 (by decide)
  · exact some_row 0 4 (by decide)
  · exact some_row 0 3 (by decide)
theorem L1 {zs : List Int} (hz : zs.length ≤ 63) : w_law_1 1 (.list (zs.map V.int)) [] := by
  dsimp only [eV, lSeq, aNil, aCons, eCall, sSet, w_law_1]
  refine c_pool hz fun a b ha hb => ?_
  dsimp only [eV, lSeq, aNil, aCons, eCall, sTup2, w_law_2]
  refine c_codes ha hb fun d a b ha hb h => ?_
  dsimp only [lSeq, w_law_3]
  refine for_def ?_
  dsimp only [eV, wItems_list, aNil, aCons, eList, eCall]
  refine guard_t rfl (c_oneI (L := [0, 6]) ha hb (Nat.le_of_ble_eq_true rfl) (Nat.le_of_ble_eq_true rfl) fun x hx a b ha hb => guard_t rfl ⟨(Nat.le_of_ble_eq_true rfl), ?_⟩)
  show forK () sp1 _ _ _ _ ([x, 4, 12].map V.int)
  refine for_keep (fun c => V.int c) (fun _ _ w => w) (fun c hc Kn' q => ?_) ?_
  · have hc : c = 0 ∨ c = 6 ∨ c = 4 ∨ c = 12 := by
      simp only [List.mem_cons, List.not_mem_nil, or_false] at hc hx
      omega
    obtain ⟨w, C, f, h1, h2, h3⟩ := form_ok h c hc
    dsimp only [eV, tCmp, tE, tNot, eIf, aNil, aCons, cEq, eCall, sEnd, sRet, sIf, wI_int, lk_int, w_law_4]
    refine h1 _ _ _ (h2 _ _ _ (be (fun e => ?_) fun e => ?_))
    · rw [if_pos e] at h3
      exact h3 _ _ _ (br_f rfl q)
    · rw [if_neg e] at h3
      exact h3 _ _ _ (br_f rfl q)
  · obtain ⟨w, C, f, h1, h2, h3⟩ := ok4 une_d 65534 (.inl rfl)
    obtain ⟨f', t1, t2⟩ := far_r [] (Nat.le_of_ble_eq_true rfl)
    rw [List.append_nil] at t2
    dsimp only [eV, lSeq, tE, tNot, aNil, aCons, eCall, sEnd, sSet, sRet, sIf, w_law_5, w_law_6]
    refine h1 _ _ _ (h2 _ _ _ (h3 _ _ _ (br_f rfl ?_)))
    dsimp only [eV, lSeq, aNil, aCons, eCall, sSet, w_law_7, w_law_8]
    exact far_w _ _ _ (t2 _ _ _ (L9 h t1 ha hb))
end

theorem well_list {P : Params} {h : Heap} {a : Addr} {zs : List Int} (x : Well P h (.ref a) (ofPy (PyData.list (zs.map PyData.int)))) {vs : List Value} (hl : h.IsList a vs.toArray) : h.get? a = some ⟨.type "list", none, .seq vs.toArray 0, #[]⟩ := by
  cases x with
  | list e r =>
    obtain ⟨o, e2, _, n, e3⟩ := hl
    rw [e] at e2; cases e2
    cases e3
    exact e
theorem law_said : PySem.Challenge.rw_nu0024_01.wellSaid = true := by
  unfold OpenLaw.wellSaid OpenRow.wellSaid OpenRow.partSaid looksOpen
  repeat' (with_reducible refine PySem.W.look_both ?_ ?_)
  all_goals decide +kernel
end Mine
local macro_rules | `(tactic| k_qdec) => `(tactic| kernel_rfl)
theorem PySem.Challenge.cw_nu0024_01_holds : PySem.Challenge.rw_nu0024_01.Holds := by
  w_on
  refine PySem.W.holds_law Mine.law_said fun said => ?_
  refine PySem.W.holds_open (q := Mine.view) (loose := []) (Xt := fun s => xlAt Mine.view [] s && recOk (RowW.records _) s) (XP := XL Mine.view []) (Yf := Hook.obs Mine.HK) (Ya := Hook.val Mine.HK) (YP := Hook.says Mine.HK) (N := 4784) Mine.left (Hook.of Mine.HK) (Hook.keeps Mine.HK) (fun s e => xl_of s (Bool.and_eq_true_iff.mp e).1) XL.keeps (by rfl) (by rfl) (by rfl) (fun s e => recFacts_of (Bool.and_eq_true_iff.mp e).2) (by rfl) (by first | assumption | decide +kernel) (by decide +kernel) ⟨rfl, rfl, rfl, rfl, rfl, by decide +kernel⟩ ?hw ?hc
  case hw => w_witness2
  case hc =>
    k_go0
    rename_i hW hR0 hI _ hC1 hC2 hK0 hD1 h1 tk1 hF oa ob hoa hob hN hX
    refine Mine.connect (C := ⟨_, _, Mine.kP _, _, _, _, _, _, _, by assumption, topRead_of (by assumption)⟩) (n := 40) (Mine.gok rfl) (Mine.excok rfl) rfl rfl rfl rfl rfl rfl rfl ?_ hF hN hoa hob (by assumption) rfl (Mine.well_list hW (by assumption)) hI rfl rfl (by decide) (Mine.d_law (Mine.gok rfl) (Mine.excok rfl) _) (Mine.L1 ?_) ?_
    · first | rfl | decide +kernel
    · omega
    · intro s' low
      exact ⟨.inl ⟨.bool true, .bool true, [], rfl, fun _ => rfl, .bool true, by first | rfl | kernel_rfl | (with_unfolding_all rfl) | (simp; done), fun _ => ⟨.nil, fun a ha => by cases ha⟩⟩, low.base, low.os, low.gens⟩
