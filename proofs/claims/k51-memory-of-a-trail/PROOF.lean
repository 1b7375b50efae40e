import PyProof.Rows.All
import Wide.All
import OpenK.AllK
import Wide.FinOn
import HandS.ForMost
import HandS.ForExc
import HandS.DictTup
import HandS.SortKw
import HandS.Deep
import HandS.Defaults
import HandS.IsInst
import KE.KDictKeyed
import KE.KLam
import HandS.Wide
import HandS.TupAny
import HandS.Text
import HandS.Comp
import HandS.Rev
import HandS.Zip
import HandS.Small
import HandS.HeadHook2
import HandS.Iter
import HandS.ClsMeth
import HandS.ExcIs
import HandS.HeadHook4
import HandS.HeadEnd
import HandS.Ends
import HandS.Head0
import HandS.Head1
import HandS.Head2
import KE.KDictList
import HandS.Conv
import KE.KDictSum
import HandS.RevRange
import PyProof.FactsAll.range_iterator_1
import KE.KDictDisplayH
import HandS.ExcValue
import HandS.Exc
import KE.KItemsList
import KE.KDictOf
import HandS.SetFor
import KE.SortCalls
import KE.SortData
import KE.SortKeyHeap
import KE.SortLaws
import HandS.Lambda
import HandS.EndTab
import PySem.Challenge.RW_linewarden_k51_memory_behind_a_trail
set_option Elab.async false
set_option linter.all false
set_option maxRecDepth 100000
set_option maxHeartbeats 4000000
set_option synthInstance.maxSize 20000
set_option synthInstance.maxHeartbeats 4000000
namespace VL
open PySem L2 PyProof.Rows
abbrev cAK (K : PySem.W.Frag) (C : String) : Addr := He.ga K (Str.ofString C)
def ktpB (K : PySem.W.Frag) (x : String) (xs : List String) : Bool := match K.lookup (cAK K x) with
  | some ⟨.type "tuple", none, .seq its _, _⟩ => decide (its.size ≤ sizeLine) && He.relAll (xs.map fun z => V.str (Str.ofString z)) its.toList
  | _ => false
def clsB (K : PySem.W.Frag) (C m : String) : Bool := PySem.W.readsIn K (cAK K C) (.type "type") && (He.eqO (PySem.W.specialIn K (.ref (cAK K C)) "__getattribute__") (some (some (.builtin "type.__getattribute__"))) &&
  (match PySem.W.findCls K (.ref (cAK K C)) (.type "type") (Str.ofString m) with
    | some (.val (.ref a)) => decide (a = He.fAd K (Str.ofString C, some (Str.ofString m)))
    | _ => false))
def sameB (K : PySem.W.Frag) (C D m : String) : Bool := decide (He.ma K (cAK K C) (Str.ofString m) = He.ma K (cAK K D) (Str.ofString m))
structure SaysY (fa : List He.Fa) (fn : List He.DefD) (ex : PySem.W.Frag → Bool) (K : PySem.W.Frag) : Prop where
  d : He.SaysD fa fn K
  more : ex K = true
abbrev AlY : Type := He.AlD × Bool
def frY (g : Addr → Option Obj) (n : Nat) : PySem.W.Frag := He.frT g (cStatics :: He.asD g n)
def obsY (n : Nat) (fa : List He.Fa) (fn : List He.DefD) (ex : PySem.W.Frag → Bool) (g : Addr → Option Obj) : AlY := (He.obsD fa fn (frY g n), ex (frY g n))
def hookY (n : Nat) (fa : List He.Fa) (fn : List He.DefD) (ex : PySem.W.Frag → Bool) : PySem.W.Hook where
  α := AlY
  obs := fun s => obsY n fa fn ex s.heap.get?
  val := fun _ => (He.valD fn, true)
  says := fun _ h => ∃ K : PySem.W.Frag, K.In h ∧ SaysY fa fn ex K
  of := fun _ _ e => ⟨_, He.frT_in, ⟨congrArg (fun z : AlY => z.1) e, congrArg (fun z : AlY => z.2) e⟩⟩
  keeps := fun _ _ _ ⟨K, hK, c⟩ k => ⟨K, PySem.W.Frag.In.keeps hK k, c⟩
abbrev defd (k : Str × Option Str) (n q : Str) (s : Stmt) : He.DefD := ⟨k, n, q, defArgs s, defBody s, defScope s, [], []⟩
end VL
namespace K51
open PySem L2 PyProof.Rows VL
noncomputable section
def top (i : Nat) : Stmt := PySem.Challenge.pw_linewarden_k51_memory_behind_a_trail.main.body.getD i (.Pass ⟨0, 0, 0, 0⟩)
abbrev s_Deed___init__ : Stmt := inClass (top 6) 0
abbrev s_WriteDeed___init__ : Stmt := inClass (top 8) 0
abbrev s_AddDeed___init__ : Stmt := inClass (top 9) 0
abbrev s_SwapDeed___init__ : Stmt := inClass (top 10) 0
abbrev s_is_whole : Stmt := top 5
abbrev s_deed_of : Stmt := top 11
abbrev s_Deed_behind : Stmt := inClass (top 6) 3
abbrev s_WriteDeed_behind : Stmt := inClass (top 8) 1
abbrev s_AddDeed_behind : Stmt := inClass (top 9) 1
abbrev s_SwapDeed_behind : Stmt := inClass (top 10) 1
abbrev s_Deed_place : Stmt := inClass (top 6) 1
abbrev s_walked : Stmt := top 13
abbrev s_memory_of : Stmt := top 14
abbrev s_L_whole : Stmt := top 16
abbrev s_L_told : Stmt := top 20
abbrev s_L_value : Stmt := top 17
abbrev s_L_deed : Stmt := top 19
abbrev s_L_behind : Stmt := top 18
abbrev s_law : Stmt := top 21
def D_Deed___init__ : He.DefD := defd ("Deed", some "__init__") "__init__" "Deed.__init__" s_Deed___init__
def D_WriteDeed___init__ : He.DefD := defd ("WriteDeed", some "__init__") "__init__" "WriteDeed.__init__" s_WriteDeed___init__
def D_AddDeed___init__ : He.DefD := defd ("AddDeed", some "__init__") "__init__" "AddDeed.__init__" s_AddDeed___init__
def D_SwapDeed___init__ : He.DefD := defd ("SwapDeed", some "__init__") "__init__" "SwapDeed.__init__" s_SwapDeed___init__
def D_is_whole : He.DefD := defd ("is_whole", none) "is_whole" "is_whole" s_is_whole
def D_deed_of : He.DefD := defd ("deed_of", none) "deed_of" "deed_of" s_deed_of
def D_Deed_behind : He.DefD := defd ("Deed", some "behind") "behind" "Deed.behind" s_Deed_behind
def D_WriteDeed_behind : He.DefD := defd ("WriteDeed", some "behind") "behind" "WriteDeed.behind" s_WriteDeed_behind
def D_AddDeed_behind : He.DefD := defd ("AddDeed", some "behind") "behind" "AddDeed.behind" s_AddDeed_behind
def D_SwapDeed_behind : He.DefD := defd ("SwapDeed", some "behind") "behind" "SwapDeed.behind" s_SwapDeed_behind
def D_Deed_place : He.DefD := defd ("Deed", some "place") "place" "Deed.place" s_Deed_place
def D_walked : He.DefD := defd ("walked", none) "walked" "walked" s_walked
def D_memory_of : He.DefD := defd ("memory_of", none) "memory_of" "memory_of" s_memory_of
def D_L_whole : He.DefD := defd ("_law_whole", none) "_law_whole" "_law_whole" s_L_whole
def D_L_told : He.DefD := defd ("_law_told", none) "_law_told" "_law_told" s_L_told
def D_L_value : He.DefD := defd ("_law_value", none) "_law_value" "_law_value" s_L_value
def D_L_deed : He.DefD := defd ("_law_deed", none) "_law_deed" "_law_deed" s_L_deed
def D_L_behind : He.DefD := defd ("_law_behind", none) "_law_behind" "_law_behind" s_L_behind
def D_law : He.DefD := defd ("law", none) "law" "law" s_law
def fn : List He.DefD := [D_Deed___init__, D_WriteDeed___init__, D_AddDeed___init__, D_SwapDeed___init__, D_is_whole, D_deed_of, D_Deed_behind, D_WriteDeed_behind, D_AddDeed_behind, D_SwapDeed_behind, D_Deed_place, D_walked, D_memory_of, D_L_whole, D_L_told, D_L_value, D_L_deed, D_L_behind, D_law]
def fa : List He.Fa := [.cls "Deed", .noat "Deed" "address", .cls "ReadDeed", .noat "ReadDeed" "address", .cls "WriteDeed", .noat "WriteDeed" "address", .cls "AddDeed", .noat "AddDeed" "address", .cls "SwapDeed", .noat "SwapDeed" "address", .noat "WriteDeed" "value", .noat "AddDeed" "value", .noat "SwapDeed" "old", .noat "SwapDeed" "new", .free "isinstance", .free "int", .free "bool", .free "tuple", .free "len", .free "str", .exc "NoDeed", .glo "NoDeed", .free "enumerate", .free "sorted", .free "list", .free "abs", .free "min", .free "range", .glo "Deed", .glo "is_whole", .mkr "ReadDeed", .glo "ReadDeed", .mkr "WriteDeed", .glo "WriteDeed", .mkr "AddDeed", .glo "AddDeed", .mkr "SwapDeed", .glo "SwapDeed", .glo "deed_of", .meth "SwapDeed" "place", .meth "AddDeed" "place", .meth "WriteDeed" "place", .meth "ReadDeed" "place", .meth "Deed" "place", .meth "SwapDeed" "behind", .meth "AddDeed" "behind", .meth "WriteDeed" "behind", .meth "ReadDeed" "behind", .meth "Deed" "behind", .glo "walked", .glo "memory_of", .glo "_law_whole", .glo "_law_value", .glo "_law_deed", .glo "_law_behind", .glo "_law_told", .glo "law"]
def exL (K : PySem.W.Frag) : List Bool := [clsB K "Deed" "__init__", sameB K "ReadDeed" "Deed" "__init__", sameB K "SwapDeed" "Deed" "place", sameB K "AddDeed" "Deed" "place", sameB K "WriteDeed" "Deed" "place", sameB K "ReadDeed" "Deed" "place", sameB K "ReadDeed" "Deed" "behind"]
def ex (K : PySem.W.Frag) : Bool := (exL K).all id
abbrev R : PySem.W.OpenRow := PySem.W.OpenLaw.row PySem.Challenge.rw_linewarden_k51_memory_behind_a_trail
abbrev hk : PySem.W.Hook := hookY 4 fa fn ex
def ob (s : PySem.W.SharedT) : AlY := obsY 4 fa fn ex (HandSHeadRun.getT s)
def loose0 : List PySem.Str := ["_wall", "WardenError", "NoDeed", "is_whole", "Deed", "ReadDeed", "WriteDeed", "AddDeed", "SwapDeed", "deed_of", "walked", "memory_of", "_law_whole", "_law_value", "_law_behind", "_law_deed", "_law_told"]
def loose : List PySem.Str := loose0
theorem run (w : World) : HandSHeadRun.RunEq R (PySem.W.view R.prog [21]) hk ob 9000 loose w := by
  intro os
  kernel_rfl
end
end K51
namespace VL
open PySem L2
inductive W where
  | non | bl (b : Bool) | int (i : Int) | str (s : String)
  | tup (xs : List W) | lst (xs : List W) | scr (xs : List W) | ktp (xs : List W)
  | ins (C : String) (fs : List (String × W))
inductive Ky where
  | i (n : Int) | s (x : String)
  deriving DecidableEq
inductive T where
  | im (w : W)
  | ml (xs : List T)
  | md (kvs : List (Ky × T))
  | mt (kvs : List (W × W))
  | mi (C : String) (fs : List (String × T))
  | tp (xs : List T)
inductive D where
  | nd (a : Option Addr) (o : Bool) (ds : List D)
abbrev D.z : D := .nd none false []
inductive Step where
  | idx (n : Nat) | key (k : Ky) | fld (f : String)
  deriving DecidableEq
abbrev Path := List Step
mutual
def W.nk : W → NestedKey
  | .bl b => .num (if b = true then 1 else 0)
  | .int i => .num i
  | .str s => .text (Str.ofString s)
  | .tup xs => .tup (W.nks xs)
  | _ => .none
def W.nks : List W → List NestedKey
  | [] => []
  | x :: xs => W.nk x :: W.nks xs
end
structure Gm where
  P : Program
  w : World
  K : PySem.W.Frag
  cA : String → Addr
  xa : Option (Addr × String)
  tb : Option Addr
def keyV : Ky → V
  | .i n => .int n
  | .s x => .str (Str.ofString x)
def keyL : Ky → Leaf
  | .i n => .num n
  | .s x => .text (Str.ofString x)
def dO (p : Addr) (ob : Obj) : HO := .ext fun h => h.get? p = some ob
structure IsDict (p : Addr) (ob : Obj) (es : List DictEntry) : Prop where
  low : (p == sysModules) = false
  ex : ob.ExactDict
  da : ∃ ep, ob.data = .dict es.toArray ep
  le : es.length ≤ sizeLine
def EntK (G : Gm) : List Ky → List V → List DictEntry → Prop
  | [], us, es => us = [] ∧ es = []
  | k :: ks, us, es => ∃ u r e er, us = u :: r ∧ es = e :: er ∧ RelV (keyV k) e.key ∧ e.hash = (leafKind G.P G.w).hash (keyL k) ∧ RelV u e.val ∧ EntK G ks r er
def SqF (K : PySem.W.Frag) (H : Hp) (a : Addr) (xs : List V) : Prop :=
  (∃ o, H a = some (.frz o (.lst xs))) ∨
    ∃ (o : Obj) (its : Array Value) (n : Nat), K.lookup a = some o ∧ o.cls = .type "list" ∧ o.dict = none ∧ o.data = .seq its n ∧ its.size ≤ sizeLine ∧ Vals xs its.toList
theorem SqF.seq {K : PySem.W.Frag} {H : Hp} {a : Addr} {xs : List V} (h : SqF K H a xs) : SqL K H a xs := h.elim (fun h => .inl (.inr h)) .inr
section
variable (G : Gm) (Z : Addr → Prop) (H : Hp)
mutual
def Rep : W → V → Prop
  | .non, v => v = .non
  | .bl b, v => v = .bl b
  | .int i, v => v = .int i
  | .str s, v => v = .str (Str.ofString s)
  | .tup xs, v => ∃ p vs, v = .ref p ∧ H p = some (.tup vs) ∧ RepL xs vs
  | .lst xs, v => ∃ p vs, v = .ref p ∧ Z p ∧ H p = some (.lst vs) ∧ RepL xs vs
  | .scr xs, v => ∃ p vs, v = .ref p ∧ SqF G.K H p vs ∧ RepL xs vs
  | .ktp xs, v => ∃ p vs, v = .ref p ∧ SqT G.K H p vs ∧ RepL xs vs
  | .ins C fs, v => ∃ p dx vs, v = .ref p ∧ Z p ∧ H p = some (.ins (G.cA C) dx vs) ∧ RepF fs vs
def RepL : List W → List V → Prop
  | [], vs => vs = []
  | x :: xs, vs => ∃ v r, vs = v :: r ∧ Rep x v ∧ RepL xs r
def RepF : List (String × W) → List (Str × V) → Prop
  | [], vs => vs = []
  | (f, x) :: xs, vs => ∃ v r, vs = (Str.ofString f, v) :: r ∧ Rep x v ∧ RepF xs r
end
mutual
def W.kp : W → Bool
  | .non => true
  | .bl _ => true
  | .int _ => true
  | .str _ => true
  | .tup xs => W.kps xs
  | _ => false
def W.kps : List W → Bool
  | [] => true
  | x :: xs => W.kp x && W.kps xs
end
def hkW : W → Bool
  | .tup xs => W.kps xs && decide ((W.nk (.tup xs)).depth ≤ 8)
  | _ => false
def EntT : List (W × W) → List DictEntry → Prop
  | [], es => es = []
  | (k, x) :: r, es => ∃ b u e er, es = e :: er ∧ e.key = .ref b ∧ Rep G Z H k (.ref b) ∧ hkW k = true ∧ e.hash = (nestedKind G.P G.w).hash (W.nk k) ∧ RelV u e.val ∧ Rep G Z H x u ∧ EntT r er
mutual
def RepT : T → V → D → Prop
  | .im w, v, d => d = .z ∧ Rep G Z H w v
  | .ml xs, v, d => ∃ p vs ds, v = .ref p ∧ d = .nd (some p) true ds ∧ H p = some (.lst vs) ∧ RepTL xs vs ds
  | .md kvs, v, d => ∃ p ob es us ds, v = .ref p ∧ d = .nd (some p) true ds ∧ H p = some (dO p ob) ∧ (IsDict p ob es ∧ EntK G (kvs.map (·.1)) us es ∧ (kvs.map (·.1)).Nodup) ∧ RepTK kvs us ds
  | .mt kvs, v, d => ∃ p ob es, v = .ref p ∧ d = .nd (some p) true [] ∧ H p = some (dO p ob) ∧ IsDict p ob es ∧ EntT G Z H kvs es ∧ (kvs.map fun q => W.nk q.1).Nodup
  | .mi C fs, v, d => ∃ p dx vs ds, v = .ref p ∧ d = .nd (some p) true ds ∧ (H p = some (.ins (G.cA C) dx vs) ∧ (fs.map (·.1)).Nodup) ∧ RepTF fs vs ds
  | .tp xs, v, d => ∃ p vs ds, v = .ref p ∧ d = .nd (some p) false ds ∧ H p = some (.tup vs) ∧ RepTL xs vs ds
def RepTL : List T → List V → List D → Prop
  | [], vs, ds => vs = [] ∧ ds = []
  | x :: xs, vs, ds => ∃ v r d e, vs = v :: r ∧ ds = d :: e ∧ RepT x v d ∧ RepTL xs r e
def RepTK : List (Ky × T) → List V → List D → Prop
  | [], vs, ds => vs = [] ∧ ds = []
  | (k, x) :: xs, vs, ds => ∃ v r d e, vs = v :: r ∧ ds = d :: e ∧ RepT x v d ∧ RepTK xs r e
def RepTF : List (String × T) → List (Str × V) → List D → Prop
  | [], vs, ds => vs = [] ∧ ds = []
  | (f, x) :: xs, vs, ds => ∃ v r d e, vs = (Str.ofString f, v) :: r ∧ ds = d :: e ∧ RepT x v d ∧ RepTF xs r e
end
end
mutual
def fp : D → List Addr
  | .nd a o ds => (if o = true then a.toList else []) ++ fps ds
def fps : List D → List Addr
  | [] => []
  | d :: ds => fp d ++ fps ds
end
theorem fp_z : fp D.z = [] := by simp [D.z, fp, fps]
def T.kids : T → List T
  | .ml xs => xs
  | .tp xs => xs
  | .md kvs => kvs.map (·.2)
  | .mi _ fs => fs.map (·.2)
  | _ => []
def T.pos : T → Step → Option Nat
  | .ml _, .idx n => some n
  | .tp _, .idx n => some n
  | .md kvs, .key k => kvs.findIdx? fun q => decide (q.1 = k)
  | .mi _ fs, .fld f => fs.findIdx? fun q => decide (q.1 = f)
  | _, _ => none
def setV {κ α : Type} : Nat → α → List (κ × α) → List (κ × α)
  | _, _, [] => []
  | 0, x, (k, _) :: r => (k, x) :: r
  | n + 1, x, q :: r => q :: setV n x r
def T.setKid : T → Nat → T → T
  | .ml xs, n, x => .ml (xs.set n x)
  | .tp xs, n, x => .tp (xs.set n x)
  | .md kvs, n, x => .md (setV n x kvs)
  | .mi C fs, n, x => .mi C (setV n x fs)
  | t, _, _ => t
theorem setV_map {κ α : Type} {x : α} : ∀ {l : List (κ × α)} {n : Nat}, (setV n x l).map (·.2) = (l.map (·.2)).set n x
  | [], _ => by simp [setV]
  | (k, y) :: r, 0 => by simp [setV]
  | (k, y) :: r, n + 1 => by simp [setV, setV_map]
theorem setV_keys {κ α : Type} {x : α} : ∀ {l : List (κ × α)} {n : Nat}, (setV n x l).map (·.1) = l.map (·.1)
  | [], _ => by simp [setV]
  | (k, y) :: r, 0 => by simp [setV]
  | (k, y) :: r, n + 1 => by simp [setV, setV_keys]
theorem find_keys {κ α β : Type} (p : κ → Bool) : ∀ {l : List (κ × α)} {m : List (κ × β)}, l.map (·.1) = m.map (·.1) → (l.findIdx? fun q => p q.1) = m.findIdx? fun q => p q.1
  | [], [], _ => rfl
  | [], _ :: _, h => by cases h
  | _ :: _, [], h => by cases h
  | (k, x) :: l, (j, y) :: m, h => by
    simp only [List.map_cons, List.cons.injEq] at h
    obtain ⟨rfl, h⟩ := h
    simp only [List.findIdx?_cons]
    rw [find_keys p h]
theorem kids_set {t : T} {n : Nat} {x : T} : (t.setKid n x).kids = t.kids.set n x := by
  cases t <;> simp [T.setKid, T.kids, setV_map]
theorem pos_set {t : T} {n : Nat} {x : T} {s : Step} : (t.setKid n x).pos s = t.pos s := by
  cases t <;> cases s <;> try rfl
  · exact find_keys (fun k => decide (k = _)) setV_keys
  · exact find_keys (fun k => decide (k = _)) setV_keys
def T.kid (t : T) (s : Step) : Option T := (t.pos s).bind fun i => t.kids[i]?
def T.getP : T → Path → Option T
  | t, [] => some t
  | t, s :: π => (t.kid s).bind fun c => c.getP π
def T.setP : T → Path → T → Option T
  | _, [], x => some x
  | t, s :: π, x => (t.pos s).bind fun i => (t.kids[i]?).bind fun c => (c.setP π x).map fun c' => t.setKid i c'
def adr : T → D → Path → Option Addr
  | _, .nd a _ _, [] => a
  | t, .nd _ _ ds, s :: π => (t.pos s).bind fun i => (t.kids[i]?).bind fun c => (ds[i]?).bind fun e => adr c e π
def lamQ : Str := Str.ofString "House.picture.<locals>.<lambda>"
def TabF (H : Hp) (P : Addr) : Prop := ∃ ps : Array Value, H P = some (.tbl ps) ∧ TriplesOk ps.toList ∧
  ∀ (pos : Pos) (cv : Value), codeAmong pos ps.toList = some cv → ∃ (c : Addr) (oc : Obj) (vs : Array Value) (t : Tok), cv = .ref c ∧ H c = some (.frz oc (.own c)) ∧ oc.data = .fields vs ∧ vs[1]? = some (.str lamQ t)
structure FK (H H' : Hp) : Prop where
  f : ∀ b o u, H b = some (.frz o u) → H' b = some (.frz o u)
  t : ∀ P, TabF H P → TabF H' P
theorem FK.refl {H : Hp} : FK H H := ⟨fun _ _ _ h => h, fun _ h => h⟩
theorem FK.trans {H1 H2 H3 : Hp} (a : FK H1 H2) (b : FK H2 H3) : FK H1 H3 := ⟨fun c o u h => b.f c o u (a.f c o u h), fun P h => b.t P (a.t P h)⟩
theorem FK.of {H H' : Hp} (f : ∀ b o u, H b = some (.frz o u) → H' b = some (.frz o u)) (t : ∀ b ps, H b = some (.tbl ps) → H' b = some (.tbl ps)) : FK H H' := by
  refine ⟨f, fun P h => ?_⟩
  obtain ⟨ps, h1, h2, h3⟩ := h
  refine ⟨ps, t _ _ h1, h2, fun pos cv hc => ?_⟩
  obtain ⟨c, oc, vs, tk, e1, e2, e3, e4⟩ := h3 pos cv hc
  exact ⟨c, oc, vs, tk, e1, f _ _ _ e2, e3, e4⟩
theorem FK.upd {H : Hp} {p : Addr} {o : HO} (h : ∀ x, H p = some x → (∀ b u, x ≠ .frz b u) ∧ ∀ ps, x ≠ .tbl ps) : FK H (L2.upd H p o) := by
  have ne : ∀ {b : Addr} {x : HO}, H b = some x → ((∃ c u, x = .frz c u) ∨ ∃ ps, x = .tbl ps) → b ≠ p := fun {b x} e q z => by
    subst z
    obtain ⟨h1, h2⟩ := h x e
    rcases q with ⟨c, u, q⟩ | ⟨ps, q⟩
    · exact h1 c u q
    · exact h2 ps q
  exact FK.of (fun b c u e => by rw [upd_ne (ne e (.inl ⟨_, _, rfl⟩))]; exact e) fun b ps e => by rw [upd_ne (ne e (.inr ⟨_, rfl⟩))]; exact e
theorem FK.mut {H : Hp} {p : Addr} {x o : HO} (h : H p = some x) (m : Mut (some x)) : FK H (L2.upd H p o) := FK.upd fun y e => by
  rw [h] at e; cases e
  exact ⟨fun b u q => by subst q; exact m.elim, fun ps q => by subst q; exact m.elim⟩
theorem FK.new {H : Hp} {p : Addr} {o : HO} (h : H p = none) : FK H (L2.upd H p o) := FK.upd fun y e => by rw [h] at e; cases e
def Ob (H : Hp) (p : Addr) : Prop := ∃ o, H p = some o ∧ ∀ ps, o ≠ .tbl ps
theorem Ob.ex {H : Hp} {p : Addr} (h : Ob H p) : ∃ o, H p = some o := let ⟨o, e, _⟩ := h; ⟨o, e⟩
theorem Ob.mut {H : Hp} {p : Addr} {o : HO} (h : H p = some o) (m : Mut (some o)) : Ob H p := ⟨o, h, fun ps q => by subst q; exact m.elim⟩
theorem Ob.eq {H H' : Hp} {p : Addr} (h : Ob H p) (e : H' p = H p) : Ob H' p := let ⟨o, a, b⟩ := h; ⟨o, e.trans a, b⟩
structure KeepZ (Z : Addr → Prop) (H : Hp) (Z' : Addr → Prop) (H' : Hp) : Prop where
  z : ∀ p, Z p → Z' p ∧ H' p = H p
  tups : ∀ b xs, H b = some (.tup xs) → H' b = some (.tup xs)
  frzs : FK H H'
theorem KeepZ.refl {Z : Addr → Prop} {H : Hp} : KeepZ Z H Z H := ⟨fun _ h => ⟨h, rfl⟩, fun _ _ h => h, FK.refl⟩
theorem KeepZ.trans {Z1 Z2 Z3 : Addr → Prop} {H1 H2 H3 : Hp} (a : KeepZ Z1 H1 Z2 H2) (b : KeepZ Z2 H2 Z3 H3) : KeepZ Z1 H1 Z3 H3 :=
  ⟨fun p h => ⟨(b.z p (a.z p h).1).1, ((b.z p (a.z p h).1).2).trans (a.z p h).2⟩, fun c xs h => b.tups c xs (a.tups c xs h), a.frzs.trans b.frzs⟩
section
variable {G : Gm} {Z Z' : Addr → Prop} {H H' : Hp}
theorem sqT_keep (k : KeepZ Z H Z' H') {p : Addr} {vs : List V} (h : SqT G.K H p vs) : SqT G.K H' p vs := by
  rcases h with (h | ⟨o, h⟩) | h
  · exact .inl (.inl (k.tups _ _ h))
  · exact .inl (.inr ⟨o, k.frzs.f _ _ _ h⟩)
  · exact .inr h
mutual
theorem Rep.keep (k : KeepZ Z H Z' H') : ∀ {w : W} {v : V}, Rep G Z H w v → Rep G Z' H' w v
  | .non, _, h => h
  | .bl _, _, h => h
  | .int _, _, h => h
  | .str _, _, h => h
  | .tup xs, _, ⟨p, vs, e, q, r⟩ => ⟨p, vs, e, k.tups _ _ q, RepL.keep k r⟩
  | .lst xs, _, ⟨p, vs, e, q, q2, r⟩ => ⟨p, vs, e, (k.z p q).1, (k.z p q).2.trans q2, RepL.keep k r⟩
  | .scr xs, _, ⟨p, vs, e, q, r⟩ => ⟨p, vs, e, q.imp (fun ⟨o, q⟩ => ⟨o, k.frzs.f _ _ _ q⟩) id, RepL.keep k r⟩
  | .ktp xs, _, ⟨p, vs, e, q, r⟩ => ⟨p, vs, e, sqT_keep k q, RepL.keep k r⟩
  | .ins C fs, _, ⟨p, dx, vs, e, q, q2, r⟩ => ⟨p, dx, vs, e, (k.z p q).1, (k.z p q).2.trans q2, RepF.keep k r⟩
theorem RepL.keep (k : KeepZ Z H Z' H') : ∀ {xs : List W} {vs : List V}, RepL G Z H xs vs → RepL G Z' H' xs vs
  | [], _, h => h
  | x :: xs, _, ⟨v, r, e, a, b⟩ => ⟨v, r, e, Rep.keep k a, RepL.keep k b⟩
theorem RepF.keep (k : KeepZ Z H Z' H') : ∀ {xs : List (String × W)} {vs : List (Str × V)}, RepF G Z H xs vs → RepF G Z' H' xs vs
  | [], _, h => h
  | (f, x) :: xs, _, ⟨v, r, e, a, b⟩ => ⟨v, r, e, Rep.keep k a, RepF.keep k b⟩
end
theorem EntT.keep (k : KeepZ Z H Z' H') : ∀ {xs : List (W × W)} {es : List DictEntry}, EntT G Z H xs es → EntT G Z' H' xs es
  | [], _, h => h
  | (f, x) :: xs, _, ⟨b, u, e, er, h1, h2, h3, h4, h5, h6, h7, h8⟩ => ⟨b, u, e, er, h1, h2, Rep.keep k h3, h4, h5, h6, Rep.keep k h7, EntT.keep k h8⟩
theorem mem_fps {p : Addr} {d : D} : ∀ {ds : List D}, d ∈ ds → p ∈ fp d → p ∈ fps ds
  | e :: ds, h, q => by
    unfold fps
    rcases List.mem_cons.mp h with rfl | h
    · exact List.mem_append_left _ q
    · exact List.mem_append_right _ (mem_fps h q)
mutual
theorem RepT.keep (k : KeepZ Z H Z' H') : ∀ {t : T} {v : V} {d : D}, (∀ p ∈ fp d, H' p = H p) → RepT G Z H t v d → RepT G Z' H' t v d
  | .im w, _, _, _, ⟨e, q⟩ => ⟨e, Rep.keep k q⟩
  | .ml xs, _, _, u, ⟨p, vs, ds, e, e2, q, r⟩ => ⟨p, vs, ds, e, e2, (u p (by simp [e2, fp])).trans q, RepTL.keep k (fun x hx => u x (by simp [e2, fp, hx])) r⟩
  | .md xs, _, _, u, ⟨p, ob, es, us, ds, e, e2, q, a, r⟩ => ⟨p, ob, es, us, ds, e, e2, (u p (by simp [e2, fp])).trans q, a, RepTK.keep k (fun x hx => u x (by simp [e2, fp, hx])) r⟩
  | .mt xs, _, _, u, ⟨p, ob, es, e, e2, q, a, r, n⟩ => ⟨p, ob, es, e, e2, (u p (by simp [e2, fp])).trans q, a, EntT.keep k r, n⟩
  | .mi C xs, _, _, u, ⟨p, dx, vs, ds, e, e2, q, r⟩ => ⟨p, dx, vs, ds, e, e2, ⟨(u p (by simp [e2, fp])).trans q.1, q.2⟩, RepTF.keep k (fun x hx => u x (by simp [e2, fp, hx])) r⟩
  | .tp xs, _, _, u, ⟨p, vs, ds, e, e2, q, r⟩ => ⟨p, vs, ds, e, e2, k.tups _ _ q, RepTL.keep k (fun x hx => u x (by simp [e2, fp, hx])) r⟩
theorem RepTL.keep (k : KeepZ Z H Z' H') : ∀ {xs : List T} {vs : List V} {ds : List D}, (∀ p ∈ fps ds, H' p = H p) → RepTL G Z H xs vs ds → RepTL G Z' H' xs vs ds
  | [], _, _, _, h => h
  | x :: xs, _, _, u, ⟨v, r, d, e, e1, e2, a, b⟩ => ⟨v, r, d, e, e1, e2, RepT.keep k (fun x hx => u x (by simp [e2, fps, hx])) a, RepTL.keep k (fun x hx => u x (by simp [e2, fps, hx])) b⟩
theorem RepTK.keep (k : KeepZ Z H Z' H') : ∀ {xs : List (Ky × T)} {vs : List V} {ds : List D}, (∀ p ∈ fps ds, H' p = H p) → RepTK G Z H xs vs ds → RepTK G Z' H' xs vs ds
  | [], _, _, _, h => h
  | (_, x) :: xs, _, _, u, ⟨v, r, d, e, e1, e2, a, b⟩ => ⟨v, r, d, e, e1, e2, RepT.keep k (fun x hx => u x (by simp [e2, fps, hx])) a, RepTK.keep k (fun x hx => u x (by simp [e2, fps, hx])) b⟩
theorem RepTF.keep (k : KeepZ Z H Z' H') : ∀ {xs : List (String × T)} {vs : List (Str × V)} {ds : List D}, (∀ p ∈ fps ds, H' p = H p) → RepTF G Z H xs vs ds → RepTF G Z' H' xs vs ds
  | [], _, _, _, h => h
  | (_, x) :: xs, _, _, u, ⟨v, r, d, e, e1, e2, a, b⟩ => ⟨v, r, d, e, e1, e2, RepT.keep k (fun x hx => u x (by simp [e2, fps, hx])) a, RepTF.keep k (fun x hx => u x (by simp [e2, fps, hx])) b⟩
end
mutual
theorem RepT.there : ∀ {t : T} {v : V} {d : D}, RepT G Z H t v d → ∀ p ∈ fp d, ∃ o, H p = some o ∧ Mut (some o)
  | .im w, _, _, ⟨e, q⟩ => by simp [e, fp_z]
  | .ml xs, _, _, ⟨p, vs, ds, e, e2, q, r⟩ => fun x hx => by
    subst e2
    simp only [fp, reduceIte, eq_self, Option.toList_some, List.singleton_append, List.mem_cons] at hx
    rcases hx with rfl | hx
    · exact ⟨_, q, trivial⟩
    · exact RepTL.there r x hx
  | .md xs, _, _, ⟨p, ob, es, us, ds, e, e2, q, a, r⟩ => fun x hx => by
    subst e2
    simp only [fp, reduceIte, eq_self, Option.toList_some, List.singleton_append, List.mem_cons] at hx
    rcases hx with rfl | hx
    · exact ⟨_, q, trivial⟩
    · exact RepTK.there r x hx
  | .mt xs, _, _, ⟨p, ob, es, e, e2, q, a, r, n⟩ => fun x hx => by
    subst e2
    simp only [fp, reduceIte, eq_self, Option.toList_some, List.singleton_append, List.mem_cons, fps, List.not_mem_nil, or_false] at hx
    rw [hx]; exact ⟨_, q, trivial⟩
  | .mi C xs, _, _, ⟨p, dx, vs, ds, e, e2, q, r⟩ => fun x hx => by
    subst e2
    simp only [fp, reduceIte, eq_self, Option.toList_some, List.singleton_append, List.mem_cons] at hx
    rcases hx with rfl | hx
    · exact ⟨_, q.1, trivial⟩
    · exact RepTF.there r x hx
  | .tp xs, _, _, ⟨p, vs, ds, e, e2, q, r⟩ => fun x hx => by
    subst e2
    simp only [fp, Bool.false_eq_true, reduceIte, List.nil_append] at hx
    exact RepTL.there r x hx
theorem RepTL.there : ∀ {xs : List T} {vs : List V} {ds : List D}, RepTL G Z H xs vs ds → ∀ p ∈ fps ds, ∃ o, H p = some o ∧ Mut (some o)
  | [], _, _, ⟨_, e⟩ => by simp [e, fps]
  | x :: xs, _, _, ⟨v, r, d, e, e1, e2, a, b⟩ => fun y hy => by
    subst e2
    simp only [fps, List.mem_append] at hy
    rcases hy with h | h
    · exact RepT.there a y h
    · exact RepTL.there b y h
theorem RepTK.there : ∀ {xs : List (Ky × T)} {vs : List V} {ds : List D}, RepTK G Z H xs vs ds → ∀ p ∈ fps ds, ∃ o, H p = some o ∧ Mut (some o)
  | [], _, _, ⟨_, e⟩ => by simp [e, fps]
  | (_, x) :: xs, _, _, ⟨v, r, d, e, e1, e2, a, b⟩ => fun y hy => by
    subst e2
    simp only [fps, List.mem_append] at hy
    rcases hy with h | h
    · exact RepT.there a y h
    · exact RepTK.there b y h
theorem RepTF.there : ∀ {xs : List (String × T)} {vs : List (Str × V)} {ds : List D}, RepTF G Z H xs vs ds → ∀ p ∈ fps ds, ∃ o, H p = some o ∧ Mut (some o)
  | [], _, _, ⟨_, e⟩ => by simp [e, fps]
  | (_, x) :: xs, _, _, ⟨v, r, d, e, e1, e2, a, b⟩ => fun y hy => by
    subst e2
    simp only [fps, List.mem_append] at hy
    rcases hy with h | h
    · exact RepT.there a y h
    · exact RepTF.there b y h
end
def zipK {κ κ' : Type} (f : κ → κ') : List κ → List V → List (κ' × V)
  | k :: ks, v :: vs => (f k, v) :: zipK f ks vs
  | _, _ => []
def Shell (G : Gm) (Z : Addr → Prop) (H : Hp) (v : V) (us : List V) (a : Option Addr) (o : Bool) : T → Prop
  | .im w => a = none ∧ o = false ∧ us = [] ∧ Rep G Z H w v
  | .ml _ => ∃ p, v = .ref p ∧ a = some p ∧ o = true ∧ H p = some (.lst us)
  | .md kvs => ∃ p ob es, v = .ref p ∧ a = some p ∧ o = true ∧ H p = some (dO p ob) ∧ IsDict p ob es ∧ EntK G (kvs.map (·.1)) us es ∧ (kvs.map (·.1)).Nodup
  | .mt kvs => ∃ p ob es, v = .ref p ∧ a = some p ∧ o = true ∧ us = [] ∧ H p = some (dO p ob) ∧ IsDict p ob es ∧ EntT G Z H kvs es ∧ (kvs.map fun q => W.nk q.1).Nodup
  | .mi C fs => ∃ p dx, v = .ref p ∧ a = some p ∧ o = true ∧ H p = some (.ins (G.cA C) dx (zipK Str.ofString (fs.map (·.1)) us)) ∧ (fs.map (·.1)).Nodup
  | .tp _ => ∃ p, v = .ref p ∧ a = some p ∧ o = false ∧ H p = some (.tup us)
theorem repTK_iff : ∀ {xs : List (Ky × T)} {vs : List V} {ds : List D}, RepTK G Z H xs vs ds ↔ RepTL G Z H (xs.map (·.2)) vs ds
  | [], vs, ds => Iff.rfl
  | (k, x) :: xs, vs, ds => by
    constructor
    · rintro ⟨v, r, d, e, rfl, rfl, a, b⟩
      exact ⟨v, r, d, e, rfl, rfl, a, repTK_iff.mp b⟩
    · rintro ⟨v, r, d, e, rfl, rfl, a, b⟩
      exact ⟨v, r, d, e, rfl, rfl, a, repTK_iff.mpr b⟩
theorem repTF_iff : ∀ {xs : List (String × T)} {vs : List (Str × V)} {ds : List D}, RepTF G Z H xs vs ds ↔ ∃ us, vs = zipK Str.ofString (xs.map (·.1)) us ∧ RepTL G Z H (xs.map (·.2)) us ds
  | [], vs, ds => by
    constructor
    · rintro ⟨rfl, rfl⟩; exact ⟨[], rfl, rfl, rfl⟩
    · rintro ⟨us, rfl, rfl, rfl⟩; exact ⟨rfl, rfl⟩
  | (k, x) :: xs, vs, ds => by
    constructor
    · rintro ⟨v, r, d, e, rfl, rfl, a, b⟩
      obtain ⟨us, rfl, q⟩ := repTF_iff.mp b
      exact ⟨v :: us, rfl, v, us, d, e, rfl, rfl, a, q⟩
    · rintro ⟨us, rfl, v, us', d, e, rfl, rfl, a, q⟩
      exact ⟨v, _, d, e, rfl, rfl, a, repTF_iff.mpr ⟨us', rfl, q⟩⟩
theorem repT_iff : ∀ {t : T} {v : V} {d : D}, RepT G Z H t v d ↔ ∃ a o us ds, d = .nd a o ds ∧ Shell G Z H v us a o t ∧ RepTL G Z H t.kids us ds
  | .im w, v, d => by
    constructor
    · rintro ⟨rfl, r⟩; exact ⟨none, _, [], [], rfl, ⟨rfl, rfl, rfl, r⟩, rfl, rfl⟩
    · rintro ⟨a, o, us, ds, rfl, ⟨rfl, rfl, rfl, r⟩, _, rfl⟩; exact ⟨rfl, r⟩
  | .ml xs, v, d => by
    constructor
    · rintro ⟨p, vs, ds, rfl, rfl, q, r⟩; exact ⟨_, _, _, _, rfl, ⟨p, rfl, rfl, rfl, q⟩, r⟩
    · rintro ⟨a, o, us, ds, rfl, ⟨p, rfl, rfl, rfl, q⟩, r⟩; exact ⟨p, _, _, rfl, rfl, q, r⟩
  | .md xs, v, d => by
    constructor
    · rintro ⟨p, ob, es, us, ds, rfl, rfl, q, ⟨a1, a2, a3⟩, r⟩
      exact ⟨_, _, us, _, rfl, ⟨p, ob, es, rfl, rfl, rfl, q, a1, a2, a3⟩, repTK_iff.mp r⟩
    · rintro ⟨a, o, us, ds, rfl, ⟨p, ob, es, rfl, rfl, rfl, q, a1, a2, a3⟩, r⟩; exact ⟨p, ob, es, us, _, rfl, rfl, q, ⟨a1, a2, a3⟩, repTK_iff.mpr r⟩
  | .mt xs, v, d => by
    constructor
    · rintro ⟨p, ob, es, rfl, rfl, q, a, r, n⟩; exact ⟨_, _, [], _, rfl, ⟨p, ob, es, rfl, rfl, rfl, rfl, q, a, r, n⟩, rfl, rfl⟩
    · rintro ⟨a, o, us, ds, rfl, ⟨p, ob, es, rfl, rfl, rfl, rfl, q, a1, r, n⟩, _, rfl⟩; exact ⟨p, ob, es, rfl, rfl, q, a1, r, n⟩
  | .mi C xs, v, d => by
    constructor
    · rintro ⟨p, dx, vs, ds, rfl, rfl, q, r⟩
      obtain ⟨us, rfl, r2⟩ := repTF_iff.mp r
      exact ⟨_, _, _, _, rfl, ⟨p, dx, rfl, rfl, rfl, q.1, q.2⟩, r2⟩
    · rintro ⟨a, o, us, ds, rfl, ⟨p, dx, rfl, rfl, rfl, q, qn⟩, r⟩; exact ⟨p, dx, _, _, rfl, rfl, ⟨q, qn⟩, repTF_iff.mpr ⟨_, rfl, r⟩⟩
  | .tp xs, v, d => by
    constructor
    · rintro ⟨p, vs, ds, rfl, rfl, q, r⟩; exact ⟨_, _, _, _, rfl, ⟨p, rfl, rfl, rfl, q⟩, r⟩
    · rintro ⟨a, o, us, ds, rfl, ⟨p, rfl, rfl, rfl, q⟩, r⟩; exact ⟨p, _, _, rfl, rfl, q, r⟩
theorem RepTL.len : ∀ {xs : List T} {vs : List V} {ds : List D}, RepTL G Z H xs vs ds → vs.length = xs.length ∧ ds.length = xs.length
  | [], _, _, ⟨e, e2⟩ => by simp [e, e2]
  | x :: xs, _, _, ⟨v, r, d, e, e1, e2, a, b⟩ => by subst e1 e2; simp [(RepTL.len b).1, (RepTL.len b).2]
theorem RepTL.get : ∀ {xs : List T} {vs : List V} {ds : List D} {i : Nat} {x : T}, RepTL G Z H xs vs ds → xs[i]? = some x → ∃ v d, vs[i]? = some v ∧ ds[i]? = some d ∧ RepT G Z H x v d
  | y :: ys, _, _, 0, x, ⟨v, r, d, e, e1, e2, a, b⟩, h => by
    subst e1 e2
    rw [List.getElem?_cons_zero] at h; cases h
    exact ⟨v, d, rfl, rfl, a⟩
  | y :: ys, _, _, i + 1, x, ⟨v, r, d, e, e1, e2, a, b⟩, h => by
    subst e1 e2
    rw [List.getElem?_cons_succ] at h
    simpa using RepTL.get b h
theorem fps_append : ∀ {ds es : List D}, fps (ds ++ es) = fps ds ++ fps es
  | [], _ => rfl
  | d :: ds, es => by simp [fps, fps_append]
theorem RepTL.put : ∀ {xs : List T} {vs : List V} {ds : List D} {i : Nat} {x : T}, RepTL G Z H xs vs ds → xs[i]? = some x → ∃ v d out, vs[i]? = some v ∧ ds[i]? = some d ∧ RepT G Z H x v d ∧ (∀ e, (fps (ds.set i e)).Perm (out ++ fp e)) ∧
    (fps ds).Perm (out ++ fp d) ∧ ∀ Z' H' (k : KeepZ Z H Z' H') (o : ∀ p ∈ out, H' p = H p) (y : T) (e : D), RepT G Z' H' y v e → RepTL G Z' H' (xs.set i y) vs (ds.set i e)
  | y :: ys, _, _, 0, x, ⟨v, r, d, e, e1, e2, a, b⟩, h => by
    subst e1 e2
    rw [List.getElem?_cons_zero] at h; cases h
    refine ⟨v, d, fps e, rfl, rfl, a, fun e' => ?_, ?_, fun Z' H' k o y e' hy => ⟨v, r, e', e, rfl, rfl, hy, b.keep k o⟩⟩
    · simpa [fps] using List.perm_append_comm
    · simpa [fps] using List.perm_append_comm
  | y :: ys, _, _, i + 1, x, ⟨v, r, d, e, e1, e2, a, b⟩, h => by
    subst e1 e2
    rw [List.getElem?_cons_succ] at h
    obtain ⟨v', d', out, q1, q2, q3, q4, q5, q6⟩ := RepTL.put b h
    refine ⟨v', d', fp d ++ out, by simpa using q1, by simpa using q2, q3, fun e' => ?_, ?_, fun Z' H' k o y' e' hy => ⟨v, r, d, _, rfl, rfl, a.keep k fun p hp => o p (List.mem_append_left _ hp), q6 _ _ k (fun p hp => o p (List.mem_append_right _ hp)) _ _ hy⟩⟩
    · show (fp d ++ fps (e.set i e')).Perm _
      rw [List.append_assoc]; exact (q4 e').append_left _
    · show (fp d ++ fps e).Perm _
      rw [List.append_assoc]; exact q5.append_left _
theorem Shell.keep (k : KeepZ Z H Z' H') {v : V} {us : List V} {a : Option Addr} {o : Bool} (st : ∀ p, a = some p → o = true → H' p = H p) : ∀ {t : T}, Shell G Z H v us a o t → Shell G Z' H' v us a o t
  | .im _, ⟨e, e2, e3, r⟩ => ⟨e, e2, e3, r.keep k⟩
  | .ml _, ⟨p, e, e2, e3, q⟩ => ⟨p, e, e2, e3, (st p e2 e3).trans q⟩
  | .md _, ⟨p, ob, es, e, e2, e3, q, r⟩ => ⟨p, ob, es, e, e2, e3, (st p e2 e3).trans q, r⟩
  | .mt _, ⟨p, ob, es, e, e2, e4, e3, q, a, r, n⟩ => ⟨p, ob, es, e, e2, e4, e3, (st p e2 e4).trans q, a, r.keep k, n⟩
  | .mi _ _, ⟨p, dx, e, e2, e3, q, n⟩ => ⟨p, dx, e, e2, e3, (st p e2 e3).trans q, n⟩
  | .tp _, ⟨p, e, e2, e3, q⟩ => ⟨p, e, e2, e3, k.tups _ _ q⟩
theorem Shell.set {v : V} {us : List V} {a : Option Addr} {o : Bool} {n : Nat} {x : T} : ∀ {t : T}, Shell G Z H v us a o t → Shell G Z H v us a o (t.setKid n x)
  | .im _, h => h
  | .ml _, h => h
  | .md kvs, ⟨p, ob, es, e, e2, e3, q, a, b, c⟩ => ⟨p, ob, es, e, e2, e3, q, a, by rw [setV_keys]; exact b, by rw [setV_keys]; exact c⟩
  | .mt _, h => h
  | .mi _ fs, ⟨p, dx, e, e2, e3, q⟩ => ⟨p, dx, e, e2, e3, by rw [setV_keys]; exact q⟩
  | .tp _, h => h
theorem RepT.kidput {t x : T} {v : V} {d : D} {s : Step} (r : RepT G Z H t v d) (h : t.kid s = some x) : ∃ i a o ds u e out, t.pos s = some i ∧ t.kids[i]? = some x ∧ d = .nd a o ds ∧ ds[i]? = some e ∧ RepT G Z H x u e ∧ (fp d).Perm (out ++ fp e) ∧
    ∀ Z' H' (k : KeepZ Z H Z' H') (st : ∀ p ∈ out, H' p = H p) (y : T) (e' : D), RepT G Z' H' y u e' → RepT G Z' H' (t.setKid i y) v (.nd a o (ds.set i e')) ∧ (fp (.nd a o (ds.set i e'))).Perm (out ++ fp e') := by
  obtain ⟨i, h1, h2⟩ := Option.bind_eq_some_iff.mp h
  obtain ⟨a, o, us, ds, rfl, sh, rl⟩ := repT_iff.mp r
  obtain ⟨u, e, out, q1, q2, q3, q4, q5, q6⟩ := rl.put h2
  refine ⟨i, a, o, ds, u, e, (if o = true then a.toList else []) ++ out, h1, h2, rfl, q2, q3, ?_, fun Z' H' k st y e' hy => ⟨?_, ?_⟩⟩
  · simp only [fp]
    rw [List.append_assoc]; exact q5.append_left _
  · refine repT_iff.mpr ⟨a, o, us, _, rfl, (sh.keep k fun p hp ho => st p (by simp [hp, ho])).set, ?_⟩
    rw [kids_set]
    exact q6 _ _ k (fun p hp => st p (List.mem_append_right _ hp)) _ _ hy
  · simp only [fp]
    rw [List.append_assoc]; exact (q4 e').append_left _
theorem RepT.adr_in : ∀ {π : Path} {t : T} {v : V} {d : D} {a : Addr}, RepT G Z H t v d → adr t d π = some a → a ∈ fp d ∨ ∃ vs, H a = some (.tup vs)
  | [], t, v, d, a, r, h => by
    obtain ⟨b, o, us, ds, rfl, sh, rl⟩ := repT_iff.mp r
    have h' : b = some a := h
    subst h'
    cases t with
    | im w => cases sh.1
    | ml _ => obtain ⟨p, rfl, e, rfl, q⟩ := sh; cases e; exact .inl (by simp [fp])
    | md _ => obtain ⟨p, _, _, rfl, e, rfl, q⟩ := sh; cases e; exact .inl (by simp [fp])
    | mt _ => obtain ⟨p, _, _, rfl, e, rfl, q⟩ := sh; cases e; exact .inl (by simp [fp])
    | mi _ _ => obtain ⟨p, _, rfl, e, rfl, q⟩ := sh; cases e; exact .inl (by simp [fp])
    | tp _ => obtain ⟨p, rfl, e, rfl, q⟩ := sh; cases e; exact .inr ⟨_, q⟩
  | s :: π, t, v, d, a, r, h => by
    obtain ⟨b, o, us, ds, rfl, sh, rl⟩ := repT_iff.mp r
    simp only [adr] at h
    obtain ⟨i, h1, h⟩ := Option.bind_eq_some_iff.mp h
    obtain ⟨c, h2, h⟩ := Option.bind_eq_some_iff.mp h
    obtain ⟨e, h3, h⟩ := Option.bind_eq_some_iff.mp h
    obtain ⟨u, d', q1, q2, q3⟩ := rl.get h2
    rw [h3] at q2; cases q2
    rcases RepT.adr_in q3 h with z | z
    · exact .inl (by simp only [fp]; exact List.mem_append_right _ (mem_fps (List.mem_of_getElem? h3) z))
    · exact .inr z
theorem fps_split {i j : Nat} (hij : i ≠ j) : ∀ {ds : List D} {d e : D} {p : Addr}, (fps ds).Nodup → ds[i]? = some d → ds[j]? = some e → p ∈ fp d → p ∉ fp e := by
  intro ds
  induction ds generalizing i j with
  | nil => intro d e p _ h; simp at h
  | cons x xs ih =>
    intro d e p hn hi hj hp hq
    simp only [fps] at hn
    obtain ⟨n1, n2, n3⟩ := List.nodup_append.mp hn
    cases i with
    | zero =>
      cases j with
      | zero => exact hij rfl
      | succ j =>
        rw [List.getElem?_cons_zero] at hi; cases hi
        rw [List.getElem?_cons_succ] at hj
        exact n3 p hp p (mem_fps (List.mem_of_getElem? hj) hq) rfl
    | succ i =>
      rw [List.getElem?_cons_succ] at hi
      cases j with
      | zero =>
        rw [List.getElem?_cons_zero] at hj; cases hj
        exact n3 p hq p (mem_fps (List.mem_of_getElem? hi) hp) rfl
      | succ j =>
        rw [List.getElem?_cons_succ] at hj
        exact ih (by omega) n2 hi hj hp hq
theorem pos_inj {t : T} {s s2 : Step} {i : Nat} (h : t.pos s = some i) (h2 : t.pos s2 = some i) : s = s2 := by
  revert h h2
  cases t <;> cases s <;> cases s2 <;> simp only [T.pos] <;> intro p1 hp <;> try (first | (cases p1; done) | (cases hp; done))
  · cases p1; cases hp; rfl
  · obtain ⟨l1, a1, _⟩ := List.findIdx?_eq_some_iff_getElem.mp p1
    obtain ⟨l2, a2, _⟩ := List.findIdx?_eq_some_iff_getElem.mp hp
    rw [← of_decide_eq_true a1, ← of_decide_eq_true a2]
  · obtain ⟨l1, a1, _⟩ := List.findIdx?_eq_some_iff_getElem.mp p1
    obtain ⟨l2, a2, _⟩ := List.findIdx?_eq_some_iff_getElem.mp hp
    rw [← of_decide_eq_true a1, ← of_decide_eq_true a2]
  · cases p1; cases hp; rfl
theorem fps_get : ∀ {ds : List D} {i : Nat} {d : D}, (fps ds).Nodup → ds[i]? = some d → (fp d).Nodup
  | x :: xs, 0, d, h, e => by rw [List.getElem?_cons_zero] at e; cases e; simp only [fps] at h; exact (List.nodup_append.mp h).1
  | x :: xs, i + 1, d, h, e => by rw [List.getElem?_cons_succ] at e; simp only [fps] at h; exact fps_get (List.nodup_append.mp h).2.1 e
theorem RepT.lens : ∀ {π : Path} {t x : T} {v : V} {d : D}, RepT G Z H t v d → t.getP π = some x → ∃ u e out, RepT G Z H x u e ∧ (fp d).Perm (out ++ fp e) ∧ (∀ π', adr t d (π ++ π') = adr x e π') ∧ ((fp d).Nodup → ∀ ρ b, ¬ π <+: ρ → adr t d ρ = some b → b ∉ fp e) ∧
    ∀ Z' H' (k : KeepZ Z H Z' H') (o : ∀ p ∈ out, H' p = H p) (y : T) (e' : D), RepT G Z' H' y u e' → ∃ t' d', t.setP π y = some t' ∧ RepT G Z' H' t' v d' ∧ (fp d').Perm (out ++ fp e') ∧
      (∀ π', adr t' d' (π ++ π') = adr y e' π') ∧ ∀ ρ, ¬ π <+: ρ → adr t' d' ρ = adr t d ρ
  | [], t, x, v, d, r, h => by
    cases h
    refine ⟨v, d, [], r, by simp, fun _ => rfl, fun _ ρ b hn => absurd List.nil_prefix hn, fun Z' H' k o y e' hy => ⟨y, e', rfl, hy, by simp, fun _ => rfl, fun ρ hn => absurd (List.nil_prefix) hn⟩⟩
  | s :: π, t, x, v, d, r, h => by
    obtain ⟨c, h1, h2⟩ := Option.bind_eq_some_iff.mp (show (t.kid s).bind (fun c => c.getP π) = some x from h)
    obtain ⟨i, a, o, ds, u, e, out, p1, p2, rfl, p3, p4, p5, p6⟩ := r.kidput h1
    obtain ⟨u', e', out', q1, q2, q3, q0, q4⟩ := RepT.lens p4 h2
    refine ⟨u', e', out ++ out', q1, ?_, fun π' => ?_, fun hn ρ b hp hb hbe => ?_, fun Z' H' k st y e2 hy => ?_⟩
    · rw [List.append_assoc]; exact p5.trans (q2.append_left _)
    · show adr t (.nd a o ds) (s :: (π ++ π')) = _
      simp only [adr, p1, p2, p3, Option.bind_some]
      exact q3 π'
    · have sub : b ∈ fp e := q2.mem_iff.mpr (List.mem_append_right _ hbe)
      have ine : b ∈ fps ds := mem_fps (List.mem_of_getElem? p3) sub
      obtain ⟨ob, hob, mub⟩ := q1.there b hbe
      simp only [fp] at hn
      obtain ⟨n1, n2, n3⟩ := List.nodup_append.mp hn
      cases ρ with
      | nil =>
        rcases r.adr_in (π := []) hb with z | ⟨vs, z⟩
        · have hb' : a = some b := hb
          subst hb'
          simp only [fp] at z
          cases o with
          | true => exact n3 b (by simp) b ine rfl
          | false =>
            obtain ⟨_, o', us, ds', e0, sh, _⟩ := repT_iff.mp r
            cases e0
            cases t with
            | im w => cases sh.1
            | ml _ => obtain ⟨p, _, _, e2, _⟩ := sh; cases e2
            | md _ => obtain ⟨p, _, _, _, _, e2, _⟩ := sh; cases e2
            | mt _ => obtain ⟨p, _, _, _, _, e2, _⟩ := sh; cases e2
            | mi _ _ => obtain ⟨p, _, _, _, e2, _⟩ := sh; cases e2
            | tp _ => obtain ⟨p, _, e1, _, q⟩ := sh; cases e1; rw [q] at hob; cases hob; exact mub
        · rw [z] at hob; cases hob; exact mub
      | cons s2 ρ =>
        simp only [adr] at hb
        obtain ⟨j, h1', hb⟩ := Option.bind_eq_some_iff.mp hb
        obtain ⟨c2, h2', hb⟩ := Option.bind_eq_some_iff.mp hb
        obtain ⟨e2, h3', hb⟩ := Option.bind_eq_some_iff.mp hb
        by_cases hij : i = j
        · subst hij
          have := pos_inj p1 h1'
          subst this
          rw [p2] at h2'; cases h2'
          rw [p3] at h3'; cases h3'
          exact q0 (fps_get n2 p3) ρ b (fun hq => hp ((List.cons_prefix_cons).mpr ⟨rfl, hq⟩)) hb hbe
        · obtain ⟨_, _, us, ds', e0, sh, rl⟩ := repT_iff.mp r
          cases e0
          obtain ⟨v2, d2, w1, w2, w3⟩ := rl.get h2'
          rw [h3'] at w2; cases w2
          rcases w3.adr_in hb with z | ⟨vs, z⟩
          · exact fps_split hij n2 p3 h3' sub z
          · rw [z] at hob; cases hob; exact mub
    · obtain ⟨t', d', w1, w2, w3, w4, w5⟩ := q4 _ _ k (fun p hp => st p (List.mem_append_right _ hp)) _ _ hy
      obtain ⟨z1, z2⟩ := p6 _ _ k (fun p hp => st p (List.mem_append_left _ hp)) _ _ w2
      refine ⟨t.setKid i t', _, ?_, z1, ?_, fun π' => ?_, fun ρ hn => ?_⟩
      · simp only [T.setP, p1, p2, Option.bind_some, w1, Option.map_some]
      · refine z2.trans ?_
        rw [List.append_assoc]; exact w3.append_left _
      · have hi : i < t.kids.length := (List.getElem?_eq_some_iff.mp p2).1
        have hj : i < ds.length := (List.getElem?_eq_some_iff.mp p3).1
        show adr _ _ (s :: (π ++ π')) = _
        simp only [adr, pos_set, p1, Option.bind_some, kids_set, List.getElem?_set_self hi, List.getElem?_set_self hj]
        exact w4 π'
      · cases ρ with
        | nil => rfl
        | cons s2 ρ =>
          simp only [adr, pos_set, kids_set]
          cases hp : t.pos s2 with
          | none => rfl
          | some j =>
            simp only [Option.bind_some]
            by_cases hij : i = j
            · subst hij
              by_cases hs : s = s2
              · subst hs
                have hi : i < t.kids.length := (List.getElem?_eq_some_iff.mp p2).1
                have hj : i < ds.length := (List.getElem?_eq_some_iff.mp p3).1
                simp only [List.getElem?_set_self hi, List.getElem?_set_self hj, p2, p3, Option.bind_some]
                exact w5 ρ fun hq => hn ((List.cons_prefix_cons).mpr ⟨rfl, hq⟩)
              · exact absurd (pos_inj p1 hp) hs
            · rw [List.getElem?_set_ne hij, List.getElem?_set_ne hij]
end
end VL
namespace VL
open PySem L2
inductive SV where
  | val (w : W) | own (p : Bool) (L : List Path) (t : T) | ptr (k : Nat) (π : Path) | exc (c : String)
inductive EV where
  | im (w : W) | tmp (t : T) | ptr (k : Nat) (π : Path)
abbrev Env3 := List (Option SV)
@[simp] def T.mut : T → Bool
  | .im _ => false
  | _ => true
structure Gh where
  Z : Addr → Prop
  P : Addr → Prop
  rt : Nat → Option Addr
  lk : Nat → List (Path × Addr)
  xa : Option Addr
structure Keep (g : Gh) (H : Hp) (g' : Gh) (H' : Hp) : Prop where
  z : ∀ p, g.Z p → g'.Z p ∧ H' p = H p
  p : ∀ p, g.P p → g'.P p ∧ H' p = H p
  q : ∀ p, g'.P p → g.P p
  tups : ∀ b xs, H b = some (.tup xs) → H' b = some (.tup xs)
  frzs : FK H H'
  rt : g'.rt = g.rt
  lk : g'.lk = g.lk
  xa : g'.xa = g.xa
  l : ∀ i q, q ∈ g.lk i → H' q.2 = H q.2
theorem Keep.refl (g : Gh) (H : Hp) : Keep g H g H := ⟨fun _ h => ⟨h, rfl⟩, fun _ h => ⟨h, rfl⟩, fun _ h => h, fun _ _ h => h, FK.refl, rfl, rfl, rfl, fun _ _ _ => rfl⟩
theorem Keep.trans {g1 g2 g3 : Gh} {H1 H2 H3 : Hp} (a : Keep g1 H1 g2 H2) (b : Keep g2 H2 g3 H3) : Keep g1 H1 g3 H3 :=
  ⟨fun p h => ⟨(b.z p (a.z p h).1).1, ((b.z p (a.z p h).1).2).trans (a.z p h).2⟩, fun p h => ⟨(b.p p (a.p p h).1).1, ((b.p p (a.p p h).1).2).trans (a.p p h).2⟩,
    fun p h => a.q p (b.q p h), fun c xs h => b.tups c xs (a.tups c xs h), a.frzs.trans b.frzs, b.rt.trans a.rt, b.lk.trans a.lk, b.xa.trans a.xa, fun i q h => (b.l i q (by rw [a.lk]; exact h)).trans (a.l i q h)⟩
theorem Keep.kz {g g' : Gh} {H H' : Hp} (k : Keep g H g' H') : KeepZ g.Z H g'.Z H' := ⟨k.z, k.tups, k.frzs⟩
def Tb (G : Gm) (H : Hp) : Prop := ∀ P, G.tb = some P → TabF H P
theorem Tb.keep {G : Gm} {H H' : Hp} (t : Tb G H) (k : FK H H') : Tb G H' := fun P e => k.t P (t P e)
structure Sim (G : Gm) (g : Gh) (env : Env3) (σ : L2.St) (H : Hp) (ds : Nat → D) : Prop where
  len : env.length = σ.length
  val : ∀ (i : Nat) w, env[i]? = some (some (SV.val w)) → ∃ v, σ[i]? = some (some v) ∧ Rep G g.Z H w v
  own : ∀ (i : Nat) p L t, env[i]? = some (some (SV.own p L t)) → ∃ v, σ[i]? = some (some v) ∧ RepT G g.Z H t v (ds i) ∧ t.mut = true ∧ (p = true → g.rt i = adr t (ds i) []) ∧ L = (g.lk i).map (·.1) ∧ ∀ q ∈ g.lk i, adr t (ds i) q.1 = some q.2
  ptr : ∀ (i : Nat) k π, env[i]? = some (some (SV.ptr k π)) → ∃ a p L t, σ[i]? = some (some (.ref a)) ∧ env[k]? = some (some (SV.own p L t)) ∧ adr t (ds k) π = some a
  exc : ∀ (i : Nat) c, env[i]? = some (some (SV.exc c)) → ∃ a, σ[i]? = some (some (.ref a)) ∧ G.xa = some (a, c)
  non : ∀ i : Nat, (∀ p L t, env[i]? ≠ some (some (SV.own p L t))) → ds i = .z ∧ g.lk i = []
  nd : ∀ i, (fp (ds i)).Nodup
  dj : ∀ i j p, p ∈ fp (ds i) → p ∈ fp (ds j) → i = j
  no : ∀ i p, p ∈ fp (ds i) → ¬ g.Z p ∧ ¬ g.P p
  zt : ∀ p, g.Z p → ¬ g.P p ∧ Ob H p
  pt : (∀ p, g.P p → Ob H p) ∧ Tb G H
section
variable {G : Gm} {g g' : Gh} {env env' : Env3} {σ : L2.St} {H H' : Hp} {ds : Nat → D}
theorem adr_root {Z : Addr → Prop} {t : T} {v : V} {d : D} (r : RepT G Z H t v d) (m : t.mut = true) : ∃ a, adr t d [] = some a ∧ v = .ref a := by
  obtain ⟨a, o, us, es, rfl, sh, rl⟩ := repT_iff.mp r
  cases t with
  | im w => cases m
  | ml _ => obtain ⟨p, rfl, rfl, _⟩ := sh; exact ⟨p, by simp [adr], rfl⟩
  | md _ => obtain ⟨p, _, _, rfl, rfl, _⟩ := sh; exact ⟨p, by simp [adr], rfl⟩
  | mt _ => obtain ⟨p, _, _, rfl, rfl, _⟩ := sh; exact ⟨p, by simp [adr], rfl⟩
  | mi _ _ => obtain ⟨p, _, rfl, rfl, _⟩ := sh; exact ⟨p, by simp [adr], rfl⟩
  | tp _ => obtain ⟨p, rfl, rfl, _⟩ := sh; exact ⟨p, by simp [adr], rfl⟩
theorem Sim.there (s : Sim G g env σ H ds) {i : Nat} {p : Addr} (h : p ∈ fp (ds i)) : ∃ o, H p = some o ∧ Mut (some o) := by
  by_cases e : ∃ p L t, env[i]? = some (some (SV.own p L t))
  · obtain ⟨q, L, t, e⟩ := e
    obtain ⟨v, _, r, _⟩ := s.own i q L t e
    exact r.there p h
  · have := (s.non i fun q L t z => e ⟨q, L, t, z⟩).1
    rw [this, fp_z] at h; cases h
theorem Sim.locked (s : Sim G g env σ H ds) {i : Nat} {q : Path × Addr} (h : q ∈ g.lk i) : ∃ o, H q.2 = some o := by
  by_cases e : ∃ p L t, env[i]? = some (some (SV.own p L t))
  · obtain ⟨p, L, t, e⟩ := e
    obtain ⟨v, _, r, _, _, _, r6⟩ := s.own i p L t e
    rcases r.adr_in (r6 q h) with z | ⟨vs, z⟩
    · obtain ⟨o, z, _⟩ := r.there _ z; exact ⟨o, z⟩
    · exact ⟨_, z⟩
  · have := (s.non i fun q L t z => e ⟨q, L, t, z⟩).2
    rw [this] at h; cases h
theorem Sim.free (s : Sim G g env σ H ds) {p : Addr} (h : H p = none) : ¬ g.Z p ∧ ¬ g.P p ∧ ∀ i, p ∉ fp (ds i) := by
  refine ⟨fun z => ?_, fun z => ?_, fun i z => ?_⟩
  · obtain ⟨_, o, e, _⟩ := s.zt p z; rw [h] at e; cases e
  · obtain ⟨o, e, _⟩ := s.pt.1 p z; rw [h] at e; cases e
  · obtain ⟨o, e, _⟩ := s.there z; rw [h] at e; cases e
theorem Sim.upd (s : Sim G g env σ H ds) (k : Keep g H g' H') (U : Nat → Option (T × D)) (hl : env'.length = env.length)
    (hU : ∀ i t' d', U i = some (t', d') → ∃ p L t v, env[i]? = some (some (SV.own p L t)) ∧ env'[i]? = some (some (SV.own p L t')) ∧ σ[i]? = some (some v) ∧ RepT G g'.Z H' t' v d' ∧ t'.mut = true ∧ ∀ q ∈ g.lk i, adr t' d' q.1 = some q.2)
    (hn : ∀ i, U i = none → env'[i]? = env[i]? ∨ ∃ k π, env[i]? = some (some (SV.ptr k π)) ∧ env'[i]? = some none)
    (hp : ∀ (i : Nat) k π, env'[i]? = some (some (SV.ptr k π)) → ∀ t' d', U k = some (t', d') → ∀ p L t, env[k]? = some (some (SV.own p L t)) → ∀ a, adr t (ds k) π = some a → adr t' d' π = some a)
    (hH : ∀ i, U i = none → ∀ p ∈ fp (ds i), H' p = H p ∧ ¬ g'.Z p)
    (hN : ∀ i t' d', U i = some (t', d') → (fp d').Nodup ∧ ∀ p ∈ fp d', ¬ g'.Z p ∧ ¬ g'.P p ∧ (∀ j, j ≠ i → U j = none → p ∉ fp (ds j)) ∧ ∀ j t2 d2, j ≠ i → U j = some (t2, d2) → p ∉ fp d2)
    (zt : ∀ p, g'.Z p → ¬ g'.P p ∧ Ob H' p) (pt : ∀ p, g'.P p → Ob H' p) :
    Sim G g' env' σ H' (fun i => match U i with
      | some (_, d') => d'
      | none => ds i) := by
  have inv : ∀ i, (∀ t' d', U i = some (t', d') → False) → U i = none := fun i h => by
    cases e : U i with
    | none => rfl
    | some q => exact (h q.1 q.2 e).elim
  have dsn : ∀ i, U i = none → (match U i with | some (_, d') => d' | none => ds i) = ds i := fun i e => by rw [e]
  have dss : ∀ i t' d', U i = some (t', d') → (match U i with | some (_, d') => d' | none => ds i) = d' := fun i t' d' e => by rw [e]
  have mem : ∀ i p, p ∈ fp (match U i with | some (_, d') => d' | none => ds i) → (U i = none ∧ p ∈ fp (ds i)) ∨ ∃ t' d', U i = some (t', d') ∧ p ∈ fp d' := fun i p h => by
    cases e : U i with
    | none => rw [dsn i e] at h; exact .inl ⟨rfl, h⟩
    | some q => rw [dss i q.1 q.2 e] at h; exact .inr ⟨q.1, q.2, rfl, h⟩
  have same : ∀ i x, U i = none → env'[i]? = some (some x) → env[i]? = some (some x) := fun i x e h => by
    rcases hn i e with q | ⟨k, π, _, q⟩
    · rw [← q]; exact h
    · rw [h] at q; cases q
  refine ⟨hl.trans s.len, fun i w h => ?_, fun i p L t h => ?_, fun i j π h => ?_, fun i c h => ?_, fun i h => ?_, fun i => ?_, fun i j p h h' => ?_, fun i p h => ?_, zt, pt, s.pt.2.keep k.frzs⟩
  · cases e : U i with
    | some q =>
      obtain ⟨_, _, _, _, _, h2, _⟩ := hU i q.1 q.2 e
      rw [h] at h2; cases h2
    | none =>
      obtain ⟨v, h1, h2⟩ := s.val i w (same i _ e h)
      exact ⟨v, h1, h2.keep k.kz⟩
  · cases e : U i with
    | some q =>
      obtain ⟨p0, L0, t0, v, h1, h2, h3, h4, h5, h6⟩ := hU i q.1 q.2 e
      rw [h] at h2; cases h2
      obtain ⟨v', h1', h2', h3', h4', h5', h6'⟩ := s.own i _ _ _ h1
      rw [h3] at h1'; cases h1'
      refine ⟨v, h3, by simpa only [e] using h4, h5, fun hp => ?_, by rw [k.lk]; exact h5', by rw [k.lk]; simpa only [e] using h6⟩
      rw [k.rt, h4' hp]
      obtain ⟨a1, r1, r2⟩ := adr_root h2' h3'
      obtain ⟨a2, r3, r4⟩ := adr_root h4 h5
      rw [r2] at r4; cases r4
      rw [r1]; exact r3.symm
    | none =>
      have h0 := same i _ e h
      obtain ⟨v', h1', h2', h3', h4', h5', h6'⟩ := s.own i _ _ _ h0
      exact ⟨v', h1', by simpa only [e] using h2'.keep k.kz fun p hp => (hH i e p hp).1, h3', fun hp => by rw [k.rt]; exact h4' hp, by rw [k.lk]; exact h5', by rw [k.lk]; exact h6'⟩
  · cases e : U i with
    | some q =>
      obtain ⟨_, _, _, _, _, h2, _⟩ := hU i q.1 q.2 e
      rw [h] at h2; cases h2
    | none =>
      obtain ⟨a, p, L, t, h1, h2, h3⟩ := s.ptr i j π (same i _ e h)
      cases e2 : U j with
      | none =>
        refine ⟨a, p, L, t, h1, ?_, by simpa only [e2] using h3⟩
        rcases hn j e2 with q | ⟨k, π, q, _⟩
        · rw [q]; exact h2
        · rw [h2] at q; cases q
      | some q =>
        obtain ⟨p0, L0, t0, v, r1, r2, r3, r4, r5, r6⟩ := hU j q.1 q.2 e2
        exact ⟨a, _, _, _, h1, r2, by simpa only [e2] using hp i j π h _ _ e2 _ _ _ h2 _ h3⟩
  · cases e : U i with
    | some q =>
      obtain ⟨_, _, _, _, _, h2, _⟩ := hU i q.1 q.2 e
      rw [h] at h2; cases h2
    | none =>
      obtain ⟨a, h1, h2⟩ := s.exc i c (same i _ e h)
      exact ⟨a, h1, h2⟩
  · cases e : U i with
    | some q =>
      obtain ⟨p, L, _, _, _, h2, _⟩ := hU i q.1 q.2 e
      exact absurd h2 (h _ _ _)
    | none =>
      have : ∀ p L t, env[i]? ≠ some (some (SV.own p L t)) := fun p L t z => by
        rcases hn i e with q | ⟨k, π, q, _⟩
        · exact h p L t (q.trans z)
        · rw [z] at q; cases q
      obtain ⟨h1, h2⟩ := s.non i this
      exact ⟨by simpa only [e] using h1, by rw [k.lk]; exact h2⟩
  · cases e : U i with
    | some q => simpa only [e] using (hN i _ _ e).1
    | none => simpa only [e] using s.nd i
  · rcases mem i p h with ⟨e, h⟩ | ⟨t1, d1, e, h⟩
    · rcases mem j p h' with ⟨e', h'⟩ | ⟨t2, d2, e', h'⟩
      · exact s.dj i j p h h'
      · refine Classical.byContradiction fun ne => ?_
        exact ((hN j _ _ e').2 p h').2.2.1 i ne e h
    · rcases mem j p h' with ⟨e', h'⟩ | ⟨t2, d2, e', h'⟩
      · refine Classical.byContradiction fun ne => ?_
        exact ((hN i _ _ e).2 p h).2.2.1 j (Ne.symm ne) e' h'
      · refine Classical.byContradiction fun ne => ?_
        exact ((hN i _ _ e).2 p h).2.2.2 j _ _ (Ne.symm ne) e' h'
  · rcases mem i p h with ⟨e, h⟩ | ⟨t1, d1, e, h⟩
    · exact ⟨(hH i e p h).2, fun z => (s.no i p h).2 (k.q p z)⟩
    · exact ⟨((hN i _ _ e).2 p h).1, ((hN i _ _ e).2 p h).2.1⟩
theorem Sim.grow (s : Sim G g env σ H ds) (k : Keep g H g' H') (hH : ∀ i, ∀ p ∈ fp (ds i), H' p = H p ∧ ¬ g'.Z p) (zt : ∀ p, g'.Z p → ¬ g'.P p ∧ Ob H' p) (pt : ∀ p, g'.P p → Ob H' p) : Sim G g' env σ H' ds :=
  s.upd k (fun _ => none) rfl (fun _ _ _ e => by cases e) (fun _ _ => .inl rfl) (fun _ _ _ _ _ _ e => by cases e) (fun i _ => hH i) (fun _ _ _ e => by cases e) zt pt
variable {p : Addr} {o : HO}
theorem Keep.new (h : H p = none) (s : Sim G g env σ H ds) : Keep g H g (upd H p o) := by
  have f := s.free h
  refine ⟨fun q z => ⟨z, upd_ne fun e => ?_⟩, fun q z => ⟨z, upd_ne fun e => ?_⟩, fun _ z => z, fun b xs e => ?_, FK.new h, rfl, rfl, rfl, fun i q hq => ?_⟩
  · subst e; exact f.1 z
  · subst e; exact f.2.1 z
  · rw [upd_ne (ne_of_none e h)]; exact e
  · obtain ⟨o, e⟩ := s.locked hq
    exact upd_ne (ne_of_none e h)
theorem upd_st {q : Addr} (h : Ob H q) (ne : q ≠ p) : Ob (L2.upd H p o) q := h.eq (upd_ne ne)
theorem upd_stn {q : Addr} (hn : H p = none) (h : Ob H q) : Ob (L2.upd H p o) q := upd_st h fun e => by
  obtain ⟨x, e2, _⟩ := h
  rw [e, hn] at e2; cases e2
theorem Sim.new (s : Sim G g env σ H ds) (h : H p = none) : Sim G g env σ (L2.upd H p o) ds := by
  have f := s.free h
  refine s.grow (Keep.new h s) (fun i q hq => ⟨upd_ne fun e => ?_, (s.no i q hq).1⟩) (fun q z => ⟨(s.zt q z).1, upd_stn h (s.zt q z).2⟩) (fun q z => upd_stn h (s.pt.1 q z))
  subst e; exact f.2.2 i hq
def Gh.frz (g : Gh) (a : Addr) : Gh := { g with Z := fun p => g.Z p ∨ p = a }
def EvR (G : Gm) (g : Gh) (env : Env3) (H : Hp) (ds : Nat → D) : EV → V → D → Prop
  | .im w, v, d => d = .z ∧ Rep G g.Z H w v
  | .tmp t, v, d => RepT G g.Z H t v d ∧ t.mut = true ∧ (fp d).Nodup ∧ ∀ p ∈ fp d, ¬ g.Z p ∧ ¬ g.P p ∧ ∀ i, p ∉ fp (ds i)
  | .ptr k π, v, d => d = .z ∧ ∃ a p L t, v = .ref a ∧ env[k]? = some (some (SV.own p L t)) ∧ adr t (ds k) π = some a
def EvL (G : Gm) (g : Gh) (env : Env3) (H : Hp) (ds : Nat → D) : List EV → List V → List D → Prop
  | [], vs, es => vs = [] ∧ es = []
  | e :: r, vs, es => ∃ v vr d dr, vs = v :: vr ∧ es = d :: dr ∧ EvR G g env H ds e v d ∧ EvL G g env H ds r vr dr ∧ ∀ p ∈ fp d, p ∉ fps dr
def SimN (G : Gm) (g : Gh) (env : Env3) (σ : L2.St) (H : Hp) : Prop := ∃ ds, Sim G g env σ H ds
def SimE (G : Gm) (g : Gh) (env : Env3) (σ : L2.St) (H : Hp) (ev : EV) (v : V) : Prop := ∃ ds d, Sim G g env σ H ds ∧ EvR G g env H ds ev v d
def SimA (G : Gm) (g : Gh) (env : Env3) (σ : L2.St) (H : Hp) (evs : List EV) (vs : List V) : Prop := ∃ ds es, Sim G g env σ H ds ∧ EvL G g env H ds evs vs es
theorem SimE.n {ev : EV} {v : V} (h : SimE G g env σ H ev v) : SimN G g env σ H := let ⟨ds, _, s, _⟩ := h; ⟨ds, s⟩
def lockE (ev : EV) (env : Env3) : Env3 := match ev with
  | .ptr k (s :: π) => match env[k]? with
    | some (some (SV.own p L t)) => env.set k (some (SV.own p ((s :: π) :: L) t))
    | _ => env
  | _ => env
def unlE (ev : EV) (env : Env3) : Env3 := match ev with
  | .ptr k (_ :: _) => match env[k]? with
    | some (some (SV.own p (_ :: L) t)) => env.set k (some (SV.own p L t))
    | _ => env
  | _ => env
def okE (ev : EV) (env : Env3) : Bool := match ev with
  | .ptr k _ => match env[k]? with
    | some (some (SV.own _ _ _)) => true
    | _ => false
  | _ => true
theorem get_lt {α : Type} {l : List α} {i : Nat} {x : α} (h : l[i]? = some x) : i < l.length := (List.getElem?_eq_some_iff.mp h).1
theorem Sim.lk (s : Sim G g env σ H ds) {k : Nat} {p : Bool} {L L' : List Path} {t : T} (h : env[k]? = some (some (SV.own p L t))) (l' : List (Path × Addr)) (hL : L' = l'.map (·.1)) (hq : ∀ q ∈ l', adr t (ds k) q.1 = some q.2) :
    Sim G { g with lk := fun i => if i = k then l' else g.lk i } (env.set k (some (SV.own p L' t))) σ H ds := by
  have gk : (env.set k (some (SV.own p L' t)))[k]? = some (some (SV.own p L' t)) := List.getElem?_set_self (get_lt h)
  have gn : ∀ i, i ≠ k → (env.set k (some (SV.own p L' t)))[i]? = env[i]? := fun i hi => List.getElem?_set_ne (Ne.symm hi)
  have un : ∀ i x, (∀ p L t, x ≠ SV.own p L t) → (env.set k (some (SV.own p L' t)))[i]? = some (some x) → env[i]? = some (some x) := fun i x hx e => by
    by_cases hi : i = k
    · subst hi; rw [gk] at e; cases e; exact absurd rfl (hx _ _ _)
    · rw [gn i hi] at e; exact e
  refine ⟨by rw [List.length_set]; exact s.len, fun i w e => s.val i w (un i _ (fun _ _ _ z => by cases z) e), fun i p2 L2 t2 e => ?_, fun i j π e => ?_, fun i c e => s.exc i c (un i _ (fun _ _ _ z => by cases z) e), fun i e => ?_, s.nd, s.dj, s.no, s.zt, s.pt⟩
  · by_cases hi : i = k
    · subst hi
      rw [gk] at e; cases e
      obtain ⟨v, h1, h2, h3, h4, h5, h6⟩ := s.own _ _ _ _ h
      exact ⟨v, h1, h2, h3, h4, by simpa using hL, by simpa using hq⟩
    · rw [gn i hi] at e
      obtain ⟨v, h1, h2, h3, h4, h5, h6⟩ := s.own _ _ _ _ e
      exact ⟨v, h1, h2, h3, h4, by simpa [hi] using h5, by simpa [hi] using h6⟩
  · obtain ⟨a, p2, L2, t2, h1, h2, h3⟩ := s.ptr i j π (un i _ (fun _ _ _ z => by cases z) e)
    by_cases hj : j = k
    · subst hj
      rw [h] at h2; cases h2
      exact ⟨a, _, _, _, h1, gk, h3⟩
    · exact ⟨a, _, _, _, h1, (gn j hj).trans h2, h3⟩
  · by_cases hi : i = k
    · subst hi; exact absurd gk (e _ _ _)
    · have := s.non i fun p L t z => e p L t ((gn i hi).trans z)
      exact ⟨this.1, by simpa [hi] using this.2⟩
theorem Sim.moreP (s : Sim G g env σ H ds) {A : Addr → Prop} (h1 : ∀ p, A p → ¬ g.Z p ∧ (∀ i, p ∉ fp (ds i)) ∧ Ob H p) : Sim G { g with P := fun p => g.P p ∨ A p } env σ H ds :=
  ⟨s.len, s.val, s.own, s.ptr, s.exc, s.non, s.nd, s.dj, fun i p h => ⟨(s.no i p h).1, fun z => z.elim (s.no i p h).2 fun z => (h1 p z).2.1 i h⟩, fun p z => ⟨fun q => q.elim (s.zt p z).1 fun q => (h1 p q).1 z, (s.zt p z).2⟩, fun p z => z.elim (s.pt.1 p) fun z => (h1 p z).2.2, s.pt.2⟩
theorem Sim.lessP (s : Sim G g env σ H ds) {A : Addr → Prop} (h1 : ∀ p, A p → g.P p) : Sim G { g with P := A } env σ H ds :=
  ⟨s.len, s.val, s.own, s.ptr, s.exc, s.non, s.nd, s.dj, fun i p h => ⟨(s.no i p h).1, fun z => (s.no i p h).2 (h1 p z)⟩, fun p z => ⟨fun q => (s.zt p z).1 (h1 p q), (s.zt p z).2⟩, fun p z => s.pt.1 p (h1 p z), s.pt.2⟩
theorem EvR.there {ev : EV} {v : V} {d : D} (r : EvR G g env H ds ev v d) : ∀ p ∈ fp d, ¬ g.Z p ∧ ¬ g.P p ∧ (∀ i, p ∉ fp (ds i)) ∧ ∃ o, H p = some o ∧ Mut (some o) := by
  intro p hp
  cases ev with
  | im w => rw [r.1, fp_z] at hp; cases hp
  | ptr k π => rw [r.1, fp_z] at hp; cases hp
  | tmp t => exact ⟨(r.2.2.2 p hp).1, (r.2.2.2 p hp).2.1, (r.2.2.2 p hp).2.2, r.1.there p hp⟩
theorem EvR.to {g1 : Gh} {env1 : Env3} {ev : EV} {v : V} {d : D} (r : EvR G g env H ds ev v d) (hz : g1.Z = g.Z) (hp : ∀ p, g1.P p → g.P p) (he : ∀ (k : Nat) p L t, env[k]? = some (some (SV.own p L t)) → ∃ L', env1[k]? = some (some (SV.own p L' t))) : EvR G g1 env1 H ds ev v d := by
  cases ev with
  | im w => exact ⟨r.1, by rw [hz]; exact r.2⟩
  | tmp t => exact ⟨by rw [hz]; exact r.1, r.2.1, r.2.2.1, fun p h => ⟨by rw [hz]; exact (r.2.2.2 p h).1, fun z => (r.2.2.2 p h).2.1 (hp p z), (r.2.2.2 p h).2.2⟩⟩
  | ptr k π =>
    obtain ⟨e, a, p, L, t, h1, h2, h3⟩ := r
    obtain ⟨L', h2'⟩ := he k p L t h2
    exact ⟨e, a, p, L', t, h1, h2', h3⟩
theorem EvL.to {g1 : Gh} {env1 : Env3} (hz : g1.Z = g.Z) (hp : ∀ p, g1.P p → g.P p) (he : ∀ (k : Nat) p L t, env[k]? = some (some (SV.own p L t)) → ∃ L', env1[k]? = some (some (SV.own p L' t))) : ∀ {evs : List EV} {vs : List V} {es : List D}, EvL G g env H ds evs vs es → EvL G g1 env1 H ds evs vs es
  | [], _, _, h => h
  | e :: r, _, _, ⟨v, vr, d, dr, e1, e2, a, b, c⟩ => ⟨v, vr, d, dr, e1, e2, a.to hz hp he, EvL.to hz hp he b, c⟩
theorem EvL.noP : ∀ {evs : List EV} {vs : List V} {es : List D}, EvL G g env H ds evs vs es → ∀ p ∈ fps es, ¬ g.P p ∧ ¬ g.Z p ∧ (∀ i, p ∉ fp (ds i)) ∧ ∃ o, H p = some o ∧ Mut (some o)
  | [], _, _, h => by rw [h.2]; intro p hp; cases hp
  | e :: r, _, _, ⟨v, vr, d, dr, e1, e2, a, b, c⟩ => by
    subst e2
    intro p hp
    rcases List.mem_append.mp hp with h | h
    · exact ⟨(a.there p h).2.1, (a.there p h).1, (a.there p h).2.2.1, (a.there p h).2.2.2⟩
    · exact EvL.noP b p h
theorem Sim.pend (s : Sim G g env σ H ds) {ev : EV} {v : V} {d : D} (r : EvR G g env H ds ev v d) : ∃ g1, Sim G g1 (lockE ev env) σ H ds ∧ g1.Z = g.Z ∧
    ∀ g2 env2 H2 σ2 ds2, Keep g1 H g2 H2 → Sim G g2 env2 σ2 H2 ds2 → ∃ g3, g3.Z = g2.Z ∧ Keep g H g3 H2 ∧ Sim G g3 (unlE ev env2) σ2 H2 ds2 ∧ (σ2 = σ → okE ev env2 = true → EvR G g3 (unlE ev env2) H2 ds2 ev v d) ∧
      ∀ evs vs es, EvL G g2 env2 H2 ds2 evs vs es → EvL G g3 (unlE ev env2) H2 ds2 evs vs es ∧ ∀ p ∈ fp d, p ∉ fps es := by
  have idl : ∀ (env : Env3), ∀ (k : Nat) p L t, env[k]? = some (some (SV.own p L t)) → ∃ L', env[k]? = some (some (SV.own p L' t)) := fun env k p L t h => ⟨L, h⟩
  cases ev with
  | im w =>
    refine ⟨g, s, rfl, fun g2 env2 H2 σ2 ds2 k s2 => ⟨g2, rfl, k, s2, fun _ _ => ⟨r.1, r.2.keep k.kz⟩, fun evs vs es l => ⟨l, ?_⟩⟩⟩
    rw [r.1, fp_z]; intro p hp; cases hp
  | tmp t =>
    obtain ⟨r1, r2, r3, r4⟩ := r
    refine ⟨{ g with P := fun p => g.P p ∨ p ∈ fp d }, s.moreP fun p hp => ⟨(r4 p hp).1, (r4 p hp).2.2, let ⟨o, e, m⟩ := r1.there p hp; Ob.mut e m⟩, rfl, fun g2 env2 H2 σ2 ds2 k s2 => ?_⟩
    have kd : ∀ p ∈ fp d, g2.P p ∧ H2 p = H p := fun p hp => k.p p (.inr hp)
    refine ⟨{ g2 with P := g.P }, rfl, ⟨k.z, fun p z => ⟨z, (k.p p (.inl z)).2⟩, fun _ z => z, k.tups, k.frzs, k.rt, k.lk, k.xa, k.l⟩, s2.lessP fun p z => (k.p p (.inl z)).1, fun _ _ => ?_, fun evs vs es l => ⟨EvL.to (g := g2) (g1 := { g2 with P := g.P }) rfl (fun p z => (k.p p (.inl z)).1) (idl env2) l, fun p hp hq => ?_⟩⟩
    · exact ⟨r1.keep k.kz fun p hp => (kd p hp).2, r2, r3, fun p hp => ⟨fun z => (s2.zt p z).1 (kd p hp).1, (r4 p hp).2.1, fun i z => (s2.no i p z).2 (kd p hp).1⟩⟩
    · exact (l.noP p hq).1 (kd p hp).1
  | ptr j π =>
    obtain ⟨rfl, a, p, L, t, rfl, h1, h2⟩ := r
    cases π with
    | nil =>
      refine ⟨g, s, rfl, fun g2 env2 H2 σ2 ds2 k s2 => ⟨g2, rfl, k, s2, fun es ok => ?_, fun evs vs es l => ⟨l, by rw [fp_z]; intro p hp; cases hp⟩⟩⟩
      subst es
      have : ∃ p L t, env2[j]? = some (some (SV.own p L t)) := by
        have ok2 : (match env2[j]? with | some (some (SV.own _ _ _)) => true | _ => false) = true := ok
        split at ok2
        · rename_i p' L' t' e; exact ⟨p', L', t', e⟩
        · cases ok2
      obtain ⟨p', L', t', h1'⟩ := this
      obtain ⟨v, q1, q2, q3, _⟩ := s.own _ _ _ _ h1
      obtain ⟨v', q1', q2', q3', _⟩ := s2.own _ _ _ _ h1'
      rw [q1] at q1'; cases q1'
      obtain ⟨b, b1, b2⟩ := adr_root q2 q3
      obtain ⟨c, c1, c2⟩ := adr_root q2' q3'
      rw [b2] at c2; cases c2
      rw [b1] at h2; cases h2
      exact ⟨rfl, _, p', L', t', rfl, h1', c1⟩
    | cons x π =>
      obtain ⟨v, q1, q2, q3, q4, q5, q6⟩ := s.own _ _ _ _ h1
      have e1 : lockE (.ptr j (x :: π)) env = env.set j (some (SV.own p ((x :: π) :: L) t)) := by unfold lockE; simp only [h1]
      refine ⟨{ g with lk := fun i => if i = j then (x :: π, a) :: g.lk j else g.lk i }, ?_, rfl, fun g2 env2 H2 σ2 ds2 k s2 => ?_⟩
      · rw [e1]
        refine s.lk h1 ((x :: π, a) :: g.lk j) (by simp [q5]) fun q hq => ?_
        rcases List.mem_cons.mp hq with rfl | hq
        · exact h2
        · exact q6 q hq
      · have kl : g2.lk j = (x :: π, a) :: g.lk j := by rw [k.lk]; simp
        have : ∃ p L t, env2[j]? = some (some (SV.own p L t)) := Classical.byContradiction fun e => by
          have := (s2.non j fun q L t z => e ⟨q, L, t, z⟩).2
          rw [kl] at this; cases this
        obtain ⟨p', L', t', h1'⟩ := this
        obtain ⟨v', q1', q2', q3', q4', q5', q6'⟩ := s2.own _ _ _ _ h1'
        rw [kl] at q5' q6'
        subst q5'
        have e2 : unlE (.ptr j (x :: π)) env2 = env2.set j (some (SV.own p' ((g.lk j).map (·.1)) t')) := by unfold unlE; simp only [h1', List.map_cons]
        have he : ∀ (k : Nat) p L t, env2[k]? = some (some (SV.own p L t)) → ∃ L', (env2.set j (some (SV.own p' ((g.lk j).map (·.1)) t')))[k]? = some (some (SV.own p L' t)) := fun k p L t h => by
          by_cases e : k = j
          · subst e
            rw [h1'] at h; cases h
            exact ⟨_, List.getElem?_set_self (get_lt h1')⟩
          · exact ⟨L, by rw [List.getElem?_set_ne (Ne.symm e)]; exact h⟩
        have s3 := s2.lk h1' (g.lk j) rfl fun q hq => q6' q (List.mem_cons_of_mem _ hq)
        have lke : (fun i => if i = j then g.lk j else g2.lk i) = g.lk := by
          funext i
          by_cases e : i = j
          · subst e; simp
          · rw [k.lk]; simp [e]
        rw [lke] at s3
        refine ⟨{ g2 with lk := g.lk }, rfl, ⟨k.z, k.p, k.q, k.tups, k.frzs, k.rt, rfl, k.xa, fun i q hq => k.l i q (by
          by_cases e : i = j
          · subst e; simp [hq]
          · simp [e, hq])⟩, by rw [e2]; exact s3, fun _ _ => ?_, fun evs vs es l => ⟨by rw [e2]; exact EvL.to (g := g2) (g1 := { g2 with lk := g.lk }) rfl (fun _ z => z) he l, by rw [fp_z]; intro p hp; cases hp⟩⟩
        rw [e2]
        exact ⟨rfl, a, _, _, _, rfl, List.getElem?_set_self (get_lt h1'), q6' (x :: π, a) (List.mem_cons_self ..)⟩
end
end VL
namespace VL
open PySem L2
inductive Out (α : Type) where
  | ok (a : α) (e : Env3) | exc (c : String) (e : Env3) | stuck
abbrev M3 (α : Type) := Env3 → Out α
inductive SO3 where
  | nx (e : Env3) | rt (v : EV) (e : Env3) | bk (e : Env3) | ct (e : Env3) | ex (c : String) (e : Env3) | stuck
abbrev S3 := Env3 → SO3
def SatX (G : Gm) (Wx : WX) (g : Gh) (σ : L2.St) (H : Hp) (c : String) (env' : Env3) : Prop := ∀ g' H', Keep g H g' H' → SimN G g' env' σ H' → Wx (.ref (G.cA c)) none σ H'
def SatE (G : Gm) (Wx : WX) (g : Gh) (σ : L2.St) (H : Hp) (Q : VK) : Out EV → Prop
  | .ok ev env' => ∀ g' v H', Keep g H g' H' → SimE G g' env' σ H' ev v → Q v H'
  | .exc c env' => SatX G Wx g σ H c env'
  | .stuck => False
def SatA (G : Gm) (Wx : WX) (g : Gh) (σ : L2.St) (H : Hp) (Q : List V → Hp → Prop) : Out (List EV) → Prop
  | .ok evs env' => ∀ g' vs H', Keep g H g' H' → SimA G g' env' σ H' evs vs → Q vs H'
  | .exc c env' => SatX G Wx g σ H c env'
  | .stuck => False
def SatB (G : Gm) (Wx : WX) (g : Gh) (σ : L2.St) (H : Hp) (Q : Bool → Hp → Prop) : Out Bool → Prop
  | .ok b env' => ∀ g' H', Keep g H g' H' → SimN G g' env' σ H' → Q b H'
  | .exc c env' => SatX G Wx g σ H c env'
  | .stuck => False
def liftE (G : Gm) (Wx : WX) (f : M3 EV) : TE := fun σ H Q => ∃ g env ds, Sim G g env σ H ds ∧ SatE G Wx g σ H Q (f env)
def liftT (G : Gm) (Wx : WX) (f : M3 Bool) : TT := fun σ H Q => ∃ g env ds, Sim G g env σ H ds ∧ SatB G Wx g σ H Q (f env)
def liftA (G : Gm) (Wx : WX) (f : M3 (List EV)) : TA := fun σ H Q => ∃ g env ds, Sim G g env σ H ds ∧ SatA G Wx g σ H Q (f env)
abbrev SE (G : Gm) (X : Cx) (Wx : WX) (e : Expr) (f : M3 EV) : Prop := PE X e (liftE G Wx f)
abbrev SB (G : Gm) (X : Cx) (Wx : WX) (e : Expr) (f : M3 Bool) : Prop := PT X e (liftT G Wx f)
abbrev SW (G : Gm) (X : Cx) (Wx : WX) (e : Expr) (f : M3 Bool) : Prop := PW X e (liftT G Wx f)
abbrev SA (G : Gm) (X : Cx) (Wx : WX) (es : List Expr) (f : M3 (List EV)) : Prop := PA X es (liftA G Wx f)
theorem pe_imp {X : Cx} {e : Expr} {t t' : TE} (h : PE X e t) (i : ∀ σ H Q, t' σ H Q → t σ H Q) : PE X e t' := ⟨fun pins s σ H Q I q => h.run pins s σ H Q I (i _ _ _ q)⟩
theorem pt_imp {X : Cx} {e : Expr} {t t' : TT} (h : PT X e t) (i : ∀ σ H Q, t' σ H Q → t σ H Q) : PT X e t' := ⟨fun pins s σ H Q I q => h.run pins s σ H Q I (i _ _ _ q)⟩
theorem pw_imp {X : Cx} {e : Expr} {t t' : TT} (h : PW X e t) (i : ∀ σ H Q, t' σ H Q → t σ H Q) : PW X e t' := ⟨fun wh pins s σ H Q I q => h.run wh pins s σ H Q I (i _ _ _ q)⟩
theorem pa_imp {X : Cx} {e : List Expr} {t t' : TA} (h : PA X e t) (i : ∀ σ H Q, t' σ H Q → t σ H Q) : PA X e t' := ⟨fun pos pins s σ H Q I q => h.run pos pins s σ H Q I (i _ _ _ q)⟩
theorem ps_imp {X : Cx} {e : Stmt} {t t' : TS} (h : PS X e t) (i : ∀ D σ H, t' D σ H → t D σ H) : PS X e t' := ⟨fun pins s σ H D I q => h.run pins s σ H D I (i _ _ _ q)⟩
theorem pss_imp {X : Cx} {e : List Stmt} {t t' : TS} (h : PSs X e t) (i : ∀ D σ H, t' D σ H → t D σ H) : PSs X e t' := ⟨fun pins s σ H D I q => h.run pins s σ H D I (i _ _ _ q)⟩
section
variable {G : Gm} {X : Cx} {Wx : WX} {g g' : Gh} {env env' : Env3} {σ : L2.St} {H H' : Hp} {ds : Nat → D}
theorem SatX.keep {c : String} (h : SatX G Wx g σ H c env) (k : Keep g H g' H') : SatX G Wx g' σ H' c env := fun g2 H2 k2 s2 => h g2 H2 (k.trans k2) s2
theorem SatE.keep {Q : VK} : ∀ {o : Out EV}, SatE G Wx g σ H Q o → Keep g H g' H' → SatE G Wx g' σ H' Q o
  | .ok _ _, h, k => fun g2 v H2 k2 s2 => h g2 v H2 (k.trans k2) s2
  | .exc _ _, h, k => SatX.keep h k
  | .stuck, h, _ => h
theorem SatA.keep {Q : List V → Hp → Prop} : ∀ {o : Out (List EV)}, SatA G Wx g σ H Q o → Keep g H g' H' → SatA G Wx g' σ H' Q o
  | .ok _ _, h, k => fun g2 v H2 k2 s2 => h g2 v H2 (k.trans k2) s2
  | .exc _ _, h, k => SatX.keep h k
  | .stuck, h, _ => h
theorem SatB.keep {Q : Bool → Hp → Prop} : ∀ {o : Out Bool}, SatB G Wx g σ H Q o → Keep g H g' H' → SatB G Wx g' σ H' Q o
  | .ok _ _, h, k => fun g2 H2 k2 s2 => h g2 H2 (k.trans k2) s2
  | .exc _ _, h, k => SatX.keep h k
  | .stuck, h, _ => h
theorem Sim.im (s : Sim G g env σ H ds) {w : W} {v : V} (r : Rep G g.Z H w v) : SimE G g env σ H (.im w) v := ⟨ds, .z, s, rfl, r⟩
theorem SimN.im (s : SimN G g env σ H) {w : W} {v : V} (r : Rep G g.Z H w v) : SimE G g env σ H (.im w) v := let ⟨_, s⟩ := s; s.im r
def pendB {β : Type} (ev : EV) (m : M3 β) : M3 β := fun env => match m (lockE ev env) with
  | .ok b env2 => if okE ev env2 = true then .ok b (unlE ev env2) else .stuck
  | .exc c env2 => .exc c (unlE ev env2)
  | .stuck => .stuck
def eNil : M3 (List EV) := fun env => .ok [] env
def eCons (e : M3 EV) (es : M3 (List EV)) : M3 (List EV) := fun env => match e env with
  | .ok ev env1 => (match pendB ev es env1 with
    | .ok evs env2 => .ok (ev :: evs) env2
    | .exc c env2 => .exc c env2
    | .stuck => .stuck)
  | .exc c env1 => .exc c env1
  | .stuck => .stuck
theorem pend_A {ev : EV} {v : V} {f : M3 (List EV)} {Q : List V → Hp → Prop} (s : SimE G g env σ H ev v) (h : match pendB ev f env with
    | .ok evs env2 => ∀ g' vs H', Keep g H g' H' → SimA G g' env2 σ H' (ev :: evs) (v :: vs) → Q vs H'
    | .exc c env2 => SatX G Wx g σ H c env2
    | .stuck => False) : liftA G Wx f σ H Q := by
  obtain ⟨ds, d, s, r⟩ := s
  obtain ⟨g1, s1, hz, pk⟩ := s.pend r
  refine ⟨g1, lockE ev env, ds, s1, ?_⟩
  unfold pendB at h
  cases e : f (lockE ev env) with
  | stuck => rw [e] at h; exact h.elim
  | exc c env2 =>
    rw [e] at h
    intro g2 H2 k2 ⟨ds2, s2⟩
    obtain ⟨g3, _, k3, s3, _⟩ := pk g2 env2 H2 σ ds2 k2 s2
    exact h g3 H2 k3 ⟨ds2, s3⟩
  | ok evs env2 =>
    rw [e] at h
    intro g2 vs H2 k2 ⟨ds2, es, s2, l2⟩
    obtain ⟨g3, hz3, k3, s3, r3, l3⟩ := pk g2 env2 H2 σ ds2 k2 s2
    by_cases ok : okE ev env2 = true
    · simp only [ok, if_true] at h
      obtain ⟨l4, l5⟩ := l3 _ _ _ l2
      exact h g3 vs H2 k3 ⟨ds2, d :: es, s3, v, vs, d, es, rfl, rfl, r3 rfl ok, l4, l5⟩
    · simp only [ok] at h; exact h.elim
theorem sa_nil : SA G X Wx [] eNil := by
  refine pa_imp pa_nil ?_
  rintro σ H Q ⟨g, env, ds, s, h⟩
  exact h g [] H (Keep.refl g H) ⟨ds, [], s, rfl, rfl⟩
theorem sa_cons {e : Expr} {es : List Expr} {f : M3 EV} {fs : M3 (List EV)} (ha : SE G X Wx e f) (hr : SA G X Wx es fs) (hs : starEach (e :: es) X.env = (false, eval e X.env) :: starEach es X.env := by rfl) : SA G X Wx (e :: es) (eCons f fs) := by
  refine pa_imp (pa_cons ha hr hs) ?_
  rintro σ H Q ⟨g, env, ds, s, h⟩
  refine ⟨g, env, ds, s, ?_⟩
  unfold eCons at h
  cases e1 : f env with
  | stuck => rw [e1] at h; exact h.elim
  | exc c env1 => rw [e1] at h; exact h
  | ok ev env1 =>
    simp only [e1] at h
    intro g1 v H1 k1 s1
    refine pend_A s1 ?_
    cases e2 : pendB ev fs env1 with
    | stuck => simp only [e2] at h; exact h.elim
    | exc c env2 => simp only [e2] at h; exact SatX.keep h k1
    | ok evs env2 =>
      simp only [e2] at h
      intro g2 vs H2 k2 s2
      exact h g2 (v :: vs) H2 (k1.trans k2) s2
def rd (env : Env3) : EV → Option T
  | .im w => some (.im w)
  | .tmp t => some t
  | .ptr k π => match env[k]? with
    | some (some (SV.own _ _ t)) => t.getP π
    | _ => none
theorem adr_val {Z : Addr → Prop} {t : T} {v : V} {d : D} {a : Addr} (r : RepT G Z H t v d) (h : adr t d [] = some a) : v = .ref a := by
  cases t with
  | im w => rw [r.1] at h; simp [adr, D.z] at h
  | _ =>
    obtain ⟨b, e1, e2⟩ := adr_root r rfl
    rw [e1] at h; cases h; exact e2
theorem EvR.rd {ev : EV} {v : V} {d : D} {t : T} (s : Sim G g env σ H ds) (r : EvR G g env H ds ev v d) (h : rd env ev = some t) : ∃ e, RepT G g.Z H t v e := by
  cases ev with
  | im w => cases h; exact ⟨_, rfl, r.2⟩
  | tmp u => cases h; exact ⟨_, r.1⟩
  | ptr k π =>
    obtain ⟨_, a, p, L, u, rfl, h1, h2⟩ := r
    have h' : u.getP π = some t := by simpa only [VL.rd, h1] using h
    obtain ⟨v', q1, q2, _⟩ := s.own _ _ _ _ h1
    obtain ⟨w, e, out, r1, _, r3, _, _⟩ := q2.lens h'
    have := r3 []
    rw [List.append_nil, h2] at this
    rw [adr_val r1 this.symm] at r1
    exact ⟨e, r1⟩
theorem SimE.rd {ev : EV} {v : V} {t : T} (s : SimE G g env σ H ev v) (h : rd env ev = some t) : ∃ e, RepT G g.Z H t v e := by
  obtain ⟨ds, d, s, r⟩ := s
  exact r.rd s h
theorem EvL.n : ∀ {evs : List EV} {vs : List V} {es : List D}, EvL G g env H ds evs vs es → evs.length = vs.length
  | [], _, _, h => by rw [h.1]; rfl
  | e :: r, _, _, ⟨v, vr, d, dr, e1, e2, a, b, c⟩ => by subst e1; simp [EvL.n b]
theorem SimA.n {evs : List EV} {vs : List V} (s : SimA G g env σ H evs vs) : SimN G g env σ H := let ⟨ds, _, s, _⟩ := s; ⟨ds, s⟩
theorem SimA.one {ev : EV} {v : V} (s : SimE G g env σ H ev v) : SimA G g env σ H [ev] [v] := by
  obtain ⟨ds, d, s, r⟩ := s
  exact ⟨ds, [d], s, v, [], d, [], rfl, rfl, r, ⟨rfl, rfl⟩, fun _ _ h => by cases h⟩
theorem SimA.hd {ev : EV} {v : V} {evs : List EV} {vs : List V} (s : SimA G g env σ H (ev :: evs) (v :: vs)) : SimE G g env σ H ev v := by
  obtain ⟨ds, es, s, v', vr, d, dr, e1, e2, a, b, c⟩ := s
  cases e1
  exact ⟨ds, d, s, a⟩
theorem SimA.tl {ev : EV} {v : V} {evs : List EV} {vs : List V} (s : SimA G g env σ H (ev :: evs) (v :: vs)) : SimA G g env σ H evs vs := by
  obtain ⟨ds, es, s, v', vr, d, dr, e1, e2, a, b, c⟩ := s
  cases e1
  exact ⟨ds, dr, s, b⟩
def eVar (i : Nat) : M3 EV := fun env => match env[i]? with
  | some (some (SV.val w)) => .ok (.im w) env
  | some (some (SV.own _ _ _)) => .ok (.ptr i []) env
  | some (some (SV.ptr k π)) => .ok (.ptr k π) env
  | _ => .stuck
theorem Sim.var (s : Sim G g env σ H ds) {i : Nat} {ev : EV} {env' : Env3} (h : eVar i env = .ok ev env') : env' = env ∧ ∃ v, σ[i]? = some (some v) ∧ SimE G g env σ H ev v := by
  unfold eVar at h
  split at h
  · rename_i w e
    cases h
    obtain ⟨v, h1, h2⟩ := s.val _ _ e
    exact ⟨rfl, v, h1, s.im h2⟩
  · rename_i p L t e
    cases h
    obtain ⟨v, h1, h2, h3, _⟩ := s.own _ _ _ _ e
    obtain ⟨a, h4, rfl⟩ := adr_root h2 h3
    exact ⟨rfl, _, h1, ds, .z, s, rfl, a, p, L, t, rfl, e, h4⟩
  · rename_i k π e
    cases h
    obtain ⟨a, p, L, t, h1, h2, h3⟩ := s.ptr _ _ _ e
    exact ⟨rfl, _, h1, ds, .z, s, rfl, a, p, L, t, rfl, h2, h3⟩
  · cases h
theorem eVar_ok {i : Nat} {c : String} {env' : Env3} (h : eVar i env = .exc c env') : False := by
  unfold eVar at h; split at h <;> cases h
theorem se_var {i : Nat} {x : Str} {pos : Pos} (hN : X.N[i]? = some x) (hv : Vis X.env.scope x) (hd : (x == ("__debug__" : Str)) = false := by decide) (hcd : (x == ("__classdict__" : Str)) = false := by decide) : SE G X Wx (.Name x pos) (eVar i) := by
  refine pe_imp (pe_var hN hv hd hcd) ?_
  rintro σ H Q ⟨g, env, ds, s, h⟩
  cases e : eVar i env with
  | stuck => rw [e] at h; exact h.elim
  | exc c env' => exact (eVar_ok e).elim
  | ok ev env' =>
    rw [e] at h
    obtain ⟨rfl, v, h1, h2⟩ := s.var e
    exact ⟨v, h1, h g v H (Keep.refl g H) h2⟩
def killS (k : Nat) : Option SV → Option SV
  | some (.ptr j π) => if j = k then none else some (.ptr j π)
  | s => s
def eMove (i : Nat) : M3 EV := fun env => match env[i]? with
  | some (some (SV.own false [] t)) => .ok (.tmp t) ((env.map (killS i)).set i none)
  | _ => .stuck
theorem Sim.clear (s : Sim G g env σ H ds) {i : Nat} {t : T} (h : env[i]? = some (some (SV.own false [] t))) : Sim G g ((env.map (killS i)).set i none) σ H (fun j => if j = i then .z else ds j) ∧
    ∀ (j : Nat) x, env[j]? = some (some x) → j ≠ i → (∀ π, x ≠ .ptr i π) → ((env.map (killS i)).set i none)[j]? = some (some x) := by
  obtain ⟨v, h1, h2, h3, h4, h5, h6⟩ := s.own _ _ _ _ h
  have hi : i < (env.map (killS i)).length := by rw [List.length_map]; exact get_lt h
  have h5' : g.lk i = [] := by
    cases e : g.lk i with
    | nil => rfl
    | cons x y => rw [e] at h5; cases h5
  have un : ∀ (j : Nat) x, ((env.map (killS i)).set i none)[j]? = some (some x) → env[j]? = some (some x) ∧ j ≠ i ∧ ∀ π, x ≠ .ptr i π := fun j x e => by
    by_cases hj : j = i
    · subst hj; rw [List.getElem?_set_self hi] at e; cases e
    · rw [List.getElem?_set_ne (Ne.symm hj), List.getElem?_map] at e
      cases e0 : env[j]? with
      | none => rw [e0] at e; cases e
      | some o =>
        rw [e0] at e
        cases o with
        | none => cases e
        | some y =>
          cases y with
          | ptr k π =>
            simp only [Option.map_some, killS] at e
            by_cases hk : k = i
            · simp [hk] at e
            · simp only [hk, if_false, Option.some.injEq] at e
              subst e
              exact ⟨rfl, hj, fun π' z => hk (by cases z; rfl)⟩
          | _ => cases e; exact ⟨rfl, hj, fun π' z => by cases z⟩
  have bk : ∀ (j : Nat) x, env[j]? = some (some x) → j ≠ i → (∀ π, x ≠ .ptr i π) → ((env.map (killS i)).set i none)[j]? = some (some x) := fun j x e hj hx => by
    rw [List.getElem?_set_ne (Ne.symm hj), List.getElem?_map, e]
    cases x with
    | ptr k π =>
      simp only [Option.map_some, killS]
      rw [if_neg fun z => hx π (by rw [z])]
    | _ => rfl
  refine ⟨⟨by simpa using s.len, fun j w e => s.val j w (un j _ e).1, fun j p L u e => ?_, fun j k π e => ?_, fun j c e => s.exc j c (un j _ e).1, fun j e => ?_, fun j => ?_, fun j k p hj hk => ?_, fun j p hj => ?_, s.zt, s.pt⟩, bk⟩
  · obtain ⟨e0, hj, _⟩ := un j _ e
    simp only [hj, if_false]
    exact s.own j p L u e0
  · obtain ⟨e0, hj, hx⟩ := un j _ e
    obtain ⟨a, p, L, u, q1, q2, q3⟩ := s.ptr j k π e0
    have hk : k ≠ i := fun z => hx π (by rw [z])
    refine ⟨a, p, L, u, q1, bk k _ q2 hk (fun _ z => by cases z), by simpa [hk] using q3⟩
  · by_cases hj : j = i
    · subst hj; simp [h5']
    · simp only [hj, if_false]
      refine s.non j fun p L u z => e p L u (bk j _ z hj fun _ q => by cases q)
  · by_cases hj : j = i
    · simp [hj, fp_z]
    · simpa [hj] using s.nd j
  · by_cases q : j = i
    · simp [q, fp_z] at hj
    · by_cases q' : k = i
      · simp [q', fp_z] at hk
      · simp only [q, q', if_false] at hj hk
        exact s.dj j k p hj hk
  · by_cases q : j = i
    · simp [q, fp_z] at hj
    · simp only [q, if_false] at hj
      exact s.no j p hj
theorem Sim.move (s : Sim G g env σ H ds) {i : Nat} {t : T} (h : env[i]? = some (some (SV.own false [] t))) : ∃ v, σ[i]? = some (some v) ∧ SimE G g ((env.map (killS i)).set i none) σ H (.tmp t) v := by
  obtain ⟨v, h1, h2, h3, h4, h5, h6⟩ := s.own _ _ _ _ h
  refine ⟨v, h1, _, ds i, (s.clear h).1, h2, h3, s.nd i, fun p hp => ⟨(s.no i p hp).1, (s.no i p hp).2, fun j => ?_⟩⟩
  by_cases q : j = i
  · simp [q, fp_z]
  · simp only [q, if_false]
    exact fun z => q (s.dj j i p z hp)
theorem se_move {i : Nat} {x : Str} {pos : Pos} (hN : X.N[i]? = some x) (hv : Vis X.env.scope x) (hd : (x == ("__debug__" : Str)) = false := by decide) (hcd : (x == ("__classdict__" : Str)) = false := by decide) : SE G X Wx (.Name x pos) (eMove i) := by
  refine pe_imp (pe_var hN hv hd hcd) ?_
  rintro σ H Q ⟨g, env, ds, s, h⟩
  unfold eMove at h
  split at h
  · rename_i t e
    obtain ⟨v, h1, h2⟩ := s.move e
    exact ⟨v, h1, h g v H (Keep.refl g H) h2⟩
  · exact h.elim
def eC (w : W) : M3 EV := fun env => .ok (.im w) env
theorem se_c {e : Expr} {v : V} {w : W} (h : PE X e (tC v)) (r : ∀ Z H, Rep G Z H w v) : SE G X Wx e (eC w) := by
  refine pe_imp h ?_
  rintro σ H Q ⟨g, env, ds, s, h⟩
  exact h g v H (Keep.refl g H) (s.im (r _ _))
variable {pos : Pos}
theorem se_int {i j} : SE G X Wx (.Constant (.int i) j pos) (eC (.int i)) := se_c pe_int fun _ _ => rfl
theorem se_bl {b j} : SE G X Wx (.Constant (.bool b) j pos) (eC (.bl b)) := se_c pe_bl fun _ _ => rfl
theorem se_non {j} : SE G X Wx (.Constant .none j pos) (eC .non) := se_c pe_non fun _ _ => rfl
theorem se_str {x : String} {j} : SE G X Wx (.Constant (.str (Str.ofString x)) j pos) (eC (.str x)) := se_c pe_str fun _ _ => rfl
abbrev F2 := T → T → Option EV
def ePair (a b : M3 EV) : M3 (EV × EV) := fun env => match a env with
  | .ok x env1 => (match pendB x b env1 with
    | .ok y env2 => .ok (x, y) env2
    | .exc c env2 => .exc c env2
    | .stuck => .stuck)
  | .exc c env1 => .exc c env1
  | .stuck => .stuck
def op2 (r : F2) (x y : EV) (env : Env3) : Out EV := match rd env x, rd env y with
  | some t, some u => (match r t u with
    | some ev => .ok ev env
    | none => .stuck)
  | _, _ => .stuck
def eOp (r : F2) (a b : M3 EV) : M3 EV := fun env => match ePair a b env with
  | .ok (x, y) env2 => op2 r x y env2
  | .exc c env2 => .exc c env2
  | .stuck => .stuck
def liftR (G : Gm) (r : F2) : R2 := fun x y H Q => ∃ g env σ ds tx ty dx dy ev, Sim G g env σ H ds ∧ RepT G g.Z H tx x dx ∧ RepT G g.Z H ty y dy ∧ r tx ty = some ev ∧ ∀ g' v H', Keep g H g' H' → SimE G g' env σ H' ev v → Q v H'
theorem pend_E {ev : EV} {v : V} {f : M3 EV} {Q : VK} (s : SimE G g env σ H ev v) (h : match pendB ev f env with
    | .ok y env2 => ∀ g' u H', Keep g H g' H' → SimA G g' env2 σ H' [ev, y] [v, u] → Q u H'
    | .exc c env2 => SatX G Wx g σ H c env2
    | .stuck => False) : liftE G Wx f σ H Q := by
  obtain ⟨ds, d, s, r⟩ := s
  obtain ⟨g1, s1, hz, pk⟩ := s.pend r
  refine ⟨g1, lockE ev env, ds, s1, ?_⟩
  unfold pendB at h
  cases e : f (lockE ev env) with
  | stuck => rw [e] at h; exact h.elim
  | exc c env2 =>
    rw [e] at h
    intro g2 H2 k2 ⟨ds2, s2⟩
    obtain ⟨g3, _, k3, s3, _⟩ := pk g2 env2 H2 σ ds2 k2 s2
    exact h g3 H2 k3 ⟨ds2, s3⟩
  | ok y env2 =>
    rw [e] at h
    intro g2 u H2 k2 s2
    obtain ⟨ds2, es, s2, l2⟩ := SimA.one s2
    obtain ⟨g3, hz3, k3, s3, r3, l3⟩ := pk g2 env2 H2 σ ds2 k2 s2
    by_cases ok : okE ev env2 = true
    · simp only [ok, if_true] at h
      obtain ⟨l4, l5⟩ := l3 _ _ _ l2
      exact h g3 u H2 k3 ⟨ds2, d :: es, s3, v, [u], d, es, rfl, rfl, r3 rfl ok, l4, l5⟩
    · simp only [ok] at h; exact h.elim
theorem pair_run {fa fb : M3 EV} {Q : V → V → Hp → Prop} (s : Sim G g env σ H ds) (h : match ePair fa fb env with
    | .ok (x, y) env2 => ∀ g' v u H', Keep g H g' H' → SimA G g' env2 σ H' [x, y] [v, u] → Q v u H'
    | .exc c env2 => SatX G Wx g σ H c env2
    | .stuck => False) : liftE G Wx fa σ H fun v H1 => liftE G Wx fb σ H1 fun u H2 => Q v u H2 := by
  refine ⟨g, env, ds, s, ?_⟩
  unfold ePair at h
  cases e1 : fa env with
  | stuck => rw [e1] at h; exact h.elim
  | exc c env1 => rw [e1] at h; exact h
  | ok x env1 =>
    simp only [e1] at h
    intro g1 v H1 k1 s1
    refine pend_E s1 ?_
    cases e2 : pendB x fb env1 with
    | stuck => simp only [e2] at h
    | exc c env2 => simp only [e2] at h; exact SatX.keep h k1
    | ok y env2 =>
      simp only [e2] at h
      intro g2 u H2 k2 s2
      exact h g2 v u H2 (k1.trans k2) s2
theorem bin3 {r : F2} {fa fb : M3 EV} : ∀ σ H Q, liftE G Wx (eOp r fa fb) σ H Q → tOp (liftR G r) (liftE G Wx fa) (liftE G Wx fb) σ H Q := by
  rintro σ H Q ⟨g, env, ds, s, h⟩
  refine pair_run (Q := fun v u H2 => liftR G r v u H2 Q) s ?_
  unfold eOp at h
  cases e : ePair fa fb env with
  | stuck => rw [e] at h; exact h.elim
  | exc c env2 => rw [e] at h; exact h
  | ok xy env2 =>
    obtain ⟨x, y⟩ := xy
    rw [e] at h
    intro g2 v u H2 k2 s2
    have h' : SatE G Wx g σ H Q (op2 r x y env2) := h
    unfold op2 at h'
    split at h'
    · rename_i t w e1 e2
      split at h'
      · rename_i ev e3
        obtain ⟨dx, rx⟩ := s2.hd.rd e1
        obtain ⟨dy, ry⟩ := s2.tl.hd.rd e2
        obtain ⟨ds2, s3⟩ := s2.n
        exact ⟨g2, env2, σ, ds2, t, w, dx, dy, ev, s3, rx, ry, e3, fun g' v' H' k' s' => h' g' v' H' (k2.trans k') s'⟩
      · exact h'.elim
    · exact h'.elim
variable {a b e : Expr} {fa fb fe : M3 EV}
theorem se_bin {op : Operator} {r : F2} (ho : OpR X (binaryOp op) (liftR G r)) (ha : SE G X Wx a fa) (hb : SE G X Wx b fb) : SE G X Wx (.BinOp a op b pos) (eOp r fa fb) := pe_imp (pe_op ho ha hb) bin3
theorem se_cmp {op : CmpOp} {r : F2} (ho : OpR X (compareOp op) (liftR G r)) (ha : SE G X Wx a fa) (hb : SE G X Wx b fb) (hm : behindInMarks op b = false) : SE G X Wx (.Compare a [op] [b] pos) (eOp r fa fb) := pe_imp (pe_cmpR ho ha hb hm) bin3
theorem opR_imp {f : Value → Value → Sem Value} {r r' : R2} (h : OpR X f r) (i : ∀ x y H Q, r' x y H Q → r x y H Q) : OpR X f r' := fun pins s σ H x y v u Q I rx ry q => h pins s σ H x y v u Q I rx ry (i _ _ _ _ q)
theorem opR_or {f : Value → Value → Sem Value} {r1 r2 : R2} (h1 : OpR X f r1) (h2 : OpR X f r2) : OpR X f (fun x y H Q => r1 x y H Q ∨ r2 x y H Q) := fun pins s σ H x y v u Q I rx ry q => q.elim (h1 pins s σ H x y v u Q I rx ry) (h2 pins s σ H x y v u Q I rx ry)
instance {i j : Int} : Decidable (CMul i j) := inferInstanceAs (Decidable (_ ∨ _))
instance {i j : Int} : Decidable (CMulW i j) := inferInstanceAs (Decidable (_ < _))
instance {i j : Int} : Decidable (CDivW i j) := inferInstanceAs (Decidable (_ ∧ _))
instance {i j : Int} : Decidable (CPow i j) := inferInstanceAs (Decidable (_ ∧ _))
def fInt (C : Int → Int → Prop) [∀ i j, Decidable (C i j)] (f : Int → Int → W) : F2 := fun x y => match x, y with
  | .im (.int i), .im (.int j) => if C i j then some (.im (f i j)) else none
  | _, _ => none
def fInt0 (f : Int → Int → W) : F2 := fun x y => match x, y with
  | .im (.int i), .im (.int j) => some (.im (f i j))
  | _, _ => none
theorem fInt_lift {C : Int → Int → Prop} [∀ i j, Decidable (C i j)] {f : Int → Int → Int} : ∀ x y H Q, liftR G (fInt C fun i j => .int (f i j)) x y H Q → rI C (fun i j => .int (f i j)) x y H Q := by
  rintro x y H Q ⟨g, env, σ, ds, tx, ty, dx, dy, ev, s, rx, ry, q, k⟩
  unfold fInt at q
  split at q
  · rename_i i j
    by_cases hc : C i j
    · rw [if_pos hc] at q
      cases q
      exact ⟨i, j, rx.2, ry.2, hc, k g _ H (Keep.refl g H) (s.im rfl)⟩
    · rw [if_neg hc] at q; cases q
  · cases q
theorem fInt0_lift {f : Int → Int → Int} : ∀ x y H Q, liftR G (fInt0 fun i j => .int (f i j)) x y H Q → rI0 (fun i j => .int (f i j)) x y H Q := by
  rintro x y H Q ⟨g, env, σ, ds, tx, ty, dx, dy, ev, s, rx, ry, q, k⟩
  unfold fInt0 at q
  split at q
  · cases q
    exact ⟨_, _, rx.2, ry.2, k g _ H (Keep.refl g H) (s.im rfl)⟩
  · cases q
theorem fIntB_lift {f : Int → Int → Bool} : ∀ x y H Q, liftR G (fInt0 fun i j => .bl (f i j)) x y H Q → rI0 (fun i j => .bl (f i j)) x y H Q := by
  rintro x y H Q ⟨g, env, σ, ds, tx, ty, dx, dy, ev, s, rx, ry, q, k⟩
  unfold fInt0 at q
  split at q
  · cases q
    exact ⟨_, _, rx.2, ry.2, k g _ H (Keep.refl g H) (s.im rfl)⟩
  · cases q
def fSub : F2 := fInt0 fun i j => .int (i - j)
def fMul : F2 := fInt (fun i j => CMul i j ∨ CMulW i j) fun i j => .int (i * j)
def fDiv : F2 := fInt CDivW fun i j => .int (i / j)
def fMod : F2 := fInt (fun _ j => 0 < j) fun i j => .int (i % j)
def fPow : F2 := fInt CPow fun i j => .int (i ^ j.toNat)
theorem op_mulA : OpR X (binaryOp .Mult) (rI (fun i j => CMul i j ∨ CMulW i j) fun i j => .int (i * j)) := opR_imp (opR_or op_mul op_mulW) fun x y H Q ⟨i, j, h1, h2, h3, h4⟩ => h3.elim (fun h3 => .inl ⟨i, j, h1, h2, h3, h4⟩) fun h3 => .inr ⟨i, j, h1, h2, h3, h4⟩
theorem se_sub (ha : SE G X Wx a fa) (hb : SE G X Wx b fb) : SE G X Wx (.BinOp a .Sub b pos) (eOp fSub fa fb) := se_bin (opR_imp op_sub fInt0_lift) ha hb
theorem se_mul (ha : SE G X Wx a fa) (hb : SE G X Wx b fb) : SE G X Wx (.BinOp a .Mult b pos) (eOp fMul fa fb) := se_bin (opR_imp op_mulA fInt_lift) ha hb
theorem se_fdiv (ha : SE G X Wx a fa) (hb : SE G X Wx b fb) : SE G X Wx (.BinOp a .FloorDiv b pos) (eOp fDiv fa fb) := se_bin (opR_imp op_fdivW fInt_lift) ha hb
theorem se_mod (ha : SE G X Wx a fa) (hb : SE G X Wx b fb) : SE G X Wx (.BinOp a .Mod b pos) (eOp fMod fa fb) := se_bin (opR_imp op_mod fInt_lift) ha hb
theorem se_pow (ha : SE G X Wx a fa) (hb : SE G X Wx b fb) : SE G X Wx (.BinOp a .Pow b pos) (eOp fPow fa fb) := se_bin (opR_imp op_pow fInt_lift) ha hb
def fLt : F2 := fInt0 fun i j => .bl (decide (i < j))
def fGt : F2 := fInt0 fun i j => .bl (decide (j < i))
end
end VL
namespace VL
open PySem L2
mutual
def W.dat : W → PyData
  | .non => .none
  | .bl b => .bool b
  | .int i => .int i
  | .str s => .str (Str.ofString s)
  | .tup xs => .tuple (W.dats xs)
  | .ktp xs => .tuple (W.dats xs)
  | .lst xs => .list (W.dats xs)
  | .scr xs => .list (W.dats xs)
  | .ins _ _ => .none
def W.dats : List W → List PyData
  | [] => []
  | x :: xs => W.dat x :: W.dats xs
end
mutual
def okW : Nat → W → Bool
  | _, .non => true
  | _, .bl _ => true
  | _, .int _ => true
  | _, .str _ => true
  | n + 1, .tup xs => okWs n xs
  | n + 1, .ktp xs => okWs n xs
  | n + 1, .lst xs => okWs n xs
  | n + 1, .scr xs => okWs n xs
  | _, _ => false
def okWs : Nat → List W → Bool
  | _, [] => true
  | n, x :: xs => okW n x && okWs n xs
end
mutual
def W.eqv : W → W → Bool
  | .non, .non => true
  | .bl a, .bl b => a == b
  | .bl a, .int j => decide ((if a then 1 else 0) = j)
  | .int i, .bl b => decide (i = (if b then 1 else 0))
  | .int i, .int j => decide (i = j)
  | .str x, .str y => decide (x = y)
  | .tup xs, .tup ys => W.eqvs xs ys
  | .tup xs, .ktp ys => W.eqvs xs ys
  | .ktp xs, .tup ys => W.eqvs xs ys
  | .ktp xs, .ktp ys => W.eqvs xs ys
  | .lst xs, .lst ys => W.eqvs xs ys
  | .lst xs, .scr ys => W.eqvs xs ys
  | .scr xs, .lst ys => W.eqvs xs ys
  | .scr xs, .scr ys => W.eqvs xs ys
  | _, _ => false
def W.eqvs : List W → List W → Bool
  | [], [] => true
  | x :: xs, y :: ys => W.eqv x y && W.eqvs xs ys
  | _, _ => false
end
mutual
def T.toW : T → Option W
  | .im w => some w
  | .ml xs => (T.toWs xs).map .lst
  | .tp xs => (T.toWs xs).map .tup
  | _ => none
def T.toWs : List T → Option (List W)
  | [] => some []
  | x :: xs => (T.toW x).bind fun y => (T.toWs xs).map fun ys => y :: ys
end
theorem strOk_ofString (s : String) : PySem.PyData.strOk (Str.ofString s) = true := by
  unfold PySem.PyData.strOk
  rw [Str.ofString_eq_toList]
  show Array.all (s.toList.map Char.toNat).toArray (fun x => decide (x < 0x110000)) = true
  rw [List.all_toArray, List.all_eq_true]
  intro n hn
  obtain ⟨c, _, rfl⟩ := List.mem_map.mp hn
  have := c.valid
  have h2 : c.val.toNat < 0x110000 := by
    rcases c.valid with h | ⟨_, h⟩
    · exact Nat.lt_trans h (by decide)
    · exact h
  exact decide_eq_true h2
theorem ofString_len (s : String) : (Str.ofString s).length = s.length := by
  rw [Str.ofString_eq_toList]
  show (s.toList.map Char.toNat).toArray.size = _
  rw [List.size_toArray, List.length_map, String.length_toList]
theorem ofString_inj {s t : String} (h : Str.ofString s = Str.ofString t) : s = t := by
  rw [Str.ofString_eq_toList, Str.ofString_eq_toList] at h
  have h1 : (s.toList.map Char.toNat) = (t.toList.map Char.toNat) := by
    have h2 := congrArg Str.cps h
    simpa using congrArg Array.toList h2
  have h3 : s.toList = t.toList := by
    have inj : ∀ (l m : List Char), l.map Char.toNat = m.map Char.toNat → l = m := by
      intro l
      induction l with
      | nil => intro m h; cases m with
        | nil => rfl
        | cons _ _ => cases h
      | cons c l ih => intro m h; cases m with
        | nil => cases h
        | cons d m =>
          rw [List.map_cons, List.map_cons] at h
          injection h with h1 h2
          rw [ih m h2, Char.toNat_inj.mp h1]
    exact inj _ _ h1
  exact String.ext (by simpa using h3)
theorem ofString_app (s t : String) : Str.ofString (s ++ t) = Str.ofString s ++ Str.ofString t := by
  rw [Str.ofString_eq_toList, Str.ofString_eq_toList, Str.ofString_eq_toList]
  show _ = (⟨_ ++ _⟩ : Str)
  simp
mutual
theorem dat_can : ∀ w : W, (W.dat w).canLay0 = true
  | .non => rfl
  | .bl _ => rfl
  | .int _ => rfl
  | .str s => by
    show PyData.canLay0 (.str _) = true
    unfold PyData.canLay0
    exact strOk_ofString s
  | .tup xs => by
    show PyData.canLay0 (.tuple _) = true
    unfold PyData.canLay0
    exact dats_can xs
  | .ktp xs => by
    show PyData.canLay0 (.tuple _) = true
    unfold PyData.canLay0
    exact dats_can xs
  | .lst xs => by
    show PyData.canLay0 (.list _) = true
    unfold PyData.canLay0
    exact dats_can xs
  | .scr xs => by
    show PyData.canLay0 (.list _) = true
    unfold PyData.canLay0
    exact dats_can xs
  | .ins _ _ => rfl
theorem dats_can : ∀ ws : List W, PyData.canLayAll0 (W.dats ws) = true
  | [] => rfl
  | x :: xs => by
    show PyData.canLayAll0 (_ :: _) = true
    unfold PyData.canLayAll0
    rw [dat_can x, dats_can xs]; rfl
end
mutual
theorem dat_depth : ∀ (n : Nat) (w : W), okW n w = true → (W.dat w).depth ≤ n
  | n, .non, _ => Nat.zero_le _
  | n, .bl _, _ => Nat.zero_le _
  | n, .int _, _ => Nat.zero_le _
  | n, .str s, _ => Nat.zero_le _
  | n + 1, .tup xs, h => by
    show PyData.depth (.tuple _) ≤ _
    unfold PyData.depth
    exact Nat.succ_le_succ (dats_depth n xs h)
  | n + 1, .ktp xs, h => by
    show PyData.depth (.tuple _) ≤ _
    unfold PyData.depth
    exact Nat.succ_le_succ (dats_depth n xs h)
  | n + 1, .lst xs, h => by
    show PyData.depth (.list _) ≤ _
    unfold PyData.depth
    exact Nat.succ_le_succ (dats_depth n xs h)
  | n + 1, .scr xs, h => by
    show PyData.depth (.list _) ≤ _
    unfold PyData.depth
    exact Nat.succ_le_succ (dats_depth n xs h)
  | 0, .tup _, h => by cases h
  | 0, .ktp _, h => by cases h
  | 0, .lst _, h => by cases h
  | 0, .scr _, h => by cases h
  | 0, .ins _ _, h => by cases h
  | n + 1, .ins _ _, h => by cases h
theorem dats_depth : ∀ (n : Nat) (ws : List W), okWs n ws = true → PyData.depthAll (W.dats ws) ≤ n
  | _, [], _ => Nat.zero_le _
  | n, x :: xs, h => by
    show PyData.depthAll (_ :: _) ≤ n
    unfold PyData.depthAll
    simp only [okWs, Bool.and_eq_true] at h
    have h1 := dat_depth n x h.1
    have h2 := dats_depth n xs h.2
    omega
end
theorem dat_shaped {w : W} (h : okW 64 w = true) : SeqAt.shaped (W.dat w) = true := by
  unfold SeqAt.shaped
  rw [dat_can, Bool.true_and]
  exact decide_eq_true (dat_depth 64 w h)
mutual
theorem eqv_dat : ∀ (n m : Nat) (x y : W), okW n x = true → okW m y = true → PyData.eqv (W.dat x) (W.dat y) = W.eqv x y
  | n, m, .non, y, hx, hy => by cases y <;> simp_all [W.dat, W.eqv, okW, PyData.eqv]
  | n, m, .bl a, y, hx, hy => by cases y <;> simp_all [W.dat, W.eqv, okW, PyData.eqv] <;> rfl
  | n, m, .int i, y, hx, hy => by cases y <;> simp_all [W.dat, W.eqv, okW, PyData.eqv] <;> rfl
  | n, m, .str s, y, hx, hy => by
    cases y <;> simp_all [W.dat, W.eqv, okW, PyData.eqv]
    rename_i t
    by_cases e : s = t
    · subst e; simp
    · have : ¬ Str.ofString s = Str.ofString t := fun h => e (ofString_inj h)
      simp [e, this]
  | n + 1, m, .tup xs, y, hx, hy => by
    cases y <;> try (simp_all [W.dat, W.eqv, okW, PyData.eqv]; done)
    all_goals (cases m with
      | zero => simp [okW] at hy
      | succ m => simp only [W.dat, W.eqv, PyData.eqv]; exact eqvs_dat n m _ _ hx hy)
  | n + 1, m, .ktp xs, y, hx, hy => by
    cases y <;> try (simp_all [W.dat, W.eqv, okW, PyData.eqv]; done)
    all_goals (cases m with
      | zero => simp [okW] at hy
      | succ m => simp only [W.dat, W.eqv, PyData.eqv]; exact eqvs_dat n m _ _ hx hy)
  | n + 1, m, .lst xs, y, hx, hy => by
    cases y <;> try (simp_all [W.dat, W.eqv, okW, PyData.eqv]; done)
    all_goals (cases m with
      | zero => simp [okW] at hy
      | succ m => simp only [W.dat, W.eqv, PyData.eqv]; exact eqvs_dat n m _ _ hx hy)
  | n + 1, m, .scr xs, y, hx, hy => by
    cases y <;> try (simp_all [W.dat, W.eqv, okW, PyData.eqv]; done)
    all_goals (cases m with
      | zero => simp [okW] at hy
      | succ m => simp only [W.dat, W.eqv, PyData.eqv]; exact eqvs_dat n m _ _ hx hy)
  | 0, m, .tup _, y, h, _ => by simp [okW] at h
  | 0, m, .ktp _, y, h, _ => by simp [okW] at h
  | 0, m, .lst _, y, h, _ => by simp [okW] at h
  | 0, m, .scr _, y, h, _ => by simp [okW] at h
  | n, m, .ins _ _, y, h, _ => by cases n <;> simp [okW] at h
theorem eqvs_dat : ∀ (n m : Nat) (xs ys : List W), okWs n xs = true → okWs m ys = true → PyData.eqvAll (W.dats xs) (W.dats ys) = W.eqvs xs ys
  | _, _, [], [], _, _ => by simp [W.dats, PyData.eqvAll, W.eqvs]
  | _, _, [], _ :: _, _, _ => by simp [W.dats, PyData.eqvAll, W.eqvs]
  | _, _, _ :: _, [], _, _ => by simp [W.dats, PyData.eqvAll, W.eqvs]
  | n, m, x :: xs, y :: ys, hx, hy => by
    simp only [okWs, Bool.and_eq_true] at hx hy
    simp only [W.dats, PyData.eqvAll, W.eqvs]
    rw [eqv_dat n m x y hx.1 hy.1, eqvs_dat n m xs ys hx.2 hy.2]
end
mutual
theorem rep_dp {G : Gm} {Z : Addr → Prop} {H : Hp} : ∀ (n : Nat) {w : W} {v : V}, okW n w = true → Rep G Z H w v → Dp G.K H v (W.dat w)
  | n, .non, v, _, r => by rw [show v = _ from r]; exact .non
  | n, .bl b, v, _, r => by rw [show v = _ from r]; exact .bl b
  | n, .int i, v, _, r => by rw [show v = _ from r]; exact .int i
  | n, .str s, v, _, r => by rw [show v = _ from r]; exact .str _
  | n + 1, .tup xs, v, h, r => by
    obtain ⟨p, vs, rfl, h1, q⟩ := r
    exact .tup (SqT.of h1) (repL_dp n h q)
  | n + 1, .ktp xs, v, h, r => by
    obtain ⟨p, vs, rfl, h1, q⟩ := r
    exact .tup h1 (repL_dp n h q)
  | n + 1, .lst xs, v, h, r => by
    obtain ⟨p, vs, rfl, _, h1, q⟩ := r
    exact .lst (SqL.of h1) (repL_dp n h q)
  | n + 1, .scr xs, v, h, r => by
    obtain ⟨p, vs, rfl, h1, q⟩ := r
    exact .lst h1.seq (repL_dp n h q)
  | 0, .tup _, v, h, r => by simp [okW] at h
  | 0, .ktp _, v, h, r => by simp [okW] at h
  | 0, .lst _, v, h, r => by simp [okW] at h
  | 0, .scr _, v, h, r => by simp [okW] at h
  | n, .ins _ _, v, h, r => by cases n <;> simp [okW] at h
theorem repL_dp {G : Gm} {Z : Addr → Prop} {H : Hp} : ∀ (n : Nat) {ws : List W} {vs : List V}, okWs n ws = true → RepL G Z H ws vs → DpAll G.K H vs (W.dats ws)
  | _, [], vs, _, r => by rw [show vs = _ from r]; exact .nil
  | n, x :: xs, vs, h, r => by
    obtain ⟨v, rr, rfl, a, b⟩ := r
    simp only [okWs, Bool.and_eq_true] at h
    exact .cons (rep_dp n h.1 a) (repL_dp n h.2 b)
end
mutual
theorem repT_dp {G : Gm} {Z : Addr → Prop} {H : Hp} : ∀ (n : Nat) {t : T} {w : W} {v : V} {d : D}, t.toW = some w → okW n w = true → RepT G Z H t v d → Dp G.K H v (W.dat w)
  | n, .im w', w, v, d, e, h, r => by cases e; exact rep_dp n h r.2
  | n, .ml xs, w, v, d, e, h, r => by
    obtain ⟨ys, e1, rfl⟩ := Option.map_eq_some_iff.mp (show (T.toWs xs).map W.lst = some w from e)
    obtain ⟨p, vs, ds, rfl, _, h1, q⟩ := r
    cases n with
    | zero => simp [okW] at h
    | succ n => exact .lst (SqL.of h1) (repTL_dp n e1 h q)
  | n, .tp xs, w, v, d, e, h, r => by
    obtain ⟨ys, e1, rfl⟩ := Option.map_eq_some_iff.mp (show (T.toWs xs).map W.tup = some w from e)
    obtain ⟨p, vs, ds, rfl, _, h1, q⟩ := r
    cases n with
    | zero => simp [okW] at h
    | succ n => exact .tup (SqT.of h1) (repTL_dp n e1 h q)
  | _, .md _, _, _, _, e, _, _ => by simp [T.toW] at e
  | _, .mt _, _, _, _, e, _, _ => by simp [T.toW] at e
  | _, .mi _ _, _, _, _, e, _, _ => by simp [T.toW] at e
theorem repTL_dp {G : Gm} {Z : Addr → Prop} {H : Hp} : ∀ (n : Nat) {ts : List T} {ws : List W} {vs : List V} {ds : List D}, T.toWs ts = some ws → okWs n ws = true → RepTL G Z H ts vs ds → DpAll G.K H vs (W.dats ws)
  | _, [], ws, vs, ds, e, _, r => by cases e; rw [r.1]; exact .nil
  | n, x :: xs, ws, vs, ds, e, h, r => by
    obtain ⟨v, rr, d, dr, rfl, rfl, a, b⟩ := r
    obtain ⟨y, e1, e2⟩ := Option.bind_eq_some_iff.mp (show (T.toW x).bind (fun y => (T.toWs xs).map fun ys => y :: ys) = some ws from e)
    obtain ⟨zs, e3, rfl⟩ := Option.map_eq_some_iff.mp e2
    simp only [okWs, Bool.and_eq_true] at h
    exact .cons (repT_dp n e1 h.1 a) (repTL_dp n e3 h.2 b)
end
def eqT (x y : T) : Option Bool := match x.toW, y.toW with
  | some a, some b => if okW 64 a = true ∧ okW 64 b = true then some (W.eqv a b) else none
  | _, _ => none
def fEq : F2 := fun x y => (eqT x y).map fun b => .im (.bl b)
def fNe : F2 := fun x y => (eqT x y).map fun b => .im (.bl (!b))
section
variable {G : Gm} {X : Cx} {Wx : WX} {a b c e : Expr} {fa fb fc fe : M3 EV} {pos : Pos} {g : Gh} {env : Env3} {σ : L2.St} {H : Hp} {ds : Nat → D}
theorem eqT_dp {Z : Addr → Prop} {tx ty : T} {x y : V} {dx dy : D} {r : Bool} (h : eqT tx ty = some r) (rx : RepT G Z H tx x dx) (ry : RepT G Z H ty y dy) :
    ∃ a b, Dp G.K H x a ∧ Dp G.K H y b ∧ SeqAt.shaped a = true ∧ SeqAt.shaped b = true ∧ PyData.eqv a b = r := by
  unfold eqT at h
  split at h
  · rename_i a b e1 e2
    split at h
    · rename_i hk
      cases h
      exact ⟨_, _, repT_dp 64 e1 hk.1 rx, repT_dp 64 e2 hk.2 ry, dat_shaped hk.1, dat_shaped hk.2, eqv_dat 64 64 _ _ hk.1 hk.2⟩
    · cases h
  · cases h
theorem op_fEq (hK : X.K = G.K) (hu : X.A.units + 64 < cLine) : OpR X (compareOp .Eq) (liftR G fEq) := by
  refine opR_imp (op_eqD hu) ?_
  rintro x y H Q ⟨g, env, σ, ds, tx, ty, dx, dy, ev, s, rx, ry, q, k⟩
  obtain ⟨r, h1, rfl⟩ := Option.map_eq_some_iff.mp q
  obtain ⟨a, b, h2, h3, h4, h5, h6⟩ := eqT_dp h1 rx ry
  rw [hK]
  exact ⟨_, _, h2, h3, h4, h5, k g _ H (Keep.refl g H) (s.im (by rw [h6]; exact rfl))⟩
theorem op_fNe (hK : X.K = G.K) (hu : X.A.units + 64 < cLine) : OpR X (compareOp .NotEq) (liftR G fNe) := by
  refine opR_imp (op_neD hu) ?_
  rintro x y H Q ⟨g, env, σ, ds, tx, ty, dx, dy, ev, s, rx, ry, q, k⟩
  obtain ⟨r, h1, rfl⟩ := Option.map_eq_some_iff.mp q
  obtain ⟨a, b, h2, h3, h4, h5, h6⟩ := eqT_dp h1 rx ry
  rw [hK]
  exact ⟨_, _, h2, h3, h4, h5, k g _ H (Keep.refl g H) (s.im (by rw [h6]; exact rfl))⟩
theorem se_eq (hu : X.A.units + 64 < cLine) (ha : SE G X Wx a fa) (hb : SE G X Wx b fb) (hK : X.K = G.K := by rfl) : SE G X Wx (.Compare a [.Eq] [b] pos) (eOp fEq fa fb) := se_cmp (op_fEq hK hu) ha hb (nobehind _ (by decide) (by decide))
def T.isNon : T → Bool
  | .im .non => true
  | _ => false
def fIs : F2 := fun x y => match y with
  | .im .non => some (.im (.bl x.isNon))
  | _ => none
def fIsNot : F2 := fun x y => match y with
  | .im .non => some (.im (.bl (!x.isNon)))
  | _ => none
theorem rep_isNon {Z : Addr → Prop} {t : T} {v : V} {d : D} (r : RepT G Z H t v d) : decide (v = .non) = t.isNon := by
  cases t with
  | im w =>
    have r := r.2
    cases w with
    | non => rw [show v = _ from r]; rfl
    | bl _ => rw [show v = _ from r]; rfl
    | int _ => rw [show v = _ from r]; rfl
    | str _ => rw [show v = _ from r]; rfl
    | tup _ => obtain ⟨_, _, rfl, _⟩ := r; rfl
    | lst _ => obtain ⟨_, _, rfl, _⟩ := r; rfl
    | scr _ => obtain ⟨_, _, rfl, _⟩ := r; rfl
    | ktp _ => obtain ⟨_, _, rfl, _⟩ := r; rfl
    | ins _ _ => obtain ⟨_, _, _, rfl, _⟩ := r; rfl
  | _ =>
    obtain ⟨b, _, rfl⟩ := adr_root r rfl
    rfl
theorem op_fIs : OpR X (compareOp .Is) (liftR G fIs) := by
  refine opR_imp op_isN ?_
  rintro x y H Q ⟨g, env, σ, ds, tx, ty, dx, dy, ev, s, rx, ry, q, k⟩
  unfold fIs at q
  split at q
  · cases q
    exact ⟨ry.2, k g _ H (Keep.refl g H) (s.im (by rw [rep_isNon rx]; exact rfl))⟩
  · cases q
theorem op_fIsNot : OpR X (compareOp .IsNot) (liftR G fIsNot) := by
  refine opR_imp op_notN ?_
  rintro x y H Q ⟨g, env, σ, ds, tx, ty, dx, dy, ev, s, rx, ry, q, k⟩
  unfold fIsNot at q
  split at q
  · cases q
    exact ⟨ry.2, k g _ H (Keep.refl g H) (s.im (by rw [rep_isNon rx]; exact rfl))⟩
  · cases q
theorem se_isnot (ha : SE G X Wx a fa) (hb : SE G X Wx b fb) : SE G X Wx (.Compare a [.IsNot] [b] pos) (eOp fIsNot fa fb) := se_cmp op_fIsNot ha hb (nobehind _ (by decide) (by decide))
def bVal (f : M3 EV) : M3 Bool := fun env => match f env with
  | .ok (.im (.bl b)) env1 => .ok b env1
  | .exc c env1 => .exc c env1
  | _ => .stuck
theorem sb_val (h : SE G X Wx e fe) (he : ∀ whole, isTrue e X.env whole = (do let v ← whole; standAt e.pos; holding [v] (truthy v)) := by intro _; rfl) : SB G X Wx e (bVal fe) := by
  refine pt_imp (pt_val h he) ?_
  rintro σ H Q ⟨g, env, ds, s, h⟩
  refine ⟨g, env, ds, s, ?_⟩
  unfold bVal at h
  cases e1 : fe env with
  | stuck => rw [e1] at h; exact h.elim
  | exc c env1 => rw [e1] at h; exact h
  | ok ev env1 =>
    rw [e1] at h
    cases ev with
    | im w =>
      cases w with
      | bl b =>
        intro g1 v H1 k1 ⟨ds1, d1, s1, r1⟩
        exact ⟨b, r1.2, h g1 H1 k1 ⟨ds1, s1⟩⟩
      | _ => exact h.elim
    | _ => exact h.elim
theorem sb_cmp {op : CmpOp} {r : F2} (ho : OpR X (compareOp op) (liftR G r)) (ha : SE G X Wx a fa) (hb : SE G X Wx b fb) (hm : behindInMarks op b = false) : SB G X Wx (.Compare a [op] [b] pos) (bVal (eOp r fa fb)) := by
  refine pt_imp (pt_cmpR ho ha hb hm) ?_
  rintro σ H Q ⟨g, env, ds, s, h⟩
  refine bin3 (Wx := Wx) (G := G) (fa := fa) (fb := fb) (r := r) σ H (fun v H1 => ∃ c, v = .bl c ∧ Q c H1) ⟨g, env, ds, s, ?_⟩
  unfold bVal at h
  cases e1 : eOp r fa fb env with
  | stuck => rw [e1] at h; exact h.elim
  | exc c env1 => rw [e1] at h; exact h
  | ok ev env1 =>
    rw [e1] at h
    cases ev with
    | im w =>
      cases w with
      | bl b =>
        intro g1 v H1 k1 ⟨ds1, d1, s1, r1⟩
        exact ⟨b, r1.2, h g1 H1 k1 ⟨ds1, s1⟩⟩
      | _ => exact h.elim
    | _ => exact h.elim
def bNot (f : M3 Bool) : M3 Bool := fun env => match f env with
  | .ok b env1 => .ok (!b) env1
  | .exc c env1 => .exc c env1
  | .stuck => .stuck
def bAnd (f k : M3 Bool) : M3 Bool := fun env => match f env with
  | .ok b env1 => if b = true then k env1 else .ok false env1
  | .exc c env1 => .exc c env1
  | .stuck => .stuck
def bOr (f k : M3 Bool) : M3 Bool := fun env => match f env with
  | .ok b env1 => if b = true then .ok true env1 else k env1
  | .exc c env1 => .exc c env1
  | .stuck => .stuck
theorem sb_not {f : M3 Bool} (h : SB G X Wx a f) : SB G X Wx (.UnaryOp .Not a pos) (bNot f) := by
  refine pt_imp (pt_not h) ?_
  rintro σ H Q ⟨g, env, ds, s, h⟩
  refine ⟨g, env, ds, s, ?_⟩
  unfold bNot at h
  cases e1 : f env with
  | stuck => rw [e1] at h; exact h.elim
  | exc c env1 => rw [e1] at h; exact h
  | ok b env1 => rw [e1] at h; exact h
theorem sw_sb {f : M3 Bool} (h : SW G X Wx e f) : SB G X Wx e f := h.pt
theorem sw_and1 {f : M3 Bool} (h : SB G X Wx a f) : SW G X Wx (.BoolOp .And [a] pos) f := pw_and1 h
theorem sw_or1 {f : M3 Bool} (h : SB G X Wx a f) : SW G X Wx (.BoolOp .Or [a] pos) f := pw_or1 h
theorem sw_and {f k : M3 Bool} {rest : List Expr} (ha : SB G X Wx a f) (hb : SW G X Wx (.BoolOp .And (b :: rest) pos) k) : SW G X Wx (.BoolOp .And (a :: b :: rest) pos) (bAnd f k) := by
  refine pw_imp (pw_and ha hb) ?_
  rintro σ H Q ⟨g, env, ds, s, h⟩
  refine ⟨g, env, ds, s, ?_⟩
  unfold bAnd at h
  cases e1 : f env with
  | stuck => rw [e1] at h; exact h.elim
  | exc c env1 => rw [e1] at h; exact h
  | ok b env1 =>
    rw [e1] at h
    intro g1 H1 k1 ⟨ds1, s1⟩
    cases b with
    | true => exact ⟨g1, env1, ds1, s1, SatB.keep h k1⟩
    | false => exact h g1 H1 k1 ⟨ds1, s1⟩
theorem sw_or {f k : M3 Bool} {rest : List Expr} (ha : SB G X Wx a f) (hb : SW G X Wx (.BoolOp .Or (b :: rest) pos) k) : SW G X Wx (.BoolOp .Or (a :: b :: rest) pos) (bOr f k) := by
  refine pw_imp (pw_or ha hb) ?_
  rintro σ H Q ⟨g, env, ds, s, h⟩
  refine ⟨g, env, ds, s, ?_⟩
  unfold bOr at h
  cases e1 : f env with
  | stuck => rw [e1] at h; exact h.elim
  | exc c env1 => rw [e1] at h; exact h
  | ok b env1 =>
    rw [e1] at h
    intro g1 H1 k1 ⟨ds1, s1⟩
    cases b with
    | false => exact ⟨g1, env1, ds1, s1, SatB.keep h k1⟩
    | true => exact h g1 H1 k1 ⟨ds1, s1⟩
def eAnd (f k : M3 EV) : M3 EV := fun env => match f env with
  | .ok (.im (.bl b)) env1 => if b = true then k env1 else .ok (.im (.bl false)) env1
  | .exc c env1 => .exc c env1
  | _ => .stuck
def eNot (f : M3 EV) : M3 EV := fun env => match f env with
  | .ok (.im (.bl b)) env1 => .ok (.im (.bl (!b))) env1
  | .exc c env1 => .exc c env1
  | _ => .stuck
theorem se_one {op} {f : M3 EV} (h : SE G X Wx a f) : SE G X Wx (.BoolOp op [a] pos) f := pe_one h
theorem se_and {rest : List Expr} (ha : SE G X Wx a fa) (hb : SE G X Wx (.BoolOp .And (b :: rest) pos) fb) : SE G X Wx (.BoolOp .And (a :: b :: rest) pos) (eAnd fa fb) := by
  refine pe_imp (pe_and ha hb) ?_
  rintro σ H Q ⟨g, env, ds, s, h⟩
  refine ⟨g, env, ds, s, ?_⟩
  unfold eAnd at h
  cases e1 : fa env with
  | stuck => rw [e1] at h; exact h.elim
  | exc c env1 => rw [e1] at h; exact h
  | ok ev env1 =>
    rw [e1] at h
    cases ev with
    | im w =>
      cases w with
      | bl b =>
        intro g1 v H1 k1 ⟨ds1, d1, s1, r1⟩
        refine ⟨b, r1.2, ?_⟩
        cases b with
        | true => exact ⟨g1, env1, ds1, s1, SatE.keep h k1⟩
        | false => exact h g1 _ H1 k1 (s1.im rfl)
      | _ => exact h.elim
    | _ => exact h.elim
theorem se_not (ha : SE G X Wx a fa) : SE G X Wx (.UnaryOp .Not a pos) (eNot fa) := by
  refine pe_imp (pe_not ha) ?_
  rintro σ H Q ⟨g, env, ds, s, h⟩
  refine ⟨g, env, ds, s, ?_⟩
  unfold eNot at h
  cases e1 : fa env with
  | stuck => rw [e1] at h; exact h.elim
  | exc c env1 => rw [e1] at h; exact h
  | ok ev env1 =>
    rw [e1] at h
    cases ev with
    | im w =>
      cases w with
      | bl b =>
        intro g1 v H1 k1 ⟨ds1, d1, s1, r1⟩
        exact ⟨b, r1.2, h g1 _ H1 k1 (s1.im rfl)⟩
      | _ => exact h.elim
    | _ => exact h.elim
theorem big_size {n : Nat} (h : n ≤ 10000000) : n ≤ sizeLine := Nat.le_trans h (by decide)
theorem big_lt {n : Nat} (h : n < 10000000) : n < sizeLine := Nat.lt_of_lt_of_le h (by decide)
theorem RepL.length {Z : Addr → Prop} : ∀ {xs : List W} {vs : List V}, RepL G Z H xs vs → vs.length = xs.length
  | [], _, h => by
    have h' : _ = [] := h
    subst h'; rfl
  | x :: xs, _, ⟨v, r, e, a, b⟩ => by subst e; simp [RepL.length b]
theorem RepL.append {Z : Addr → Prop} : ∀ {xs ys : List W} {vs us : List V}, RepL G Z H xs vs → RepL G Z H ys us → RepL G Z H (xs ++ ys) (vs ++ us)
  | [], _, _, _, h, h2 => by
    have h' : _ = [] := h
    subst h'; exact h2
  | x :: xs, _, _, _, ⟨v, r, e, a, b⟩, h2 => by subst e; exact ⟨v, _, rfl, a, RepL.append b h2⟩
def fAdd : F2 := fun x y => match x, y with
  | .im (.int i), .im (.int j) => some (.im (.int (i + j)))
  | .im (.str s), .im (.str t) => if s.length + t.length ≤ 10000000 then some (.im (.str (s ++ t))) else none
  | .im (.tup xs), .im (.tup ys) => if xs.length + ys.length ≤ 10000000 then some (.im (.tup (xs ++ ys))) else none
  | _, _ => none
theorem op_fAdd (hK : X.K = G.K) : OpR X (binaryOp .Add) (liftR G fAdd) := by
  refine opR_imp (opR_or op_add (opR_or op_add_str op_catA)) ?_
  rintro x y H Q ⟨g, env, σ, ds, tx, ty, dx, dy, ev, s, rx, ry, q, k⟩
  unfold fAdd at q
  split at q
  · cases q
    exact .inl ⟨_, _, rx.2, ry.2, k g _ H (Keep.refl g H) (s.im rfl)⟩
  · rename_i a b
    split at q
    · rename_i hz
      cases q
      refine .inr (.inl ⟨_, _, rx.2, ry.2, ?_, k g _ H (Keep.refl g H) (s.im ?_)⟩)
      · rw [ofString_len, ofString_len]; exact big_size hz
      · rw [← ofString_app]; exact rfl
    · cases q
  · rename_i xs ys
    split at q
    · rename_i hz
      cases q
      obtain ⟨_, p, vs, rfl, hp, r1⟩ := rx
      obtain ⟨_, p', vs', rfl, hp', r2⟩ := ry
      refine .inr (.inr ⟨p, p', vs, vs', rfl, rfl, SqT.of hp, SqT.of hp', ?_, fun e => ?_, fun e e' => ?_, fun e e' p2 hn => ?_⟩)
      · rw [r1.length, r2.length]; exact big_size hz
      · have : xs = [] := List.length_eq_zero_iff.mp (by rw [← r1.length, e]; rfl)
        subst this
        exact k g _ H (Keep.refl g H) (s.im ⟨p', vs', rfl, hp', r2⟩)
      · have : ys = [] := List.length_eq_zero_iff.mp (by rw [← r2.length, e']; rfl)
        subst this
        rw [List.append_nil] at k
        exact k g _ H (Keep.refl g H) (s.im ⟨p, vs, rfl, hp, r1⟩)
      · have kn := Keep.new (o := .tup (vs ++ vs')) hn s
        exact k g _ _ kn ((s.new hn).im ⟨p2, _, rfl, upd_same, (r1.keep kn.kz).append (r2.keep kn.kz)⟩)
    · cases q
  · cases q
theorem se_add (ha : SE G X Wx a fa) (hb : SE G X Wx b fb) (hK : X.K = G.K := by rfl) : SE G X Wx (.BinOp a .Add b pos) (eOp fAdd fa fb) := se_bin (op_fAdd hK) ha hb
end
end VL
namespace VL
open PySem L2
section
variable {G : Gm} {X : Cx} {Wx : WX} {g g' : Gh} {env env' : Env3} {σ : L2.St} {H H' : Hp} {ds : Nat → D}
def svOf : EV → SV
  | .im w => .val w
  | .tmp t => .own false [] t
  | .ptr k π => .ptr k π
theorem Sim.setA (s : Sim G g env σ H ds) {ev : EV} {v : V} {d : D} (r : EvR G g env H ds ev v d) {i : Nat} (hi : i < env.length) (hn : ∀ p L t, env[i]? ≠ some (some (SV.own p L t))) :
    Sim G g (env.set i (some (svOf ev))) (σ.set i (some v)) H (fun j => if j = i then d else ds j) := by
  have hs : i < σ.length := by rw [← s.len]; exact hi
  have gi : (env.set i (some (svOf ev)))[i]? = some (some (svOf ev)) := List.getElem?_set_self hi
  have gn : ∀ j, j ≠ i → (env.set i (some (svOf ev)))[j]? = env[j]? := fun j h => List.getElem?_set_ne (Ne.symm h)
  have si : (σ.set i (some v))[i]? = some (some v) := List.getElem?_set_self hs
  have sn : ∀ j, j ≠ i → (σ.set i (some v))[j]? = σ[j]? := fun j h => List.getElem?_set_ne (Ne.symm h)
  have n0 := s.non i hn
  have rt := r.there
  refine ⟨by simp [s.len], fun j w e => ?_, fun j p L t e => ?_, fun j k π e => ?_, fun j c e => ?_, fun j e => ?_, fun j => ?_, fun j k p hj hk => ?_, fun j p hj => ?_, s.zt, s.pt⟩
  · by_cases hj : j = i
    · subst hj
      rw [gi] at e
      cases ev with
      | im w' => cases e; exact ⟨v, si, r.2⟩
      | _ => cases e
    · rw [gn j hj] at e; rw [sn j hj]; exact s.val j w e
  · by_cases hj : j = i
    · subst hj
      rw [gi] at e
      cases ev with
      | tmp t' =>
        cases e
        refine ⟨v, si, by simpa using r.1, r.2.1, fun z => (by cases z), by rw [n0.2]; rfl, by rw [n0.2]; intro q hq; cases hq⟩
      | _ => cases e
    · rw [gn j hj] at e; rw [sn j hj]; simp only [hj, if_false]; exact s.own j p L t e
  · have tgt : ∀ k p L t, env[k]? = some (some (SV.own p L t)) → k ≠ i := fun k p L t h z => by subst z; exact hn _ _ _ h
    by_cases hj : j = i
    · subst hj
      rw [gi] at e
      cases ev with
      | ptr k' π' =>
        cases e
        obtain ⟨_, a, p, L, t, rfl, h1, h2⟩ := r
        have hk := tgt _ _ _ _ h1
        exact ⟨a, p, L, t, si, by rw [gn k hk]; exact h1, by simpa [hk] using h2⟩
      | _ => cases e
    · rw [gn j hj] at e; rw [sn j hj]
      obtain ⟨a, p, L, t, h1, h2, h3⟩ := s.ptr j k π e
      have hk := tgt _ _ _ _ h2
      exact ⟨a, p, L, t, h1, by rw [gn k hk]; exact h2, by simpa [hk] using h3⟩
  · by_cases hj : j = i
    · subst hj
      rw [gi] at e
      cases ev <;> cases e
    · rw [gn j hj] at e; rw [sn j hj]; exact s.exc j c e
  · by_cases hj : j = i
    · subst hj
      simp only [if_true]
      cases ev with
      | im w => exact ⟨r.1, n0.2⟩
      | tmp t => exact absurd gi (e _ _ _)
      | ptr k π => exact ⟨r.1, n0.2⟩
    · simp only [hj, if_false]
      exact s.non j fun p L t z => e p L t ((gn j hj).trans z)
  · by_cases hj : j = i
    · simp only [hj, if_true]
      cases ev with
      | im w => rw [r.1, fp_z]; exact List.nodup_nil
      | tmp t => exact r.2.2.1
      | ptr k π => rw [r.1, fp_z]; exact List.nodup_nil
    · simpa [hj] using s.nd j
  · by_cases q : j = i
    · by_cases q' : k = i
      · rw [q, q']
      · simp only [q, q', if_true, if_false] at hj hk
        exact absurd hk ((rt p hj).2.2.1 k)
    · by_cases q' : k = i
      · simp only [q, q', if_true, if_false] at hj hk
        exact absurd hj ((rt p hk).2.2.1 j)
      · simp only [q, q', if_false] at hj hk
        exact s.dj j k p hj hk
  · by_cases q : j = i
    · simp only [q, if_true] at hj
      exact ⟨(rt p hj).1, (rt p hj).2.1⟩
    · simp only [q, if_false] at hj
      exact s.no j p hj
def setS (i : Nat) (ev : EV) (env : Env3) : Option Env3 := match env[i]? with
  | some (some (SV.own false [] _)) => (match ev with
    | .ptr k π => if k = i then none else some (((env.map (killS i)).set i none).set i (some (.ptr k π)))
    | ev => some (((env.map (killS i)).set i none).set i (some (svOf ev))))
  | some (some (SV.own _ _ _)) => none
  | some _ => some (env.set i (some (svOf ev)))
  | none => none
theorem SimE.setS {ev : EV} {v : V} (s : SimE G g env σ H ev v) {i : Nat} (h : setS i ev env = some env') : SimN G g env' (σ.set i (some v)) H := by
  obtain ⟨ds, d, s, r⟩ := s
  unfold VL.setS at h
  split at h
  · rename_i t e
    obtain ⟨c1, c2⟩ := s.clear e
    have hl : i < ((env.map (killS i)).set i none).length := by simp; exact get_lt e
    have hn : ∀ p L t, ((env.map (killS i)).set i none)[i]? ≠ some (some (SV.own p L t)) := fun p L t z => by
      rw [List.getElem?_set_self (by simpa using get_lt e)] at z; cases z
    have noi : ∀ p, (∀ j, p ∉ fp (ds j)) → ∀ j, p ∉ fp (if j = i then D.z else ds j) := fun p q j => by
      by_cases hj : j = i
      · simp [hj, fp_z]
      · simpa [hj] using q j
    cases ev with
    | im w => cases h; exact ⟨_, c1.setA (ev := .im w) r hl hn⟩
    | tmp u => cases h; exact ⟨_, c1.setA (ev := .tmp u) ⟨r.1, r.2.1, r.2.2.1, fun p hp => ⟨(r.2.2.2 p hp).1, (r.2.2.2 p hp).2.1, noi p (r.2.2.2 p hp).2.2⟩⟩ hl hn⟩
    | ptr k π =>
      simp only at h
      split at h
      · cases h
      · rename_i hk
        cases h
        obtain ⟨r0, a, p, L, t, r1, r2, r3⟩ := r
        exact ⟨_, c1.setA (ev := .ptr k π) ⟨r0, a, p, L, t, r1, c2 k _ r2 hk (fun _ z => (by cases z)), by simpa [hk] using r3⟩ hl hn⟩
  · cases h
  · rename_i o h1 h2 e
    cases h
    refine ⟨_, s.setA r (get_lt e) fun p L t z => ?_⟩
    rw [e] at z; cases z
    cases p with
    | true => exact h2 _ _ _ rfl
    | false => exact h2 _ _ _ rfl
  · cases h
def lockOk (L : List Path) (ρ : Path) : Bool := L.all fun π => !(ρ.isPrefixOf π)
def killP (k : Nat) (ρ : Path) : Option SV → Option SV
  | some (.ptr j π) => if j = k ∧ π.isPrefixOf ρ = false then none else some (.ptr j π)
  | s => s
def wrE (kp : Bool) (k : Nat) (ρ : Path) (p : Bool) (L : List Path) (t' : T) (env : Env3) : Env3 := (if kp = true then env else env.map (killP k ρ)).set k (some (SV.own p L t'))
def wrS (kp : Bool) (k : Nat) (ρ : Path) (y : T) (env : Env3) : Option Env3 := match env[k]? with
  | some (some (SV.own p L t)) => if lockOk L ρ = true then (t.setP ρ y).map fun t' => wrE kp k ρ p L t' env else none
  | _ => none
theorem prefix_of {α : Type} [BEq α] [LawfulBEq α] {a b : List α} (h : a.isPrefixOf b = true) : a <+: b := List.isPrefixOf_iff_prefix.mp h
theorem lockOk_get {L : List Path} {ρ π : Path} (h : lockOk L ρ = true) (hm : π ∈ L) : ¬ ρ <+: π := fun z => by
  have := List.all_eq_true.mp h π hm
  rw [List.isPrefixOf_iff_prefix.mpr z] at this
  cases this
theorem map_kill_get {k : Nat} {ρ : Path} {i : Nat} : (env.map (killP k ρ))[i]? = (env[i]?).map (killP k ρ) := List.getElem?_map
theorem wrE_get_ne {kp : Bool} {k : Nat} {ρ : Path} {p : Bool} {L : List Path} {t' : T} {i : Nat} (h : i ≠ k) : (wrE kp k ρ p L t' env)[i]? = env[i]? ∨ ∃ j π, env[i]? = some (some (SV.ptr j π)) ∧ (wrE kp k ρ p L t' env)[i]? = some none := by
  unfold wrE
  rw [List.getElem?_set_ne (Ne.symm h)]
  cases kp with
  | true => exact .inl rfl
  | false =>
    simp only [Bool.false_eq_true, if_false]
    rw [map_kill_get]
    cases e : env[i]? with
    | none => exact .inl rfl
    | some o =>
      cases o with
      | none => exact .inl rfl
      | some x =>
        cases x with
        | ptr j π =>
          by_cases c : j = k ∧ π.isPrefixOf ρ = false
          · right; exact ⟨j, π, rfl, by simp [killP, c]⟩
          · left; simp only [Option.map_some, killP]; rw [if_neg c]
        | _ => exact .inl rfl
theorem wrE_ptr {kp : Bool} {k : Nat} {ρ : Path} {p : Bool} {L : List Path} {t' : T} {i j : Nat} {π : Path} (hk : k < env.length) (h : (wrE kp k ρ p L t' env)[i]? = some (some (SV.ptr j π))) : env[i]? = some (some (SV.ptr j π)) ∧ (kp = false → j = k → π <+: ρ) := by
  by_cases hi : i = k
  · subst hi
    unfold wrE at h
    rw [List.getElem?_set_self (by cases kp <;> simp [hk])] at h
    cases h
  · unfold wrE at h
    rw [List.getElem?_set_ne (Ne.symm hi)] at h
    cases kp with
    | true => exact ⟨h, fun z => by cases z⟩
    | false =>
      simp only [Bool.false_eq_true, if_false] at h
      rw [map_kill_get] at h
      cases e : env[i]? with
      | none => rw [e] at h; cases h
      | some o =>
        rw [e] at h
        cases o with
        | none => cases h
        | some x =>
          cases x with
          | ptr j' π' =>
            simp only [Option.map_some, killP] at h
            by_cases c : j' = k ∧ π'.isPrefixOf ρ = false
            · rw [if_pos c] at h; cases h
            · rw [if_neg c] at h; cases h
              refine ⟨rfl, fun _ hj => ?_⟩
              refine prefix_of ?_
              cases q : π.isPrefixOf ρ with
              | true => rfl
              | false => exact absurd ⟨hj, q⟩ c
          | _ => cases h
theorem wrE_self {kp : Bool} {k : Nat} {ρ : Path} {p : Bool} {L : List Path} {t' : T} (hk : k < env.length) : (wrE kp k ρ p L t' env)[k]? = some (some (SV.own p L t')) := by
  unfold wrE
  exact List.getElem?_set_self (by cases kp <;> simp [hk])
theorem wrE_len {kp : Bool} {k : Nat} {ρ : Path} {p : Bool} {L : List Path} {t' : T} : (wrE kp k ρ p L t' env).length = env.length := by
  unfold wrE
  cases kp <;> simp
theorem adr_pre {t t' x y : T} {d d' e e' : D} {ρ π : Path} {a : Addr} (h1 : adr t d (ρ ++ []) = adr x e []) (h2 : adr t' d' (ρ ++ []) = adr y e' []) (h3 : adr x e [] = adr y e' []) (h4 : ∀ π, ¬ ρ <+: π → adr t' d' π = adr t d π) (hp : π <+: ρ) (ha : adr t d π = some a) : adr t' d' π = some a := by
  by_cases q : ρ <+: π
  · have : π = ρ := hp.eq_of_length (Nat.le_antisymm hp.length_le q.length_le)
    subst this
    rw [List.append_nil] at h1 h2
    rw [h2, ← h3, ← h1]; exact ha
  · rw [h4 π q]; exact ha
theorem Sim.congr {a b : Nat → D} (h : ∀ i, a i = b i) (s : Sim G g env σ H a) : Sim G g env σ H b := (funext h : a = b) ▸ s
theorem Sim.lens (s : Sim G g env σ H ds) {k : Nat} {p : Bool} {L : List Path} {t x : T} {ρ : Path} (h : env[k]? = some (some (SV.own p L t))) (hx : t.getP ρ = some x) (hl : lockOk L ρ = true) :
    ∃ u e, RepT G g.Z H x u e ∧ adr t (ds k) ρ = adr x e [] ∧ (∀ q ∈ fp e, q ∈ fp (ds k)) ∧ (fp e).Nodup ∧ (∀ i q, q ∈ g.lk i → q.2 ∉ fp e) ∧
    ∀ g' H' y e' kp, Keep g H g' H' → (∀ i q, q ∈ fp (ds i) → q ∉ fp e → H' q = H q ∧ ¬ g'.Z q) → RepT G g'.Z H' y u e' → y.mut = true → x.mut = true → (fp e').Nodup →
      (∀ q ∈ fp e', ¬ g'.Z q ∧ ¬ g'.P q ∧ (q ∈ fp e ∨ ∀ i, q ∉ fp (ds i))) → (∀ p, g'.Z p → ¬ g'.P p ∧ Ob H' p) → (∀ p, g'.P p → Ob H' p) →
      (kp = true → ∀ π' a, adr x e π' = some a → adr y e' π' = some a) →
      ∃ t' ds', wrS kp k ρ y env = some (wrE kp k ρ p L t' env) ∧ Sim G g' (wrE kp k ρ p L t' env) σ H' ds' ∧ (∀ i q, q ∈ fp (ds' i) → (q ∈ fp (ds i) ∧ q ∉ fp e) ∨ (i = k ∧ q ∈ fp e')) ∧ adr t' (ds' k) ρ = adr y e' [] := by
  obtain ⟨v, o1, o2, o3, o4, o5, o6⟩ := s.own _ _ _ _ h
  obtain ⟨u, e, out, r1, r2, r3, r0, r4⟩ := o2.lens hx
  have nde : (out ++ fp e).Nodup := r2.nodup_iff.mp (s.nd k)
  have ine : ∀ q ∈ fp e, q ∈ fp (ds k) := fun q hq => r2.mem_iff.mpr (List.mem_append_right _ hq)
  have ino : ∀ q ∈ out, q ∈ fp (ds k) ∧ q ∉ fp e := fun q hq => ⟨r2.mem_iff.mpr (List.mem_append_left _ hq), fun z => (List.nodup_append.mp nde).2.2 q hq q z rfl⟩
  refine ⟨u, e, r1, by have := r3 []; rwa [List.append_nil] at this, ine, (List.nodup_append.mp nde).2.1, fun i q hq hqe => ?_, fun g' H' y e' kp kk hH hy ym xm hnd hN zt pt hkp => ?_⟩
  · obtain ⟨ob, hob, mub⟩ := r1.there _ hqe
    by_cases ei : ∃ p L t, env[i]? = some (some (SV.own p L t))
    · obtain ⟨p', L', t', ei⟩ := ei
      obtain ⟨v', p1, p2, p3, p4, p5, p6⟩ := s.own _ _ _ _ ei
      by_cases hik : i = k
      · subst hik
        rw [h] at ei; cases ei
        exact r0 (s.nd i) q.1 q.2 (lockOk_get hl (by rw [o5]; exact List.mem_map.mpr ⟨q, hq, rfl⟩)) (o6 q hq) hqe
      · rcases p2.adr_in (p6 q hq) with z | ⟨vs, z⟩
        · exact hik (s.dj i k q.2 z (ine q.2 hqe))
        · rw [z] at hob; cases hob; exact mub
    · have := (s.non i fun q L t z => ei ⟨q, L, t, z⟩).2
      rw [this] at hq; cases hq
  obtain ⟨t', d', w1, w2, w3, w4, w5⟩ := r4 g'.Z H' kk.kz (fun q hq => (hH k q (ino q hq).1 (ino q hq).2).1) y e' hy
  have root : adr x e [] = adr y e' [] := by
    obtain ⟨a1, b1, c1⟩ := adr_root r1 xm
    obtain ⟨a2, b2, c2⟩ := adr_root hy ym
    rw [c1] at c2; cases c2
    rw [b1, b2]
  have t'm : t'.mut = true := by
    cases q : t'.mut with
    | true => rfl
    | false =>
      exfalso
      cases t' with
      | im w =>
        obtain ⟨a, e1, e2⟩ := adr_root o2 o3
        have := adr_pre (π := []) (r3 []) (w4 []) root w5 List.nil_prefix e1
        rw [w2.1] at this
        simp [adr, D.z] at this
      | _ => cases q
  have hk : k < env.length := get_lt h
  refine ⟨t', fun i => if i = k then d' else ds i, ?_, ?_, fun i q hq => ?_, ?_⟩
  · unfold wrS; simp only [h, hl, if_true, w1, Option.map_some]
  · have := s.upd (g' := g') (H' := H') (env' := wrE kp k ρ p L t' env) kk (fun i => if i = k then some (t', d') else none) wrE_len
      (fun i t2 d2 q => by
        by_cases hi : i = k
        · subst hi
          simp only [if_true, Option.some.injEq, Prod.mk.injEq] at q
          obtain ⟨rfl, rfl⟩ := q
          refine ⟨p, L, t, v, h, wrE_self hk, o1, w2, t'm, fun q hq => ?_⟩
          rw [w5 q.1 (lockOk_get hl (by rw [o5]; exact List.mem_map.mpr ⟨q, hq, rfl⟩))]
          exact o6 q hq
        · simp [hi] at q)
      (fun i q => by
        have hi : i ≠ k := fun z => by simp [z] at q
        exact wrE_get_ne hi)
      (fun i j π q t2 d2 q2 p2 L2 t3 q3 a q4 => by
        by_cases hj : j = k
        · subst hj
          simp only [if_true, Option.some.injEq, Prod.mk.injEq] at q2
          obtain ⟨rfl, rfl⟩ := q2
          rw [h] at q3; cases q3
          obtain ⟨e1, e2⟩ := wrE_ptr hk q
          cases kp with
          | false => exact adr_pre (r3 []) (w4 []) root w5 (e2 rfl rfl) q4
          | true =>
            by_cases hp : ρ <+: π
            · obtain ⟨π', rfl⟩ := hp
              rw [w4]
              rw [r3] at q4
              exact hkp rfl π' a q4
            · rw [w5 π hp]; exact q4
        · simp [hj] at q2)
      (fun i q q2 hq => by
        have hi : i ≠ k := fun z => by simp [z] at q
        exact hH i q2 hq fun z => hi (s.dj i k q2 hq (ine q2 z)))
      (fun i t2 d2 q => by
        by_cases hi : i = k
        · subst hi
          simp only [if_true, Option.some.injEq, Prod.mk.injEq] at q
          obtain ⟨rfl, rfl⟩ := q
          have dis : ∀ q ∈ fp d', (q ∈ out ∨ q ∈ fp e') := fun q hq => List.mem_append.mp (w3.mem_iff.mp hq)
          refine ⟨w3.nodup_iff.mpr (List.nodup_append.mpr ⟨(List.nodup_append.mp nde).1, hnd, fun a ha b hb z => ?_⟩), fun q hq => ?_⟩
          · subst z
            rcases (hN a hb).2.2 with z | z
            · exact (ino a ha).2 z
            · exact z i (ino a ha).1
          · rcases dis q hq with z | z
            · refine ⟨(hH i q (ino q z).1 (ino q z).2).2, fun w => (s.no i q (ino q z).1).2 (kk.q q w), fun j hj _ w => hj (s.dj j i q w (ino q z).1), fun j t2 d2 hj w => by simp [hj] at w⟩
            · refine ⟨(hN q z).1, (hN q z).2.1, fun j hj _ w => ?_, fun j t2 d2 hj w => by simp [hj] at w⟩
              rcases (hN q z).2.2 with y1 | y1
              · exact hj (s.dj j i q w (ine q y1))
              · exact y1 j w
        · simp [hi] at q)
      zt pt
    exact Sim.congr (fun i => by by_cases hi : i = k <;> simp [hi]) this
  · by_cases hi : i = k
    · subst hi
      simp only [if_true] at hq
      rcases List.mem_append.mp (w3.mem_iff.mp hq) with z | z
      · exact .inl (ino q z)
      · exact .inr ⟨rfl, z⟩
    · simp only [hi, if_false] at hq
      exact .inl ⟨hq, fun z => hi (s.dj i k q hq (ine q z))⟩
  · have := w4 []
    rw [List.append_nil] at this
    simpa using this
end
end VL
namespace VL
open PySem L2
def SatS (G : Gm) (Wx : WX) (g : Gh) (H : Hp) (D : Ends) : SO3 → Prop
  | .nx e => ∀ g' σ' H', Keep g H g' H' → SimN G g' e σ' H' → D.nx σ' H'
  | .rt ev e => ∀ g' σ' v H', Keep g H g' H' → SimE G g' e σ' H' ev v → D.rt v H'
  | .bk e => ∀ g' σ' H', Keep g H g' H' → SimN G g' e σ' H' → D.bk σ' H'
  | .ct e => ∀ g' σ' H', Keep g H g' H' → SimN G g' e σ' H' → D.ct σ' H'
  | .ex c e => ∀ g' σ' H', Keep g H g' H' → SimN G g' e σ' H' → Wx (.ref (G.cA c)) none σ' H'
  | .stuck => False
def liftS (G : Gm) (Wx : WX) (f : S3) : TS := fun D σ H => ∃ g env ds, Sim G g env σ H ds ∧ SatS G Wx g H D (f env)
abbrev SS (G : Gm) (X : Cx) (Wx : WX) (s : Stmt) (f : S3) : Prop := PS X s (liftS G Wx f)
abbrev SSs (G : Gm) (X : Cx) (Wx : WX) (s : List Stmt) (f : S3) : Prop := PSs X s (liftS G Wx f)
section
variable {G : Gm} {X : Cx} {Wx : WX} {g g' : Gh} {env env' : Env3} {σ : L2.St} {H H' : Hp} {ds : Nat → D} {a b c e o : Expr} {fa fb fc fe : M3 EV} {pos : Pos} {st : Stmt} {rest : List Stmt} {t u : S3}
theorem SatS.keep {D : Ends} : ∀ {o : SO3}, SatS G Wx g H D o → Keep g H g' H' → SatS G Wx g' H' D o
  | .nx _, h, k => fun g2 s2 H2 k2 q => h g2 s2 H2 (k.trans k2) q
  | .rt _ _, h, k => fun g2 s2 v H2 k2 q => h g2 s2 v H2 (k.trans k2) q
  | .bk _, h, k => fun g2 s2 H2 k2 q => h g2 s2 H2 (k.trans k2) q
  | .ct _, h, k => fun g2 s2 H2 k2 q => h g2 s2 H2 (k.trans k2) q
  | .ex _ _, h, k => fun g2 s2 H2 k2 q => h g2 s2 H2 (k.trans k2) q
  | .stuck, h, _ => h
def sNx : S3 := fun env => .nx env
def sSeq (f k : S3) : S3 := fun env => match f env with
  | .nx e => k e
  | o => o
theorem sss_nil : SSs G X Wx [] sNx := by
  refine pss_imp pss_nil ?_
  rintro D σ H ⟨g, env, ds, s, h⟩
  exact h g σ H (Keep.refl g H) ⟨ds, s⟩
theorem sss_one (h : SS G X Wx st t) : SSs G X Wx [st] t := pss_one h
theorem sss_cons (h1 : SS G X Wx st t) (h2 : SSs G X Wx rest u) : SSs G X Wx (st :: rest) (sSeq t u) := by
  refine pss_imp (pss_cons h1 h2) ?_
  rintro D σ H ⟨g, env, ds, s, h⟩
  refine ⟨g, env, ds, s, ?_⟩
  unfold sSeq at h
  cases e1 : t env with
  | nx e2 =>
    rw [e1] at h
    intro g2 σ2 H2 k2 ⟨ds2, s2⟩
    exact ⟨g2, e2, ds2, s2, SatS.keep h k2⟩
  | _ => rw [e1] at h; exact h
def sExpr (f : M3 EV) : S3 := fun env => match f env with
  | .ok _ e => .nx e
  | .exc c e => .ex c e
  | .stuck => .stuck
theorem ss_expr (he : SE G X Wx e fe) (hs : swapsWith e none pos.line X.env = pure false := by rfl) : SS G X Wx (.Expr e pos) (sExpr fe) := by
  refine ps_imp (ps_expr he hs) ?_
  rintro D σ H ⟨g, env, ds, s, h⟩
  refine ⟨g, env, ds, s, ?_⟩
  unfold sExpr at h
  cases e1 : fe env with
  | stuck => rw [e1] at h; exact h.elim
  | exc c e2 => rw [e1] at h; exact fun g2 H2 k2 s2 => h g2 σ H2 k2 s2
  | ok v e2 => rw [e1] at h; exact fun g2 v H2 k2 s2 => h g2 σ H2 k2 s2.n
def sRet (f : M3 EV) : S3 := fun env => match f env with
  | .ok v e => .rt v e
  | .exc c e => .ex c e
  | .stuck => .stuck
theorem ss_ret (he : SE G X Wx e fe) : SS G X Wx (.Return (some e) pos) (sRet fe) := by
  refine ps_imp (ps_ret he) ?_
  rintro D σ H ⟨g, env, ds, s, h⟩
  refine ⟨g, env, ds, s, ?_⟩
  unfold sRet at h
  cases e1 : fe env with
  | stuck => rw [e1] at h; exact h.elim
  | exc c e2 => rw [e1] at h; exact fun g2 H2 k2 s2 => h g2 σ H2 k2 s2
  | ok v e2 => rw [e1] at h; exact fun g2 v H2 k2 s2 => h g2 σ v H2 k2 s2
def sIf (c : M3 Bool) (t u : S3) : S3 := fun env => match c env with
  | .ok b e => if b = true then t e else u e
  | .exc c e => .ex c e
  | .stuck => .stuck
theorem ss_if {fc : M3 Bool} {A B : List Stmt} (hc : SB G X Wx c fc) (ha : SSs G X Wx A t) (hb : SSs G X Wx B u) : SS G X Wx (.If c A B pos) (sIf fc t u) := by
  refine ps_imp (ps_if hc ha hb) ?_
  rintro D σ H ⟨g, env, ds, s, h⟩
  refine ⟨g, env, ds, s, ?_⟩
  unfold sIf at h
  cases e1 : fc env with
  | stuck => rw [e1] at h; exact h.elim
  | exc c e2 => rw [e1] at h; exact fun g2 H2 k2 s2 => h g2 σ H2 k2 s2
  | ok b e2 =>
    rw [e1] at h
    intro g2 H2 k2 ⟨ds2, s2⟩
    cases b with
    | true => exact ⟨g2, e2, ds2, s2, SatS.keep h k2⟩
    | false => exact ⟨g2, e2, ds2, s2, SatS.keep h k2⟩
abbrev TG3 := EV → Env3 → Option Env3
abbrev TGs3 := List EV → Env3 → Option Env3
def liftG (G : Gm) (t : TG3) : TG := fun v σ H Q => ∃ g env ev env', SimE G g env σ H ev v ∧ t ev env = some env' ∧ ∀ g' σ' H', Keep g H g' H' → SimN G g' env' σ' H' → Q σ' H'
def SimV (G : Gm) (g : Gh) (env : Env3) (σ : L2.St) (H : Hp) (evs : List EV) (vs : List V) : Prop := SimA G g env σ H evs vs ∧ ∀ ev ∈ evs, ∀ k π, ev ≠ .ptr k π
def liftGs (G : Gm) (t : TGs3) : TGs := fun vs σ H Q => ∃ g env evs env', SimV G g env σ H evs vs ∧ t evs env = some env' ∧ ∀ g' σ' H', Keep g H g' H' → SimN G g' env' σ' H' → Q σ' H'
abbrev SG (G : Gm) (X : Cx) (e : Expr) (t : TG3) : Prop := PG X e (liftG G t)
abbrev SGs (G : Gm) (X : Cx) (es : List Expr) (t : TGs3) : Prop := PGs X es (liftGs G t)
theorem pg_imp {X : Cx} {e : Expr} {t t' : TG} (h : PG X e t) (i : ∀ v σ H Q, t' v σ H Q → t v σ H Q) : PG X e t' := ⟨fun pins s σ H v u Q I r q => h.run pins s σ H v u Q I r (i _ _ _ _ q)⟩
theorem pgs_imp {X : Cx} {e : List Expr} {t t' : TGs} (h : PGs X e t) (i : ∀ v σ H Q, t' v σ H Q → t v σ H Q) : PGs X e t' := ⟨fun pins s σ H v u Q I r q => h.run pins s σ H v u Q I r (i _ _ _ _ q)⟩
def gName (i : Nat) : TG3 := fun ev env => setS i ev env
theorem sg_name {i : Nat} {x : Str} (hN : X.N.Nodup) (hi : X.N[i]? = some x) (hx : Loc X.env.scope x) (hf : X.fn x = true ∨ X.env.scope.names.lookup x = some .local := by first | exact .inl rfl | exact .inr rfl | assumption) : SG G X (.Name x pos) (gName i) := by
  refine pg_imp (pg_name hN hi hx hf) ?_
  rintro v σ H Q ⟨g, env, ev, env', s, h, k⟩
  exact k g _ H (Keep.refl g H) (s.setS h)
def gNil : TGs3 := fun evs env => match evs with
  | [] => some env
  | _ => none
def gCons (i : Nat) (u : TGs3) : TGs3 := fun evs env => match evs with
  | ev :: r => (setS i ev env).bind fun env' => u r env'
  | [] => none
theorem EvL.pure {evs : List EV} : ∀ {vs : List V} {es : List D}, EvL G g env H ds evs vs es → (∀ ev ∈ evs, ∀ k π, ev ≠ .ptr k π) → ∀ {env' : Env3} {ds' : Nat → D}, (∀ p ∈ fps es, ∀ i, p ∉ fp (ds' i)) → EvL G g env' H ds' evs vs es := by
  induction evs with
  | nil => intro vs es h _ env' ds' _; exact h
  | cons e r ih =>
    rintro vs es ⟨v, vr, d, dr, rfl, rfl, a, b, c⟩ hp env' ds' hd
    refine ⟨v, vr, d, dr, rfl, rfl, ?_, ih b (fun ev h => hp ev (List.mem_cons_of_mem _ h)) fun p h => hd p (List.mem_append_right _ h), c⟩
    cases e with
    | im w => exact a
    | tmp t => exact ⟨a.1, a.2.1, a.2.2.1, fun p h => ⟨(a.2.2.2 p h).1, (a.2.2.2 p h).2.1, hd p (List.mem_append_left _ h)⟩⟩
    | ptr k π => exact absurd rfl (hp _ (List.mem_cons_self ..) k π)
theorem SimV.set {ev : EV} {v : V} {evs : List EV} {vs : List V} (s : SimV G g env σ H (ev :: evs) (v :: vs)) {i : Nat} (h : setS i ev env = some env') : SimV G g env' (σ.set i (some v)) H evs vs := by
  obtain ⟨⟨ds, es, s, v', vr, d, dr, e1, rfl, a, b, c⟩, hp⟩ := s
  cases e1
  have hp' : ∀ ev ∈ evs, ∀ k π, ev ≠ .ptr k π := fun ev h => hp ev (List.mem_cons_of_mem _ h)
  refine ⟨?_, hp'⟩
  have nb := b.noP
  unfold VL.setS at h
  split at h
  · rename_i t e
    obtain ⟨c1, c2⟩ := s.clear e
    have hl : i < ((env.map (killS i)).set i none).length := by simp; exact get_lt e
    have hn : ∀ p L t, ((env.map (killS i)).set i none)[i]? ≠ some (some (SV.own p L t)) := fun p L t z => by
      rw [List.getElem?_set_self (by simpa using get_lt e)] at z; cases z
    have noi : ∀ p, (∀ j, p ∉ fp (ds j)) → ∀ j, p ∉ fp (if j = i then D.z else ds j) := fun p q j => by
      by_cases hj : j = i
      · simp [hj, fp_z]
      · simpa [hj] using q j
    have fin : ∀ p ∈ fps dr, ∀ j, p ∉ fp (if j = i then d else (if j = i then D.z else ds j)) := fun p hp j => by
      by_cases hj : j = i
      · simp only [hj, if_true]; exact fun z => c p z hp
      · simp only [hj, if_false]; exact (nb p hp).2.2.1 j
    cases ev with
    | im w => cases h; exact ⟨_, dr, c1.setA (ev := .im w) a hl hn, b.pure hp' fin⟩
    | tmp u => cases h; exact ⟨_, dr, c1.setA (ev := .tmp u) ⟨a.1, a.2.1, a.2.2.1, fun p hp => ⟨(a.2.2.2 p hp).1, (a.2.2.2 p hp).2.1, noi p (a.2.2.2 p hp).2.2⟩⟩ hl hn, b.pure hp' fin⟩
    | ptr k π => exact absurd rfl (hp _ (List.mem_cons_self ..) k π)
  · cases h
  · rename_i o h1 h2 e
    cases h
    refine ⟨_, dr, s.setA a (get_lt e) fun p L t z => ?_, b.pure hp' fun p hp j => ?_⟩
    · rw [e] at z; cases z
      cases p with
      | true => exact h2 _ _ _ rfl
      | false => exact h2 _ _ _ rfl
    · by_cases hj : j = i
      · simp only [hj, if_true]; exact fun z => c p z hp
      · simp only [hj, if_false]; exact (nb p hp).2.2.1 j
  · cases h
theorem sgs_nil : SGs G X [] gNil := by
  refine pgs_imp pgs_nil ?_
  rintro v σ H Q ⟨g, env, evs, env', ⟨⟨ds, es, s, l⟩, _⟩, h, k⟩
  cases evs with
  | nil => cases h; exact ⟨l.1, k g σ H (Keep.refl g H) ⟨ds, s⟩⟩
  | cons _ _ => cases h
theorem SimA.len {evs : List EV} {vs : List V} (s : SimA G g env σ H evs vs) : evs.length = vs.length := let ⟨_, _, _, l⟩ := s; l.n
theorem sgs_cons {i : Nat} {x : Str} {es : List Expr} {u : TGs3} (hN : X.N.Nodup) (hi : X.N[i]? = some x) (hx : Loc X.env.scope x) (h2 : SGs G X es u) (hs : (assignEach (.Name x pos :: es) X.env).map (·.2) = assign (.Name x pos) X.env :: (assignEach es X.env).map (·.2) := by rfl)
    (hf : X.fn x = true ∨ X.env.scope.names.lookup x = some .local := by first | exact .inl rfl | exact .inr rfl | assumption) : SGs G X (.Name x pos :: es) (gCons i u) := by
  refine pgs_imp (pgs_cons (pg_name hN hi hx hf) h2 hs) ?_
  rintro v σ H Q ⟨g, env, evs, env', s, h, k⟩
  cases evs with
  | nil => cases h
  | cons ev r =>
    have hl := s.1.len
    cases v with
    | nil => cases hl
    | cons v0 vr =>
      obtain ⟨env1, h1, h2⟩ := Option.bind_eq_some_iff.mp h
      exact ⟨v0, vr, rfl, g, env1, r, env', s.set h1, h2, k⟩
def partsE : EV → Option (List EV)
  | .im (.tup ws) => some (ws.map EV.im)
  | .tmp (.tp ts) => some (ts.map fun t => match t with
    | .im w => EV.im w
    | t => .tmp t)
  | _ => none
def gTup (n : Nat) (t : TGs3) : TG3 := fun ev env => match partsE ev with
  | some evs => if evs.length = n then t evs env else none
  | none => none
theorem parts_im (Z0 : Unit) : ∀ {ws : List W} {vs : List V}, RepL G g.Z H ws vs → EvL G g env H ds (ws.map EV.im) vs (ws.map fun _ => D.z)
  | [], vs, r => by rw [show vs = _ from r]; exact ⟨rfl, rfl⟩
  | w :: ws, vs, ⟨v, r, e, a, b⟩ => ⟨v, r, .z, _, e, rfl, ⟨rfl, a⟩, parts_im Z0 b, fun p h => by rw [fp_z] at h; cases h⟩
theorem parts_tp : ∀ {ts : List T} {vs : List V} {es : List D}, RepTL G g.Z H ts vs es → (fps es).Nodup → (∀ p ∈ fps es, ¬ g.Z p ∧ ¬ g.P p ∧ ∀ i, p ∉ fp (ds i)) → EvL G g env H ds (ts.map fun t => match t with
    | .im w => EV.im w
    | t => .tmp t) vs es
  | [], vs, es, r, _, _ => r
  | t :: ts, vs, es, ⟨v, r, d, e, e1, e2, a, b⟩, hn, hp => by
    subst e2
    simp only [fps] at hn
    obtain ⟨n1, n2, n3⟩ := List.nodup_append.mp hn
    refine ⟨v, r, d, e, e1, rfl, ?_, parts_tp b n2 fun p h => hp p (List.mem_append_right _ h), fun p h1 h2 => n3 p h1 p h2 rfl⟩
    have h1 : ∀ p ∈ fp d, ¬ g.Z p ∧ ¬ g.P p ∧ ∀ i, p ∉ fp (ds i) := fun p h => hp p (List.mem_append_left _ h)
    cases t with
    | im w => exact a
    | _ => exact ⟨a, rfl, n1, h1⟩
theorem sg_tup {es : List Expr} {k : Nat} {t : TGs3} {n : Nat} (hc : X.calm = true) (h : SGs G X es t) (hn : (assignEach es X.env).length = n := by rfl) (hst : (assignEach es X.env).findIdx? (·.1) = none := by rfl) : SG G X (.Tuple es k pos) (gTup n t) := by
  refine pg_imp (pg_tup hc h hn hst) ?_
  rintro v σ H Q ⟨g, env, ev, env', ⟨ds, d, s, r⟩, h, k⟩
  unfold gTup at h
  cases ev with
  | im w =>
    cases w with
    | tup ws =>
      simp only [partsE, List.length_map] at h
      split at h
      · rename_i hl
        obtain ⟨_, p, vs, rfl, hp, rl⟩ := r
        refine ⟨p, vs, rfl, SqT.of hp, ?_, g, env, _, env', ⟨⟨ds, _, s, parts_im () rl⟩, fun ev he k π z => ?_⟩, h, k⟩
        · rw [← hl]; exact rl.length
        · obtain ⟨w, _, rfl⟩ := List.mem_map.mp he; cases z
      · cases h
    | _ => simp [partsE] at h
  | tmp t0 =>
    cases t0 with
    | tp ts =>
      simp only [partsE, List.length_map] at h
      split at h
      · rename_i hl
        obtain ⟨⟨p, vs, es', rfl, rfl, hp, rl⟩, _, hn2, hd⟩ := r
        simp only [fp, Bool.false_eq_true, if_false, List.nil_append] at hn2 hd
        refine ⟨p, vs, rfl, SqT.of hp, ?_, g, env, _, env', ⟨⟨ds, es', s, parts_tp rl hn2 hd⟩, fun ev he k π z => ?_⟩, h, k⟩
        · rw [← hl]; exact rl.len.1
        · obtain ⟨w, _, rfl⟩ := List.mem_map.mp he
          cases w <;> cases z
      · cases h
    | _ => simp [partsE] at h
  | ptr _ _ => simp [partsE] at h
def sAsg (f : M3 EV) (tg : TG3) : S3 := fun env => match f env with
  | .ok v e => (match tg v e with
    | some e2 => .nx e2
    | none => .stuck)
  | .exc c e => .ex c e
  | .stuck => .stuck
theorem sAsg_mid {tg : TG3} {D : Ends} (h : SatS G Wx g H D (sAsg fe tg env)) (s : Sim G g env σ H ds) : liftE G Wx fe σ H fun v H1 => liftG G tg v σ H1 D.nx := by
  refine ⟨g, env, ds, s, ?_⟩
  unfold sAsg at h
  cases e1 : fe env with
  | stuck => rw [e1] at h; exact h.elim
  | exc c e2 => rw [e1] at h; exact fun g2 H2 k2 s2 => h g2 σ H2 k2 s2
  | ok v e2 =>
    simp only [e1] at h
    cases e3 : tg v e2 with
    | none => simp only [e3] at h; exact h.elim
    | some e4 =>
      simp only [e3] at h
      exact fun g2 u H2 k2 s2 => ⟨g2, e2, v, e4, s2, e3, fun g3 σ3 H3 k3 s3 => h g3 σ3 H3 (k2.trans k3) s3⟩
theorem ss_set {i : Nat} {x : Str} {pos' : Pos} (hN : X.N.Nodup) (hi : X.N[i]? = some x) (hx : Loc X.env.scope x) (he : SE G X Wx e fe) (hs : swapsWith e (some (.Name x pos')) pos.line X.env = pure false := by rfl) (hf : X.fn x = true ∨ X.env.scope.names.lookup x = some .local := by first | exact .inl rfl | exact .inr rfl | assumption) :
    SS G X Wx (.Assign [.Name x pos'] e pos) (sAsg fe (gName i)) := by
  refine ps_imp (ps_set hN hi hx he hs hf) ?_
  rintro D σ H ⟨g, env, ds, s, h⟩
  obtain ⟨g0, env0, ds0, s0, h0⟩ := sAsg_mid h s
  refine ⟨g0, env0, ds0, s0, ?_⟩
  cases e1 : fe env0 with
  | stuck => rw [e1] at h0; exact h0
  | exc c e2 => rw [e1] at h0; exact h0
  | ok v e2 =>
    rw [e1] at h0
    intro g1 u H1 k1 s1
    obtain ⟨g2, env2, ev2, env3, s2, h2, k2⟩ := h0 g1 u H1 k1 s1
    exact k2 g2 _ H1 (Keep.refl g2 H1) (s2.setS h2)
def sAug (i : Nat) (f : M3 EV) : S3 := fun env => match env[i]? with
  | some (some (SV.val (.int x))) => (match f env with
    | .ok (.im (.int y)) e => (match setS i (.im (.int (x + y))) e with
      | some e2 => .nx e2
      | none => .stuck)
    | .exc c e => .ex c e
    | _ => .stuck)
  | _ => .stuck
def whileF (c : M3 Bool) (b : S3) : Nat → S3
  | 0 => fun _ => .stuck
  | n + 1 => fun env => match c env with
    | .ok true e1 => (match b e1 with
      | .nx e2 => whileF c b n e2
      | .ct e2 => whileF c b n e2
      | .bk e2 => .nx e2
      | o => o)
    | .ok false e1 => .nx e1
    | .exc c e1 => .ex c e1
    | .stuck => .stuck
def fuelW : Nat := 1000000000
structure IV where
  items : List EV
  hold : List EV
def SO3.mapE (u : Env3 → Env3) : SO3 → SO3
  | .nx e => .nx (u e)
  | .rt v e => .rt v (u e)
  | .bk e => .bk (u e)
  | .ct e => .ct (u e)
  | .ex c e => .ex c (u e)
  | .stuck => .stuck
def lockH (ev : EV) (env : Env3) : Env3 := match ev with
  | .ptr k π => match env[k]? with
    | some (some (SV.own p L t)) => env.set k (some (SV.own p (π :: L) t))
    | _ => env
  | _ => env
def unlH (ev : EV) (env : Env3) : Env3 := match ev with
  | .ptr k _ => match env[k]? with
    | some (some (SV.own p (_ :: L) t)) => env.set k (some (SV.own p L t))
    | _ => env
  | _ => env
def lockHs : List EV → Env3 → Env3
  | [], env => env
  | e :: r, env => lockHs r (lockH e env)
def unlHs : List EV → Env3 → Env3
  | [], env => env
  | e :: r, env => unlH e (unlHs r env)
def holdsS (hs : List EV) (f : S3) : S3 := fun env => (f (lockHs hs env)).mapE (unlHs hs)
def okI (x : EV) (env : Env3) : Bool := match x with
  | .ptr _ _ => match rd env x with
    | some t => t.mut
    | none => false
  | _ => true
def forF (tg : TG3) (b : S3) : List EV → S3
  | [] => fun env => .nx env
  | x :: r => fun env => if okI x env = true then (match tg x env with
    | none => .stuck
    | some e1 => (match b e1 with
      | .nx e2 => forF tg b r e2
      | .ct e2 => forF tg b r e2
      | .bk e2 => .nx e2
      | o => o)) else .stuck
def sFor (it : M3 IV) (tg : TG3) (b : S3) : S3 := fun env => match it env with
  | .ok iv e => holdsS iv.hold (forF tg b iv.items) e
  | .exc c e => .ex c e
  | .stuck => .stuck
def HoldR (G : Gm) (g1 : Gh) (env : Env3) (H : Hp) : EV → V → Prop
  | .im w, v => Rep G g1.Z H w v
  | .tmp t, v => ∃ d, RepT G g1.Z H t v d ∧ ∀ p ∈ fp d, g1.P p
  | .ptr k π, v => ∃ a x e, v = .ref a ∧ (π, a) ∈ g1.lk k ∧ rd env (.ptr k π) = some x ∧ RepT G g1.Z H x v e
def HoldL (G : Gm) (g1 : Gh) (env : Env3) (H : Hp) : List EV → List V → Prop
  | [], vs => vs = []
  | e :: r, vs => ∃ v vr, vs = v :: vr ∧ HoldR G g1 env H e v ∧ HoldL G g1 env H r vr
theorem HoldR.to {g1 g2 : Gh} {env2 : Env3} {ev : EV} {v : V} (h : HoldR G g1 env H ev v) (hz : g2.Z = g1.Z) (hp : ∀ p, g1.P p → g2.P p) (hl : ∀ i q, q ∈ g1.lk i → q ∈ g2.lk i) (hr : ∀ e, rd env2 e = rd env e) : HoldR G g2 env2 H ev v := by
  cases ev with
  | im w => unfold HoldR at h ⊢; rw [hz]; exact h
  | tmp t => obtain ⟨d, h1, h2⟩ := h; exact ⟨d, by rw [hz]; exact h1, fun p q => hp p (h2 p q)⟩
  | ptr k π => obtain ⟨a, x, e, h1, h2, h3, h4⟩ := h; exact ⟨a, x, e, h1, hl k _ h2, by rw [hr]; exact h3, by rw [hz]; exact h4⟩
theorem HoldL.to {g1 g2 : Gh} {env2 : Env3} (hz : g2.Z = g1.Z) (hp : ∀ p, g1.P p → g2.P p) (hl : ∀ i q, q ∈ g1.lk i → q ∈ g2.lk i) (hr : ∀ e, rd env2 e = rd env e) : ∀ {evs : List EV} {vs : List V}, HoldL G g1 env H evs vs → HoldL G g2 env2 H evs vs
  | [], _, h => h
  | e :: r, _, ⟨v, vr, e1, a, b⟩ => ⟨v, vr, e1, a.to hz hp hl hr, HoldL.to hz hp hl hr b⟩
theorem getP_of_adr : ∀ {π : Path} {t : T} {d : D} {a : Addr}, adr t d π = some a → ∃ x, t.getP π = some x
  | [], t, d, a, _ => ⟨t, rfl⟩
  | s :: π, t, .nd b o ds, a, h => by
    simp only [adr] at h
    obtain ⟨i, h1, h⟩ := Option.bind_eq_some_iff.mp h
    obtain ⟨c, h2, h⟩ := Option.bind_eq_some_iff.mp h
    obtain ⟨e, h3, h⟩ := Option.bind_eq_some_iff.mp h
    obtain ⟨x, hx⟩ := getP_of_adr h
    exact ⟨x, by simp only [T.getP, T.kid, h1, h2, Option.bind_some]; exact hx⟩
theorem rd_set {k : Nat} {p p' : Bool} {L L' : List Path} {t : T} (h : env[k]? = some (some (SV.own p L t))) (e : EV) : rd (env.set k (some (SV.own p' L' t))) e = rd env e := by
  cases e with
  | im w => rfl
  | tmp t => rfl
  | ptr j π =>
    simp only [rd]
    by_cases q : j = k
    · subst q
      rw [List.getElem?_set_self (get_lt h), h]
    · rw [List.getElem?_set_ne (Ne.symm q)]
theorem rd_lockH (ev e : EV) : rd (lockH ev env) e = rd env e := by
  unfold lockH
  split
  · split
    · rename_i h; exact rd_set h e
    · rfl
  · rfl
theorem Sim.hold1 (s : Sim G g env σ H ds) {ev : EV} {v : V} {d : D} (r : EvR G g env H ds ev v d) : ∃ g1, Sim G g1 (lockH ev env) σ H ds ∧ g1.Z = g.Z ∧ (∀ p, g1.P p ↔ g.P p ∨ p ∈ fp d) ∧ (∀ i q, q ∈ g.lk i → q ∈ g1.lk i) ∧ HoldR G g1 env H ev v ∧
    ∀ g2 env2 H2 σ2 evs us, Keep g1 H g2 H2 → SimA G g2 env2 σ2 H2 evs us → ∃ g3, g3.Z = g2.Z ∧ Keep g H g3 H2 ∧ SimA G g3 (unlH ev env2) σ2 H2 evs us := by
  have idl : ∀ (env : Env3), ∀ (k : Nat) p L t, env[k]? = some (some (SV.own p L t)) → ∃ L', env[k]? = some (some (SV.own p L' t)) := fun env k p L t h => ⟨L, h⟩
  cases ev with
  | im w => exact ⟨g, s, rfl, fun p => ⟨.inl, fun h => h.elim id fun z => by rw [r.1, fp_z] at z; cases z⟩, fun _ _ h => h, r.2, fun g2 env2 H2 σ2 evs us k s2 => ⟨g2, rfl, k, s2⟩⟩
  | tmp t =>
    obtain ⟨r1, r2, r3, r4⟩ := r
    refine ⟨{ g with P := fun p => g.P p ∨ p ∈ fp d }, s.moreP fun p hp => ⟨(r4 p hp).1, (r4 p hp).2.2, let ⟨o, e, m⟩ := r1.there p hp; Ob.mut e m⟩, rfl, fun _ => Iff.rfl, fun _ _ h => h, ⟨d, r1, fun p h => .inr h⟩, fun g2 env2 H2 σ2 evs us k ⟨ds2, es, s2, l⟩ => ?_⟩
    exact ⟨{ g2 with P := g.P }, rfl, ⟨k.z, fun p z => ⟨z, (k.p p (.inl z)).2⟩, fun _ z => z, k.tups, k.frzs, k.rt, k.lk, k.xa, k.l⟩, ds2, es, s2.lessP fun p z => (k.p p (.inl z)).1, EvL.to (g := g2) (g1 := { g2 with P := g.P }) rfl (fun p z => (k.p p (.inl z)).1) (idl env2) l⟩
  | ptr j π =>
    have r' := r
    obtain ⟨rfl, a, p, L, t, rfl, h1, h2⟩ := r
    obtain ⟨v, q1, q2, q3, q4, q5, q6⟩ := s.own _ _ _ _ h1
    obtain ⟨x, hx⟩ := getP_of_adr h2
    have hrd : rd env (.ptr j π) = some x := by simp only [rd, h1, hx]
    obtain ⟨e, re⟩ := r'.rd s hrd
    have e1 : lockH (.ptr j π) env = env.set j (some (.own p (π :: L) t)) := by unfold lockH; simp only [h1]
    refine ⟨{ g with lk := fun i => if i = j then (π, a) :: g.lk j else g.lk i }, ?_, rfl, fun p => ⟨.inl, fun h => h.elim id fun z => by rw [fp_z] at z; cases z⟩, fun i q hq => ?_, ⟨a, x, e, rfl, by simp, hrd, re⟩, fun g2 env2 H2 σ2 evs us k ⟨ds2, es, s2, l⟩ => ?_⟩
    · rw [e1]
      refine s.lk h1 ((π, a) :: g.lk j) (by simp [q5]) fun q hq => ?_
      rcases List.mem_cons.mp hq with rfl | hq
      · exact h2
      · exact q6 q hq
    · by_cases e : i = j
      · subst e; simp [hq]
      · simp [e, hq]
    · have kl : g2.lk j = (π, a) :: g.lk j := by rw [k.lk]; simp
      have : ∃ p L t, env2[j]? = some (some (SV.own p L t)) := Classical.byContradiction fun e => by
        have := (s2.non j fun q L t z => e ⟨q, L, t, z⟩).2
        rw [kl] at this; cases this
      obtain ⟨p', L', t', h1'⟩ := this
      obtain ⟨v', q1', q2', q3', q4', q5', q6'⟩ := s2.own _ _ _ _ h1'
      rw [kl] at q5' q6'
      subst q5'
      have e2 : unlH (.ptr j π) env2 = env2.set j (some (.own p' ((g.lk j).map (·.1)) t')) := by unfold unlH; simp only [h1', List.map_cons]
      have he : ∀ (k : Nat) p L t, env2[k]? = some (some (SV.own p L t)) → ∃ L', (env2.set j (some (SV.own p' ((g.lk j).map (·.1)) t')))[k]? = some (some (SV.own p L' t)) := fun k p L t h => by
        by_cases e : k = j
        · subst e
          rw [h1'] at h; cases h
          exact ⟨_, List.getElem?_set_self (get_lt h1')⟩
        · exact ⟨L, by rw [List.getElem?_set_ne (Ne.symm e)]; exact h⟩
      have s3 := s2.lk h1' (g.lk j) rfl fun q hq => q6' q (List.mem_cons_of_mem _ hq)
      have lke : (fun i => if i = j then g.lk j else g2.lk i) = g.lk := by
        funext i
        by_cases e : i = j
        · subst e; simp
        · rw [k.lk]; simp [e]
      rw [lke] at s3
      refine ⟨{ g2 with lk := g.lk }, rfl, ⟨k.z, k.p, k.q, k.tups, k.frzs, k.rt, rfl, k.xa, fun i q hq => k.l i q (by
          by_cases e : i = j
          · subst e; simp [hq]
          · simp [e, hq])⟩, ?_⟩
      rw [e2]
      exact ⟨ds2, es, s3, EvL.to (g := g2) (g1 := { g2 with lk := g.lk }) rfl (fun _ z => z) he l⟩
theorem EvL.more {g1 : Gh} {env1 : Env3} (hz : g1.Z = g.Z) (he : ∀ (k : Nat) p L t, env[k]? = some (some (SV.own p L t)) → ∃ L', env1[k]? = some (some (SV.own p L' t))) : ∀ {evs : List EV} {vs : List V} {es : List D}, (∀ p ∈ fps es, g1.P p → g.P p) → EvL G g env H ds evs vs es → EvL G g1 env1 H ds evs vs es
  | [], _, _, _, h => h
  | e :: r, _, _, hp, ⟨v, vr, d, dr, e1, e2, a, b, c⟩ => by
    subst e2
    refine ⟨v, vr, d, dr, e1, rfl, ?_, EvL.more hz he (fun p h => hp p (List.mem_append_right _ h)) b, c⟩
    cases e with
    | im w => exact ⟨a.1, by rw [hz]; exact a.2⟩
    | tmp t => exact ⟨by rw [hz]; exact a.1, a.2.1, a.2.2.1, fun p h => ⟨by rw [hz]; exact (a.2.2.2 p h).1, fun z => (a.2.2.2 p h).2.1 (hp p (List.mem_append_left _ h) z), (a.2.2.2 p h).2.2⟩⟩
    | ptr k π =>
      obtain ⟨e, a, p, L, t, h1, h2, h3⟩ := a
      obtain ⟨L', h2'⟩ := he k p L t h2
      exact ⟨e, a, p, L', t, h1, h2', h3⟩
theorem lockH_own (ev : EV) : ∀ (k : Nat) p L t, env[k]? = some (some (SV.own p L t)) → ∃ L', (lockH ev env)[k]? = some (some (SV.own p L' t)) := fun k p L t h => by
  unfold lockH
  split
  · rename_i j π
    split
    · rename_i p' L0 t' h'
      by_cases e : k = j
      · subst e
        rw [h] at h'; cases h'
        exact ⟨_, List.getElem?_set_self (get_lt h)⟩
      · exact ⟨L, by rw [List.getElem?_set_ne (Ne.symm e)]; exact h⟩
    · exact ⟨L, h⟩
  · exact ⟨L, h⟩
theorem Sim.holds : ∀ {hs : List EV} {vs : List V} {g : Gh} {env : Env3}, SimA G g env σ H hs vs → ∃ g1, SimN G g1 (lockHs hs env) σ H ∧ g1.Z = g.Z ∧ (∀ p, g.P p → g1.P p) ∧ (∀ i q, q ∈ g.lk i → q ∈ g1.lk i) ∧ HoldL G g1 env H hs vs ∧
    ∀ g2 env2 H2 σ2 evs us, Keep g1 H g2 H2 → SimA G g2 env2 σ2 H2 evs us → ∃ g3, g3.Z = g2.Z ∧ Keep g H g3 H2 ∧ SimA G g3 (unlHs hs env2) σ2 H2 evs us
  | [], vs, g, env, ⟨ds, es, s, l⟩ => ⟨g, ⟨ds, s⟩, rfl, fun _ h => h, fun _ _ h => h, l.1, fun g2 env2 H2 σ2 evs us k s2 => ⟨g2, rfl, k, s2⟩⟩
  | e :: r, vs, g, env, ⟨ds, es, s, v, vr, d, dr, e1, e2, a, b, c⟩ => by
    subst e1 e2
    obtain ⟨g1, s1, z1, p1, l1, h1, rel1⟩ := s.hold1 a
    have b1 : EvL G g1 (lockH e env) H ds r vr dr := EvL.more z1 (lockH_own e) (fun p hp h => ((p1 p).mp h).elim id fun z => absurd hp (c p z)) b
    obtain ⟨g2, s2, z2, p2, l2, h2, rel2⟩ := Sim.holds (hs := r) (g := g1) ⟨ds, dr, s1, b1⟩
    refine ⟨g2, s2, z2.trans z1, fun p h => p2 p ((p1 p).mpr (.inl h)), fun i q h => l2 i q (l1 i q h), ⟨v, vr, rfl, h1.to z2 p2 l2 fun _ => rfl, h2.to rfl (fun _ h => h) (fun _ _ h => h) fun x => (rd_lockH e x).symm⟩, fun g3 env3 H3 σ3 evs us k3 s3 => ?_⟩
    obtain ⟨g4, z4, k4, s4⟩ := rel2 g3 env3 H3 σ3 evs us k3 s3
    obtain ⟨g5, z5, k5, s5⟩ := rel1 g4 _ H3 σ3 evs us k4 s4
    exact ⟨g5, z5.trans z4, k5, s5⟩
structure KeepW (g : Gh) (H : Hp) (g' : Gh) (H' : Hp) : Prop where
  z : ∀ p, g.Z p → g'.Z p ∧ H' p = H p
  p : ∀ p, g.P p → g'.P p ∧ H' p = H p
  tups : ∀ b xs, H b = some (.tup xs) → H' b = some (.tup xs)
  frzs : FK H H'
  lk : g'.lk = g.lk
  l : ∀ i q, q ∈ g.lk i → H' q.2 = H q.2
theorem Keep.w {g g' : Gh} {H H' : Hp} (k : Keep g H g' H') : KeepW g H g' H' := ⟨k.z, k.p, k.tups, k.frzs, k.lk, k.l⟩
theorem KeepW.kz {g g' : Gh} {H H' : Hp} (k : KeepW g H g' H') : KeepZ g.Z H g'.Z H' := ⟨k.z, k.tups, k.frzs⟩
theorem KeepW.trans {g1 g2 g3 : Gh} {H1 H2 H3 : Hp} (a : KeepW g1 H1 g2 H2) (b : KeepW g2 H2 g3 H3) : KeepW g1 H1 g3 H3 :=
  ⟨fun p h => ⟨(b.z p (a.z p h).1).1, ((b.z p (a.z p h).1).2).trans (a.z p h).2⟩, fun p h => ⟨(b.p p (a.p p h).1).1, ((b.p p (a.p p h).1).2).trans (a.p p h).2⟩,
    fun c xs h => b.tups c xs (a.tups c xs h), a.frzs.trans b.frzs, b.lk.trans a.lk, fun i q h => (b.l i q (by rw [a.lk]; exact h)).trans (a.l i q h)⟩
def ItR (G : Gm) (J : It) (g1 : Gh) (H1 : Hp) (items : List EV) : Prop :=
  ∀ g env σ H, KeepW g1 H1 g H → SimN G g env σ H → J.stop items.length H ∧ ∀ i x, items[i]? = some x → J.go i H ∧ ∀ v H', J.yld i H v H' → ∃ g', Keep g H g' H' ∧ SimN G g' env σ H' ∧ (okI x env = true → SimE G g' env σ H' x v)
def SatI (G : Gm) (Wx : WX) (g : Gh) (σ : L2.St) (H : Hp) (R : It → Hp → Prop) : Out IV → Prop
  | .ok iv env' => ∀ g' vs H' J, Keep g H g' H' → SimA G g' env' σ H' iv.hold vs → (∀ g1, g1.Z = g'.Z → HoldL G g1 env' H' iv.hold vs → ItR G J g1 H' iv.items) → R J H'
  | .exc c env' => SatX G Wx g σ H c env'
  | .stuck => False
def liftI (G : Gm) (Wx : WX) (f : M3 IV) : TI := fun σ H R => ∃ g env ds, Sim G g env σ H ds ∧ SatI G Wx g σ H R (f env)
abbrev SI (G : Gm) (X : Cx) (Wx : WX) (tg e : Expr) (f : M3 IV) : Prop := PI X tg e (liftI G Wx f)
theorem SimA.nil_of (s : SimN G g env σ H) : SimA G g env σ H [] [] := let ⟨ds, s⟩ := s; ⟨ds, [], s, rfl, rfl⟩
theorem ss_for {tg iter : Expr} {body : List Stmt} {fi : M3 IV} {gt : TG3} {fb : S3} (hp : PassesOwn (model X.prog X.w) X.A X.env X.xe) (hc : X.calm = true) (hi : SI G X Wx tg iter fi) (hg : SG G X tg gt) (hb : SSs G X Wx body fb)
    (hs : ∀ x, foldedSetIterable iter X.env x = pure x := by intro _; rfl) : SS G X Wx (.For tg iter body [] pos) (sFor fi gt fb) := by
  refine ps_imp (ps_for hp hc hi hg hb hs) ?_
  rintro D σ0 H0 ⟨g0, env0, ds0, s0, h0⟩
  refine ⟨g0, env0, ds0, s0, ?_⟩
  unfold sFor at h0
  cases e1 : fi env0 with
  | stuck => rw [e1] at h0; exact h0.elim
  | exc c e2 => rw [e1] at h0; exact fun g2 H2 k2 s2 => h0 g2 σ0 H2 k2 s2
  | ok iv env1 =>
    rw [e1] at h0
    intro g1 vs H1 J k1 s1 ij
    obtain ⟨gl, sl, zl, pl, ll, hl, rel⟩ := Sim.holds s1
    have ij := ij gl zl hl
    have reln : ∀ g2 env2 H2 σ2, Keep gl H1 g2 H2 → SimN G g2 env2 σ2 H2 → ∃ g3, Keep g0 H0 g3 H2 ∧ SimN G g3 (unlHs iv.hold env2) σ2 H2 := fun g2 env2 H2 σ2 k s => by
      obtain ⟨g3, _, k3, s3⟩ := rel g2 env2 H2 σ2 [] [] k (SimA.nil_of s)
      exact ⟨g3, k1.trans k3, s3.n⟩
    refine ⟨fun i m σ H => ∃ g env, i ≤ iv.items.length ∧ m = iv.items.length - i ∧ Keep gl H1 g H ∧ SimN G g env σ H ∧ SatS G Wx g0 H0 D ((forF gt fb (iv.items.drop i) env).mapE (unlHs iv.hold)), ⟨iv.items.length, gl, _, Nat.zero_le _, rfl, Keep.refl _ _, sl, h0⟩, ?_⟩
    rintro i m σ H ⟨g, env, hile, rfl, kk, s, q⟩
    by_cases hlt : i < iv.items.length
    · right
      have hx : iv.items[i]? = some iv.items[i] := by simp [hlt]
      rw [List.drop_eq_getElem_cons hlt] at q
      obtain ⟨go, yld⟩ := (ij g env σ H kk.w s).2 i _ hx
      simp only [forF] at q
      split at q
      · rename_i hok
        cases e3 : gt iv.items[i] env with
        | none => simp only [e3] at q; exact q.elim
        | some e4 =>
          simp only [e3] at q
          refine ⟨go, fun σ' H' => ∃ g env, Keep gl H1 g H' ∧ SimN G g env σ' H' ∧ SatS G Wx g0 H0 D ((forF gt fb (iv.items.drop (i + 1)) env).mapE (unlHs iv.hold)), ?_, ?_⟩
          · rintro σ' H' ⟨g', env', k', s', q'⟩
            exact ⟨iv.items.length - (i + 1), by omega, g', env', hlt, rfl, k', s', q'⟩
          · intro v H' y
            obtain ⟨g', k', s', r'⟩ := yld v H' y
            refine ⟨g', env, _, e4, r' hok, e3, fun g2 σ2 H2 k2 ⟨ds2, s2⟩ => ⟨g2, e4, ds2, s2, ?_⟩⟩
            have kk2 := (kk.trans k').trans k2
            cases e5 : fb e4 with
            | nx e6 => simp only [e5] at q; exact fun g3 σ3 H3 k3 s3 => ⟨g3, e6, kk2.trans k3, s3, q⟩
            | ct e6 => simp only [e5] at q; exact fun g3 σ3 H3 k3 s3 => ⟨g3, e6, kk2.trans k3, s3, q⟩
            | bk e6 =>
              simp only [e5] at q
              intro g3 σ3 H3 k3 s3
              obtain ⟨g4, k4, s4⟩ := reln g3 e6 H3 σ3 (kk2.trans k3) s3
              exact q g4 σ3 H3 k4 s4
            | rt u e6 =>
              simp only [e5] at q
              intro g3 σ3 v3 H3 k3 s3
              obtain ⟨g4, _, k4, s4⟩ := rel g3 e6 H3 σ3 [u] [v3] (kk2.trans k3) (SimA.one s3)
              exact q g4 σ3 v3 H3 (k1.trans k4) s4.hd
            | ex c e6 =>
              simp only [e5] at q
              intro g3 σ3 H3 k3 s3
              obtain ⟨g4, k4, s4⟩ := reln g3 e6 H3 σ3 (kk2.trans k3) s3
              exact q g4 σ3 H3 k4 s4
            | stuck => simp only [e5] at q; exact q.elim
      · exact q.elim
    · left
      have e : i = iv.items.length := by omega
      subst e
      rw [List.drop_eq_nil_of_le (Nat.le_refl _)] at q
      obtain ⟨g4, k4, s4⟩ := reln g env H σ kk s
      exact ⟨(ij g env σ H kk.w s).1, q g4 σ H k4 s4⟩
end
end VL
namespace VL
open PySem L2 PyProof.Rows
inductive FO where
  | ok (ev : EV) (ts : List T) | exc (c : String) (ts : List T) | stuck
abbrev Fn := List T → FO
structure GhOk (G : Gm) (g : Gh) (H : Hp) : Prop where
  lk : g.lk = fun _ => []
  zt : ∀ p, g.Z p → ¬ g.P p ∧ Ob H p
  pt : (∀ p, g.P p → Ob H p) ∧ Tb G H
structure ArgR (G : Gm) (g : Gh) (H : Hp) (ts : List T) (vs : List V) (es : List D) : Prop where
  r : RepTL G g.Z H ts vs es
  nd : (fps es).Nodup
  no : ∀ p ∈ fps es, ¬ g.Z p ∧ ¬ g.P p
def FoR (G : Gm) (g : Gh) (H : Hp) (ts : List T) (es : List D) : EV → V → Prop
  | .im w, v => Rep G g.Z H w v
  | .tmp t, v => ∃ d, RepT G g.Z H t v d ∧ t.mut = true ∧ (fp d).Nodup ∧ ∀ p ∈ fp d, ¬ g.Z p ∧ ¬ g.P p ∧ p ∉ fps es
  | .ptr j π, v => ∃ t e a, ts[j]? = some t ∧ es[j]? = some e ∧ adr t e π = some a ∧ v = .ref a
def SatF (G : Gm) (g : Gh) (H : Hp) (vs : List V) (ts : List T) (Q : VK) (E : XK) : FO → Prop
  | .ok ev ts' => ∀ g' v H' es', Keep g H g' H' → GhOk G g' H' → ArgR G g' H' ts' vs es' → ts'.map T.mut = ts.map T.mut → FoR G g' H' ts' es' ev v → Q v H'
  | .exc c ts' => ∀ g' H' es', Keep g H g' H' → GhOk G g' H' → ArgR G g' H' ts' vs es' → ts'.map T.mut = ts.map T.mut → E (.ref (G.cA c)) none H'
  | .stuck => False
def spOf (G : Gm) (n : Nat) (f : Fn) : Sp := fun vs H Q E => vs.length = n ∧ ∃ g ts es, GhOk G g H ∧ ArgR G g H ts vs es ∧ SatF G g H vs ts Q E (f ts)
def startS : T → Option SV
  | .im w => some (.val w)
  | t => some (.own true [] t)
def startE (N : Nat) (ts : List T) : Env3 := ts.map startS ++ List.replicate (N - ts.length) none
def argsO (env : Env3) : Nat → List T → Option (List T)
  | _, [] => some []
  | i, .im w :: ts => (argsO env (i + 1) ts).map (T.im w :: ·)
  | i, _ :: ts => match env[i]? with
    | some (some (SV.own true _ t')) => (argsO env (i + 1) ts).map (t' :: ·)
    | _ => none
def retE (env : Env3) : EV → Option EV
  | .im w => some (.im w)
  | .tmp t => some (.tmp t)
  | .ptr k π => match env[k]? with
    | some (some (SV.own true _ _)) => some (.ptr k π)
    | some (some (SV.own false _ t)) => match t.getP π with
      | some (.im w) => some (.im w)
      | some x => some (.tmp x)
      | none => none
    | _ => none
def finF (v : EV) (e : Env3) (ts : List T) : FO := match argsO e 0 ts with
  | some ts' => (match retE e v with
    | some v' => .ok v' ts'
    | none => .stuck)
  | none => .stuck
def bodyF (N : Nat) (m : S3) : Fn := fun ts => match m (startE N ts) with
  | .nx e => finF (.im .non) e ts
  | .rt v e => finF v e ts
  | .ex c e => (match argsO e 0 ts with
    | some ts' => .exc c ts'
    | none => .stuck)
  | _ => .stuck
section
variable {G : Gm} {X : Cx} {Wx : WX} {g g' : Gh} {env env' : Env3} {σ : L2.St} {H H' : Hp} {ds : Nat → D}
theorem mem_fps_get : ∀ {es : List D} {p : Addr}, p ∈ fps es → ∃ (i : Nat) (d : D), es[i]? = some d ∧ p ∈ fp d
  | d :: ds, p, h => by
    simp only [fps, List.mem_append] at h
    rcases h with h | h
    · exact ⟨0, d, rfl, h⟩
    · obtain ⟨i, e, h1, h2⟩ := mem_fps_get h
      exact ⟨i + 1, e, by simpa using h1, h2⟩
theorem fps_nodup_of : ∀ {es : List D}, (∀ (i : Nat) d, es[i]? = some d → (fp d).Nodup) → (∀ (i j : Nat) d e p, es[i]? = some d → es[j]? = some e → p ∈ fp d → p ∈ fp e → i = j) → (fps es).Nodup
  | [], _, _ => List.nodup_nil
  | d :: ds, h1, h2 => by
    simp only [fps]
    refine List.nodup_append.mpr ⟨h1 0 d rfl, fps_nodup_of (fun i e h => h1 (i + 1) e (by simpa using h)) (fun i j a b p ha hb hp hq => ?_), fun p hp q hq e => ?_⟩
    · have := h2 (i + 1) (j + 1) a b p (by simpa using ha) (by simpa using hb) hp hq
      omega
    · subst e
      obtain ⟨i, e, h3, h4⟩ := mem_fps_get hq
      have := h2 0 (i + 1) d e p rfl (by simpa using h3) hp h4
      omega
theorem repTL_of : ∀ {ts : List T} {vs : List V} {es : List D}, vs.length = ts.length → es.length = ts.length → (∀ (i : Nat) t v e, ts[i]? = some t → vs[i]? = some v → es[i]? = some e → RepT G g.Z H t v e) → RepTL G g.Z H ts vs es
  | [], vs, es, h1, h2, _ => ⟨List.length_eq_zero_iff.mp h1, List.length_eq_zero_iff.mp h2⟩
  | t :: ts, [], es, h1, _, _ => by simp at h1
  | t :: ts, v :: vs, [], _, h2, _ => by simp at h2
  | t :: ts, v :: vs, e :: es, h1, h2, h => ⟨v, vs, e, es, rfl, rfl, h 0 t v e rfl rfl rfl, repTL_of (by simpa using h1) (by simpa using h2) fun i t v e a b c => h (i + 1) t v e (by simpa using a) (by simpa using b) (by simpa using c)⟩
theorem start_get {N : Nat} {ts : List T} {i : Nat} {s : SV} (h : (startE N ts)[i]? = some (some s)) : ∃ t, ts[i]? = some t ∧ startS t = some s := by
  unfold startE at h
  by_cases hi : i < ts.length
  · rw [List.getElem?_append_left (by simpa using hi), List.getElem?_map] at h
    obtain ⟨t, h1, h2⟩ := Option.map_eq_some_iff.mp h
    exact ⟨t, h1, h2⟩
  · rw [List.getElem?_append_right (by simpa using Nat.le_of_not_lt hi)] at h
    rw [List.getElem?_replicate] at h
    split at h <;> cases h
def ghF (g : Gh) (ts : List T) (es : List D) : Gh := ⟨g.Z, g.P, fun i => (ts[i]?).bind fun t => (es[i]?).bind fun e => adr t e [], fun _ => [], none⟩
theorem sim_start {N : List Str} {ts : List T} {vs : List V} {es : List D} (ok : GhOk G g H) (a : ArgR G g H ts vs es) (hN : ts.length ≤ N.length) : Sim G (ghF g ts es) (startE N.length ts) (L2.start N vs) H (fun i => (es[i]?).getD .z) := by
  have hl := a.r.len
  have sg : ∀ (i : Nat) (v : V), vs[i]? = some v → (L2.start N vs)[i]? = some (some v) := fun i v h => by
    unfold L2.start
    rw [List.getElem?_append_left (by simpa using get_lt h), List.getElem?_map, h]; rfl
  have eg : ∀ (i : Nat) e, es[i]? = some e → (es[i]?).getD D.z = e := fun i e h => by rw [h]; rfl
  have dm : ∀ (i : Nat) p, p ∈ fp ((es[i]?).getD D.z) → ∃ e, es[i]? = some e ∧ p ∈ fp e := fun i p h => by
    cases q : es[i]? with
    | none => rw [q] at h; simp [fp_z] at h
    | some e => rw [q] at h; exact ⟨e, rfl, h⟩
  refine ⟨?_, fun i w h => ?_, fun i p L t h => ?_, fun i k π h => ?_, fun i c h => ?_, fun i h => ?_, fun i => ?_, fun i j p h h' => ?_, fun i p h => ?_, ok.zt, ok.pt⟩
  · unfold startE L2.start
    simp [hl.1]
  · obtain ⟨t, h1, h2⟩ := start_get h
    cases t with
    | im w' =>
      cases h2
      obtain ⟨v, e, q1, q2, q3⟩ := a.r.get h1
      exact ⟨v, sg i v q1, q3.2⟩
    | _ => cases h2
  · obtain ⟨t', h1, h2⟩ := start_get h
    obtain ⟨v, e, q1, q2, q3⟩ := a.r.get h1
    have : t' = t ∧ p = true ∧ L = [] ∧ t.mut = true := by
      cases t' <;> cases h2 <;> exact ⟨rfl, rfl, rfl, rfl⟩
    obtain ⟨rfl, rfl, rfl, hm⟩ := this
    refine ⟨v, sg i v q1, by rw [eg i e q2]; exact q3, hm, fun _ => ?_, rfl, fun q hq => by cases hq⟩
    simp only [ghF, h1, q2, Option.bind_some, Option.getD_some]
  · obtain ⟨t', h1, h2⟩ := start_get h
    cases t' <;> cases h2
  · obtain ⟨t', h1, h2⟩ := start_get h
    cases t' <;> cases h2
  · refine ⟨?_, rfl⟩
    cases q : es[i]? with
    | none => rfl
    | some e =>
      have hi : i < ts.length := by rw [← hl.2]; exact get_lt q
      have hts : ts[i]? = some ts[i] := by simp [hi]
      obtain ⟨v, e', q1, q2, q3⟩ := a.r.get hts
      rw [q] at q2; cases q2
      have hs : (startE N.length ts)[i]? = some (startS ts[i]) := by
        unfold startE
        rw [List.getElem?_append_left (by simpa using hi), List.getElem?_map, hts]; rfl
      cases ht : ts[i] with
      | im w => rw [ht] at q3; exact q3.1
      | _ => rw [ht] at hs; exact absurd hs (h _ _ _)
  · cases q : es[i]? with
    | none => simp [fp_z]
    | some e => exact fps_get a.nd q
  · obtain ⟨e, h1, h2⟩ := dm i p h
    obtain ⟨e', h1', h2'⟩ := dm j p h'
    refine Classical.byContradiction fun ne => ?_
    exact fps_split ne a.nd h1 h1' h2 h2'
  · obtain ⟨e, h1, h2⟩ := dm i p h
    exact a.no p (mem_fps (List.mem_of_getElem? h1) h2)
theorem argsO_spec {env : Env3} : ∀ {ts ts' : List T} {i : Nat}, argsO env i ts = some ts' → ts'.length = ts.length ∧ ∀ (j : Nat) t t', ts[j]? = some t → ts'[j]? = some t' → (t.mut = false ∧ t' = t) ∨ (t.mut = true ∧ ∃ L, env[i + j]? = some (some (SV.own true L t')))
  | [], ts', i, h => by cases h; exact ⟨rfl, fun j t t' h => by simp at h⟩
  | t :: ts, ts', i, h => by
    have gen : ∀ (x : T) r, argsO env (i + 1) ts = some r → ts' = x :: r → ((t.mut = false ∧ x = t) ∨ (t.mut = true ∧ ∃ L, env[i]? = some (some (SV.own true L x)))) → ts'.length = (t :: ts).length ∧ ∀ (j : Nat) u u', (t :: ts)[j]? = some u → ts'[j]? = some u' → (u.mut = false ∧ u' = u) ∨ (u.mut = true ∧ ∃ L, env[i + j]? = some (some (SV.own true L u'))) := fun x r hr e hx => by
      subst e
      obtain ⟨q1, q2⟩ := argsO_spec hr
      refine ⟨by simp [q1], fun j u u' hu hu' => ?_⟩
      cases j with
      | zero =>
        rw [List.getElem?_cons_zero] at hu hu'
        cases hu; cases hu'
        exact hx
      | succ j =>
        rw [List.getElem?_cons_succ] at hu hu'
        rcases q2 j u u' hu hu' with z | ⟨z1, L, z2⟩
        · exact .inl z
        · exact .inr ⟨z1, L, by rw [← z2]; congr 1; omega⟩
    cases t with
    | im w =>
      obtain ⟨r, h1, h2⟩ := Option.map_eq_some_iff.mp (show (argsO env (i + 1) ts).map (T.im w :: ·) = some ts' from h)
      exact gen (.im w) r h1 h2.symm (.inl ⟨rfl, rfl⟩)
    | _ =>
      simp only [argsO] at h
      split at h
      · rename_i L t' e
        obtain ⟨r, h1, h2⟩ := Option.map_eq_some_iff.mp h
        exact gen t' r h1 h2.symm (.inr ⟨rfl, L, e⟩)
      · cases h
theorem end_args {ts ts' : List T} {vs : List V} {es : List D} (a : ArgR G g H ts vs es) (k : Keep (ghF g ts es) H g' H') (s : Sim G g' env' σ H' ds) (h : argsO env' 0 ts = some ts') :
    ∃ es', ArgR G ⟨g'.Z, g'.P, g.rt, g.lk, g.xa⟩ H' ts' vs es' ∧ ts'.map T.mut = ts.map T.mut ∧ (∀ j t', ts'[j]? = some t' → t'.mut = true → (∃ L, env'[j]? = some (some (SV.own true L t'))) ∧ es'[j]? = some (ds j)) ∧
      (∀ i : Nat, (∀ L t, env'[i]? ≠ some (some (SV.own true L t))) → ∀ p ∈ fp (ds i), p ∉ fps es') ∧ ∀ p ∈ fps es', ∃ i, p ∈ fp (ds i) := by
  obtain ⟨hlen, sp⟩ := argsO_spec h
  have hl := a.r.len
  have own : ∀ (j : Nat) t t', ts[j]? = some t → ts'[j]? = some t' → t.mut = true → (∃ L, env'[j]? = some (some (SV.own true L t'))) ∧ t'.mut = true ∧ ∀ v, vs[j]? = some v → RepT G g'.Z H' t' v (ds j) := fun j t t' h1 h2 hm => by
    rcases sp j t t' h1 h2 with z | ⟨_, L, z⟩
    · rw [z.1] at hm; cases hm
    · rw [Nat.zero_add] at z
      obtain ⟨v', o1, o2, o3, o4, o5, o6⟩ := s.own _ _ _ _ z
      refine ⟨⟨L, z⟩, o3, fun v hv => ?_⟩
      obtain ⟨v0, e0, q1, q2, q3⟩ := a.r.get h1
      rw [hv] at q1; cases q1
      have hr := o4 rfl
      rw [k.rt] at hr
      simp only [ghF, h1, q2, Option.bind_some] at hr
      obtain ⟨b, b1, b2⟩ := adr_root q3 hm
      obtain ⟨c, c1, c2⟩ := adr_root o2 o3
      rw [b1, c1] at hr
      cases hr
      rw [b2, ← c2]; exact o2
  have imm : ∀ (j : Nat) t t', ts[j]? = some t → ts'[j]? = some t' → t.mut = false → t' = t := fun j t t' h1 h2 hm => by
    rcases sp j t t' h1 h2 with z | ⟨z, _⟩
    · exact z.2
    · rw [hm] at z; cases z
  have tlt : ∀ (j : Nat) t', ts'[j]? = some t' → ∃ t, ts[j]? = some t := fun j t' h => ⟨_, by rw [List.getElem?_eq_getElem]; rw [← hlen]; exact get_lt h⟩
  let es' : List D := (List.range ts.length).map fun j => if (ts'[j]?.map T.mut) = some true then ds j else D.z
  have eg : ∀ (j : Nat) t', ts'[j]? = some t' → es'[j]? = some (if t'.mut = true then ds j else D.z) := fun j t' h => by
    have hj : j < ts.length := by rw [← hlen]; exact get_lt h
    simp only [es', List.getElem?_map, List.getElem?_range hj, Option.map_some, h]
    cases t'.mut <;> simp
  have ei : ∀ (j : Nat) e, es'[j]? = some e → ∃ t', ts'[j]? = some t' ∧ e = (if t'.mut = true then ds j else D.z) := fun j e h => by
    have hj : j < ts.length := by have := get_lt h; simpa [es'] using this
    have ht : ts'[j]? = some (ts'[j]'(by rw [hlen]; exact hj)) := by rw [List.getElem?_eq_getElem]
    rw [eg j _ ht] at h
    exact ⟨_, ht, (Option.some.inj h).symm⟩
  have fpi : ∀ (j : Nat) e p, es'[j]? = some e → p ∈ fp e → p ∈ fp (ds j) ∧ ∃ t', ts'[j]? = some t' ∧ t'.mut = true := fun j e p h hp => by
    obtain ⟨t', h1, rfl⟩ := ei j e h
    by_cases hm : t'.mut = true
    · rw [if_pos hm] at hp; exact ⟨hp, t', h1, hm⟩
    · rw [if_neg hm, fp_z] at hp; cases hp
  refine ⟨es', ⟨repTL_of (by rw [hlen]; exact hl.1) (by simp [es', hlen]) fun i t' v e h1 h2 h3 => ?_, fps_nodup_of (fun i e h => ?_) (fun i j d e p hd he hp hq => ?_), fun p hp => ?_⟩, ?_, fun j t' h hm => ?_, fun i hi p hp hq => ?_, fun p hp => ?_⟩
  · obtain ⟨t, ht⟩ := tlt i t' h1
    rw [eg i t' h1] at h3
    cases h3
    cases hm : t.mut with
    | true =>
      obtain ⟨_, o1, o2⟩ := own i t t' ht h1 hm
      rw [if_pos o1]; exact o2 v h2
    | false =>
      have := imm i t t' ht h1 hm
      subst this
      rw [if_neg (by rw [hm]; exact Bool.false_ne_true)]
      obtain ⟨v0, e0, q1, q2, q3⟩ := a.r.get ht
      rw [h2] at q1; cases q1
      cases t' with
      | im w => exact ⟨rfl, q3.2.keep k.kz⟩
      | _ => cases hm
  · obtain ⟨t', h1, rfl⟩ := ei i e h
    by_cases hm : t'.mut = true
    · rw [if_pos hm]; exact s.nd i
    · rw [if_neg hm, fp_z]; exact List.nodup_nil
  · exact s.dj i j p (fpi i d p hd hp).1 (fpi j e p he hq).1
  · obtain ⟨i, e, h1, h2⟩ := mem_fps_get hp
    exact s.no i p (fpi i e p h1 h2).1
  · refine List.ext_getElem? fun j => ?_
    rw [List.getElem?_map, List.getElem?_map]
    cases h1 : ts'[j]? with
    | none =>
      have : ts[j]? = none := by rw [List.getElem?_eq_none_iff] at h1 ⊢; omega
      rw [this]
    | some t' =>
      obtain ⟨t, ht⟩ := tlt j t' h1
      rw [ht]
      cases hm : t.mut with
      | true => simp only [Option.map_some, hm, (own j t t' ht h1 hm).2.1]
      | false => rw [imm j t t' ht h1 hm]
  · obtain ⟨t, ht⟩ := tlt j t' h
    have htm : t.mut = true := by
      cases q : t.mut with
      | true => rfl
      | false => rw [imm j t t' ht h q, q] at hm; cases hm
    refine ⟨(own j t t' ht h htm).1, ?_⟩
    rw [eg j t' h, if_pos hm]
  · obtain ⟨j, e, h1, h2⟩ := mem_fps_get hq
    obtain ⟨h3, t', h4, h5⟩ := fpi j e p h1 h2
    have := s.dj i j p hp h3
    subst this
    obtain ⟨t, ht⟩ := tlt i t' h4
    have htm : t.mut = true := by
      cases q : t.mut with
      | true => rfl
      | false => rw [imm i t t' ht h4 q, q] at h5; cases h5
    obtain ⟨L, z⟩ := (own i t t' ht h4 htm).1
    exact hi L t' z
  · obtain ⟨j, e, h1, h2⟩ := mem_fps_get hp
    exact ⟨j, (fpi j e p h1 h2).1⟩
theorem fin_sat {Q : VK} {E : XK} {ts : List T} {vs : List V} {es : List D} {ev : EV} {v : V} (hg : g.lk = fun _ => []) (a : ArgR G g H ts vs es) (k : Keep (ghF g ts es) H g' H') (s : SimE G g' env' σ H' ev v) (h : SatF G g H vs ts Q E (finF ev env' ts)) : Q v H' := by
  obtain ⟨ds, d, s, r⟩ := s
  unfold finF at h
  split at h
  · rename_i ts' e1
    split at h
    · rename_i v' e2
      obtain ⟨es', a', hm, ho, hn, hi⟩ := end_args a k s e1
      obtain ⟨hlen, sp⟩ := argsO_spec e1
      refine h ⟨g'.Z, g'.P, g.rt, g.lk, g.xa⟩ v H' es' ⟨k.z, k.p, k.q, k.tups, k.frzs, rfl, rfl, rfl, fun i q hq => by rw [hg] at hq; cases hq⟩ ⟨hg, s.zt, s.pt⟩ a' hm ?_
      cases ev with
      | im w => cases e2; exact r.2
      | tmp t =>
        cases e2
        refine ⟨d, r.1, r.2.1, r.2.2.1, fun p hp => ⟨(r.2.2.2 p hp).1, (r.2.2.2 p hp).2.1, fun hq => ?_⟩⟩
        obtain ⟨j, hj⟩ := hi p hq
        exact (r.2.2.2 p hp).2.2 j hj
      | ptr j π =>
        obtain ⟨rfl, b, p, L, t, rfl, h1, h2⟩ := r
        simp only [retE, h1] at e2
        cases p with
        | true =>
          cases e2
          obtain ⟨v0, o1, o2, o3, o4, o5, o6⟩ := s.own _ _ _ _ h1
          obtain ⟨c, c1, c2⟩ := adr_root o2 o3
          have hr := o4 rfl
          rw [k.rt, c1] at hr
          obtain ⟨t0, q1, q2⟩ := Option.bind_eq_some_iff.mp hr
          obtain ⟨e0, q3, q4⟩ := Option.bind_eq_some_iff.mp q2
          have hj : j < ts'.length := by rw [hlen]; exact get_lt q1
          have hts : ts'[j]? = some ts'[j] := by simp [hj]
          rcases sp j t0 _ q1 hts with ⟨z1, z2⟩ | ⟨z1, L', z2⟩
          · exfalso
            obtain ⟨v1, e1', w1, w2, w3⟩ := a.r.get q1
            rw [q3] at w2; cases w2
            cases t0 with
            | im w => rw [w3.1] at q4; simp [adr, D.z] at q4
            | _ => cases z1
          · rw [Nat.zero_add, h1] at z2
            cases z2
            exact ⟨_, _, b, hts, (ho j _ hts o3).2, h2, rfl⟩
        | false =>
          obtain ⟨x, hx⟩ := getP_of_adr h2
          obtain ⟨v0, o1, o2, o3, o4, o5, o6⟩ := s.own _ _ _ _ h1
          obtain ⟨u, e, out, r1, r2, r3, _⟩ := o2.lens hx
          have := r3 []
          rw [List.append_nil, h2] at this
          rw [adr_val r1 this.symm] at r1
          have nde : (fp e).Nodup := (List.nodup_append.mp (r2.nodup_iff.mp (s.nd j))).2.1
          have ine : ∀ q ∈ fp e, q ∈ fp (ds j) := fun q hq => r2.mem_iff.mpr (List.mem_append_right _ hq)
          have fin : ∀ q ∈ fp e, ¬ g'.Z q ∧ ¬ g'.P q ∧ q ∉ fps es' := fun q hq => ⟨(s.no j q (ine q hq)).1, (s.no j q (ine q hq)).2, hn j (fun L' t' z => by rw [h1] at z; cases z) q (ine q hq)⟩
          simp only [hx] at e2
          cases x with
          | im w => cases e2; exact r1.2
          | _ => cases e2; exact ⟨e, r1, rfl, nde, fin⟩
    · exact h.elim
  · exact h.elim
theorem fn_ok {P : Program} {w : World} {K : PySem.W.Frag} {mg : Str → Option Value} {base : Heap} {x qual : Str} {params : Arguments} {body : List Stmt} {scope : Scope} {dvs : List V} {kws : List (Str × V)} {f : Addr} {fd : FuncData} {N ps : List Str} {k : Nat} {m : S3} (F : FunD K x qual params body scope dvs kws f fd) (S : FnScope N ps scope) (hps : ps.length ≤ N.length)
    (h : ∀ (cdv : Value) (A : Around) (outer : List PySem.Env) (s : Shared) (H : Hp) (E : XK), Room k (A.deeper (envOfC qual scope s.heap.objs.size f cdv)) →
      SSs G (cxOf (L2.CX P w) P w K mg base N qual scope f cdv A outer s H E) (fun cls d _ H => E cls d H) body m) :
    FnOk P w K mg base (L2.CX P w) (k + 1) f fd ps (spOf G ps.length (bodyF N.length m)) := by
  refine F.ok S (fun vs H Q E q => q.1) fun cdv A outer s H vs Q E hr hsp => ⟨_, h cdv A outer s H E hr, ?_⟩
  obtain ⟨hl, g, ts, es, ok, a, q⟩ := hsp
  have hts : ts.length ≤ N.length := by rw [← a.r.len.1, hl]; exact hps
  refine ⟨ghF g ts es, _, _, sim_start ok a hts, ?_⟩
  unfold bodyF at q
  cases e1 : m (startE N.length ts) with
  | nx e =>
    rw [e1] at q
    exact fun g' σ' H' k' s' => fin_sat ok.lk a k' (s'.im (w := .non) (v := .non) rfl) q
  | rt v e => rw [e1] at q; exact fun g' σ' v' H' k' s' => fin_sat ok.lk a k' s' q
  | ex c e =>
    rw [e1] at q
    rintro g' σ' H' k' ⟨ds', s'⟩
    simp only at q
    split at q
    · rename_i ts' e2
      obtain ⟨es', a', hm, _⟩ := end_args a k' s' e2
      exact q ⟨g'.Z, g'.P, g.rt, g.lk, g.xa⟩ H' es' ⟨k'.z, k'.p, k'.q, k'.tups, k'.frzs, rfl, rfl, rfl, fun i q hq => by rw [ok.lk] at hq; cases hq⟩ ⟨ok.lk, s'.zt, s'.pt⟩ a' hm
    · exact q.elim
  | bk e => rw [e1] at q; exact q.elim
  | ct e => rw [e1] at q; exact q.elim
  | stuck => rw [e1] at q; exact q.elim
end
end VL
namespace VL
open PySem L2 PyProof.Rows
def slotE : EV → Option Nat
  | .ptr k _ => some k
  | _ => none
def disjE : List EV → Bool
  | [] => true
  | .ptr k _ :: r => r.all (fun x => !decide (slotE x = some k)) && disjE r
  | _ :: r => disjE r
def rds (env : Env3) : List EV → Option (List T)
  | [] => some []
  | e :: r => (rd env e).bind fun t => (rds env r).map (t :: ·)
def putL : List EV → List T → Env3 → Option Env3
  | [], _, env => some env
  | .ptr k ρ :: r, t :: ts, env => (wrS false k ρ t env).bind (putL r ts)
  | _ :: r, _ :: ts, env => putL r ts env
  | _ :: _, [], _ => none
def outE (evs : List EV) (ts' : List T) : EV → Option EV
  | .im w => some (.im w)
  | .tmp t => some (.tmp t)
  | .ptr j π => match evs[j]? with
    | some (.ptr k ρ) => some (.ptr k (ρ ++ π))
    | some (.tmp _) => (match (ts'[j]?).bind fun t => t.getP π with
      | some (.im w) => some (.im w)
      | some x => some (.tmp x)
      | none => none)
    | _ => none
def callF (f : Fn) (evs : List EV) (env : Env3) : Out EV := match rds env evs with
  | none => .stuck
  | some ts => if disjE evs = true then (match f ts with
    | .ok ev ts' => (match putL evs ts' env with
      | some env' => (match outE evs ts' ev with
        | some ev' => .ok ev' env'
        | none => .stuck)
      | none => .stuck)
    | .exc c ts' => (match putL evs ts' env with
      | some env' => .exc c env'
      | none => .stuck)
    | .stuck => .stuck) else .stuck
section
variable {G : Gm} {X : Cx} {Wx : WX} {g g' : Gh} {env env' : Env3} {σ : L2.St} {H H' : Hp} {ds : Nat → D}
theorem disjE_ne : ∀ {evs : List EV}, disjE evs = true → ∀ {i j : Nat} {k : Nat} {π ρ : Path}, evs[i]? = some (.ptr k π) → evs[j]? = some (.ptr k ρ) → i = j
  | [], _, i, j, k, π, ρ, h, _ => by simp at h
  | e :: r, hd, i, j, k, π, ρ, h, h' => by
    have hr : disjE r = true := by
      cases e with
      | ptr k' π' => exact (Bool.and_eq_true_iff.mp (show (_ && _) = true from hd)).2
      | _ => exact hd
    have hh : ∀ {m : Nat} {k' : Nat} {π' ρ' : Path}, e = .ptr k' π' → r[m]? = some (.ptr k' ρ') → False := fun {m k' π' ρ'} he hm => by
      subst he
      have := List.all_eq_true.mp (Bool.and_eq_true_iff.mp (show (_ && _) = true from hd)).1 _ (List.mem_of_getElem? hm)
      simp [slotE] at this
    cases i with
    | zero =>
      rw [List.getElem?_cons_zero] at h; cases h
      cases j with
      | zero => rfl
      | succ j => rw [List.getElem?_cons_succ] at h'; exact (hh rfl h').elim
    | succ i =>
      rw [List.getElem?_cons_succ] at h
      cases j with
      | zero => rw [List.getElem?_cons_zero] at h'; cases h'; exact (hh rfl h).elim
      | succ j => rw [List.getElem?_cons_succ] at h'; rw [disjE_ne hr h h']
theorem wrS_some {kp : Bool} {k : Nat} {ρ : Path} {y : T} (h : wrS kp k ρ y env = some env') : ∃ p L t t', env[k]? = some (some (SV.own p L t)) ∧ lockOk L ρ = true ∧ t.setP ρ y = some t' ∧ env' = wrE kp k ρ p L t' env := by
  unfold wrS at h
  split at h
  · rename_i p L t e
    split at h
    · rename_i hl
      obtain ⟨t', h1, h2⟩ := Option.map_eq_some_iff.mp h
      exact ⟨p, L, t, t', e, hl, h1, h2.symm⟩
    · cases h
  · cases h
structure PutL (evs : List EV) (ts : List T) (env env' : Env3) : Prop where
  len : env'.length = env.length
  at' : ∀ (j k : Nat) ρ y, evs[j]? = some (.ptr k ρ) → ts[j]? = some y → ∃ p L t t', env[k]? = some (some (SV.own p L t)) ∧ lockOk L ρ = true ∧ t.setP ρ y = some t' ∧ env'[k]? = some (some (SV.own p L t'))
  ne : ∀ i : Nat, (∀ (j : Nat) ρ, evs[j]? ≠ some (.ptr i ρ)) → env'[i]? = env[i]? ∨ ∃ k π, env[i]? = some (some (SV.ptr k π)) ∧ env'[i]? = some none
  pt : ∀ (i k : Nat) π, env'[i]? = some (some (SV.ptr k π)) → env[i]? = some (some (SV.ptr k π)) ∧ ∀ (j : Nat) ρ, evs[j]? = some (.ptr k ρ) → π <+: ρ
  ln : evs.length ≤ ts.length
theorem putL_spec : ∀ {evs : List EV} {ts : List T} {env env' : Env3}, disjE evs = true → putL evs ts env = some env' → PutL evs ts env env'
  | [], ts, env, env', _, h => by
    cases h
    exact ⟨rfl, fun j k ρ y h => by simp at h, fun _ _ => .inl rfl, fun i k π h => ⟨h, fun j ρ z => by simp at z⟩, Nat.zero_le _⟩
  | e :: r, ts, env, env', hd, h => by
    have hr : disjE r = true := by
      cases e with
      | ptr k' π' => exact (Bool.and_eq_true_iff.mp (show (_ && _) = true from hd)).2
      | _ => exact hd
    have shift : ∀ t ts', ts = t :: ts' → (∀ k π, e ≠ .ptr k π) → PutL r ts' env env' → PutL (e :: r) ts env env' := fun t ts' et hne P => by
      subst et
      have he : ∀ (j k : Nat) ρ, (e :: r)[j]? = some (EV.ptr k ρ) → ∃ m, j = m + 1 ∧ r[m]? = some (.ptr k ρ) := fun j k ρ hj => by
        cases j with
        | zero => rw [List.getElem?_cons_zero] at hj; cases hj; exact absurd rfl (hne _ _)
        | succ m => exact ⟨m, rfl, by simpa using hj⟩
      refine ⟨P.len, fun j k ρ y hj hy => ?_, fun i hi => P.ne i fun j ρ z => hi (j + 1) ρ (by simpa using z), fun i k π hi => ⟨(P.pt i k π hi).1, fun j ρ hj => ?_⟩, by simpa using P.ln⟩
      · obtain ⟨m, rfl, hm⟩ := he j k ρ hj
        exact P.at' m k ρ y hm (by simpa using hy)
      · obtain ⟨m, rfl, hm⟩ := he j k ρ hj
        exact (P.pt i k π hi).2 m ρ hm
    cases ts with
    | nil => cases e <;> cases h
    | cons t ts' =>
      cases e with
      | im w => exact shift t ts' rfl (fun _ _ z => by cases z) (putL_spec hr h)
      | tmp u => exact shift t ts' rfl (fun _ _ z => by cases z) (putL_spec hr h)
      | ptr k ρ =>
        obtain ⟨env1, h1, h2⟩ := Option.bind_eq_some_iff.mp (show (wrS false k ρ t env).bind (putL r ts') = some env' from h)
        obtain ⟨p, L, t0, t1, w1, w2, w3, rfl⟩ := wrS_some h1
        have P := putL_spec hr h2
        have hk := get_lt w1
        have nok : ∀ (m : Nat) ρ', r[m]? ≠ some (.ptr k ρ') := fun m ρ' z => by
          have := disjE_ne hd (i := 0) (j := m + 1) (π := ρ) (ρ := ρ') rfl (by simpa using z)
          omega
        have other : ∀ i x, i ≠ k → (wrE false k ρ p L t1 env)[i]? = some (some x) → env[i]? = some (some x) := fun i x hi z => by
          rcases wrE_get_ne (kp := false) (ρ := ρ) (p := p) (L := L) (t' := t1) hi with q | ⟨j, π, _, q⟩
          · rw [← q]; exact z
          · rw [z] at q; cases q
        refine ⟨P.len.trans wrE_len, fun j k' ρ' y hj hy => ?_, fun i hi => ?_, fun i k' π hi => ?_, by simpa using P.ln⟩
        · cases j with
          | zero =>
            rw [List.getElem?_cons_zero] at hj hy
            cases hj; cases hy
            refine ⟨p, L, t0, t1, w1, w2, w3, ?_⟩
            rcases P.ne _ nok with z | ⟨j, π, z, _⟩
            · rw [z]; exact wrE_self hk
            · rw [wrE_self hk] at z; cases z
          | succ m =>
            rw [List.getElem?_cons_succ] at hj hy
            obtain ⟨p', L', t', t2, q1, q2, q3, q4⟩ := P.at' m k' ρ' y hj hy
            have hne : k' ≠ k := fun z => by subst z; exact nok m ρ' hj
            exact ⟨p', L', t', t2, other k' _ hne q1, q2, q3, q4⟩
        · have hik : i ≠ k := fun z => by subst z; exact hi 0 ρ rfl
          rcases P.ne i fun j ρ' z => hi (j + 1) ρ' (by simpa using z) with z | ⟨j, π, z1, z2⟩
          · rcases wrE_get_ne (kp := false) (ρ := ρ) (p := p) (L := L) (t' := t1) hik with q | ⟨j, π, q1, q2⟩
            · exact .inl (z.trans q)
            · exact .inr ⟨j, π, q1, z.trans q2⟩
          · exact .inr ⟨j, π, other i _ hik z1, z2⟩
        · obtain ⟨q1, q2⟩ := P.pt i k' π hi
          obtain ⟨q3, q4⟩ := wrE_ptr hk q1
          refine ⟨q3, fun j ρ' hj => ?_⟩
          cases j with
          | zero => rw [List.getElem?_cons_zero] at hj; cases hj; exact q4 rfl rfl
          | succ m => exact q2 m ρ' (by simpa using hj)
def ArgP (G : Gm) (g : Gh) (env : Env3) (σ : L2.St) (H : Hp) (ds : Nat → D) : EV → V → T → D → Prop
  | .im w, v, x, e => x = .im w ∧ e = .z ∧ Rep G g.Z H w v
  | .tmp t, v, x, e => x = t ∧ RepT G g.Z H t v e ∧ t.mut = true ∧ (fp e).Nodup ∧ ∀ p ∈ fp e, ¬ g.Z p ∧ ¬ g.P p ∧ ∀ i, p ∉ fp (ds i)
  | .ptr k ρ, v, x, e => ∃ p L t vk out, env[k]? = some (some (SV.own p L t)) ∧ σ[k]? = some (some vk) ∧ t.mut = true ∧ RepT G g.Z H t vk (ds k) ∧ t.getP ρ = some x ∧ RepT G g.Z H x v e ∧ x.mut = true ∧ (fp (ds k)).Perm (out ++ fp e) ∧ (∀ π', adr t (ds k) (ρ ++ π') = adr x e π') ∧ (∀ ρ' b, ¬ ρ <+: ρ' → adr t (ds k) ρ' = some b → b ∉ fp e) ∧
      ∀ Z' H' (k' : KeepZ g.Z H Z' H') (st : ∀ p ∈ out, H' p = H p) (y : T) (e' : D), RepT G Z' H' y v e' → ∃ t' d', t.setP ρ y = some t' ∧ RepT G Z' H' t' vk d' ∧ (fp d').Perm (out ++ fp e') ∧
        (∀ π', adr t' d' (ρ ++ π') = adr y e' π') ∧ ∀ π, ¬ ρ <+: π → adr t' d' π = adr t (ds k) π
theorem mut_adr {Z : Addr → Prop} {x : T} {v : V} {e : D} {a : Addr} (r : RepT G Z H x v e) (h : adr x e [] = some a) : x.mut = true := by
  cases x with
  | im w => rw [r.1] at h; simp [adr, D.z] at h
  | _ => rfl
theorem argP_of (s : Sim G g env σ H ds) {ev : EV} {v : V} {d : D} {x : T} (r : EvR G g env H ds ev v d) (h : rd env ev = some x) : ∃ e, ArgP G g env σ H ds ev v x e ∧ (∀ p ∈ fp e, p ∈ fp d ∨ ∃ k π, ev = .ptr k π ∧ p ∈ fp (ds k)) ∧ (fp e).Nodup := by
  cases ev with
  | im w => cases h; exact ⟨.z, ⟨rfl, rfl, r.2⟩, fun p h => (by rw [fp_z] at h; cases h), by rw [fp_z]; exact List.nodup_nil⟩
  | tmp t => cases h; exact ⟨d, ⟨rfl, r.1, r.2.1, r.2.2.1, r.2.2.2⟩, fun p h => .inl h, r.2.2.1⟩
  | ptr k π =>
    obtain ⟨_, a, p, L, t, rfl, h1, h2⟩ := r
    have hx : t.getP π = some x := by simpa only [rd, h1] using h
    obtain ⟨vk, o1, o2, o3, _⟩ := s.own _ _ _ _ h1
    obtain ⟨u, e, out, r1, r2, r3, r0, r4⟩ := o2.lens hx
    have ha := r3 []
    rw [List.append_nil, h2] at ha
    have hu := adr_val r1 ha.symm
    subst hu
    exact ⟨e, ⟨p, L, t, vk, out, h1, o1, o3, o2, hx, r1, mut_adr r1 ha.symm, r2, r3, r0 (s.nd k), r4⟩, fun q hq => .inr ⟨k, π, rfl, r2.mem_iff.mpr (List.mem_append_right _ hq)⟩, (List.nodup_append.mp (r2.nodup_iff.mp (s.nd k))).2.1⟩
theorem rds_get : ∀ {evs : List EV} {ts : List T}, rds env evs = some ts → ts.length = evs.length ∧ ∀ (j : Nat) ev, evs[j]? = some ev → ∃ t, ts[j]? = some t ∧ rd env ev = some t
  | [], ts, h => by cases h; exact ⟨rfl, fun j ev h => by simp at h⟩
  | e :: r, ts, h => by
    obtain ⟨t, h1, h2⟩ := Option.bind_eq_some_iff.mp (show (rd env e).bind (fun t => (rds env r).map (t :: ·)) = some ts from h)
    obtain ⟨ts', h3, rfl⟩ := Option.map_eq_some_iff.mp h2
    obtain ⟨q1, q2⟩ := rds_get h3
    refine ⟨by simp [q1], fun j ev hj => ?_⟩
    cases j with
    | zero => rw [List.getElem?_cons_zero] at hj; cases hj; exact ⟨t, rfl, h1⟩
    | succ j => rw [List.getElem?_cons_succ] at hj; simpa using q2 j ev hj
theorem EvL.get : ∀ {evs : List EV} {vs : List V} {es : List D}, EvL G g env H ds evs vs es → ∀ {j : Nat} {ev : EV}, evs[j]? = some ev → ∃ v d, vs[j]? = some v ∧ es[j]? = some d ∧ EvR G g env H ds ev v d
  | e :: r, vs, es, ⟨v, vr, d, dr, e1, e2, a, b, c⟩, j, ev, h => by
    subst e1 e2
    cases j with
    | zero => rw [List.getElem?_cons_zero] at h; cases h; exact ⟨v, d, rfl, rfl, a⟩
    | succ j => rw [List.getElem?_cons_succ] at h; simpa using b.get h
theorem EvL.nd : ∀ {evs : List EV} {vs : List V} {es : List D}, EvL G g env H ds evs vs es → (fps es).Nodup
  | [], _, _, h => by rw [h.2]; exact List.nodup_nil
  | e :: r, vs, es, ⟨v, vr, d, dr, e1, e2, a, b, c⟩ => by
    subst e2
    simp only [fps]
    refine List.nodup_append.mpr ⟨?_, b.nd, fun p hp q hq e => by subst e; exact c p hp hq⟩
    cases e with
    | im w => rw [a.1, fp_z]; exact List.nodup_nil
    | tmp t => exact a.2.2.1
    | ptr k π => rw [a.1, fp_z]; exact List.nodup_nil
theorem choiceL {α : Type} {n : Nat} {P : Nat → α → Prop} (h : ∀ i, i < n → ∃ a, P i a) : ∃ l : List α, l.length = n ∧ ∀ (i : Nat) a, l[i]? = some a → P i a := by
  induction n with
  | zero => exact ⟨[], rfl, fun i a h => by simp at h⟩
  | succ n ih =>
    obtain ⟨l, h1, h2⟩ := ih fun i hi => h i (by omega)
    obtain ⟨a, ha⟩ := h n (by omega)
    refine ⟨l ++ [a], by simp [h1], fun i b hb => ?_⟩
    by_cases hi : i < n
    · rw [List.getElem?_append_left (by omega)] at hb; exact h2 i b hb
    · have := get_lt hb
      simp [h1] at this
      have hin : i = n := by omega
      subst hin
      rw [List.getElem?_append_right (by omega), h1, Nat.sub_self] at hb
      cases hb; exact ha
theorem call_run2 {f : Fn} {evs : List EV} {vs : List V} {Q : VK} {E : XK} (s : SimA G g env σ H evs vs) (h : match callF f evs env with
    | .ok ev env' => ∀ g' v H', Keep g H g' H' → SimE G g' env' σ H' ev v → Q v H'
    | .exc c env' => ∀ g' H', Keep g H g' H' → SimN G g' env' σ H' → E (.ref (G.cA c)) none H'
    | .stuck => False) : ∃ g ts es, rds env evs = some ts ∧ GhOk G g H ∧ ArgR G g H ts vs es ∧ SatF G g H vs ts Q E (f ts) := by
  obtain ⟨ds, es0, s, l⟩ := s
  unfold callF at h
  cases hr : rds env evs with
  | none => rw [hr] at h; exact h.elim
  | some ts =>
    simp only [hr] at h
    by_cases hd : disjE evs = true
    · rw [if_pos hd] at h
      obtain ⟨tl, tg⟩ := rds_get hr
      have vl := l.n
      -- the arguments' own parts
      obtain ⟨es, el, ep⟩ := choiceL (n := evs.length) (P := fun i e => ∀ ev v x d, evs[i]? = some ev → vs[i]? = some v → ts[i]? = some x → es0[i]? = some d → ArgP G g env σ H ds ev v x e ∧ (∀ p ∈ fp e, p ∈ fp d ∨ ∃ k π, ev = .ptr k π ∧ p ∈ fp (ds k)) ∧ (fp e).Nodup) fun i hi => by
        have he : evs[i]? = some evs[i] := by simp [hi]
        obtain ⟨t, h1, h2⟩ := tg i _ he
        obtain ⟨v, d, h3, h4, h5⟩ := l.get he
        obtain ⟨e, q⟩ := argP_of s h5 h2
        exact ⟨e, fun ev' v' x' d' a b c dd => by rw [he] at a; rw [h3] at b; rw [h1] at c; rw [h4] at dd; cases a; cases b; cases c; cases dd; exact q⟩
      have at' : ∀ (i : Nat) e, es[i]? = some e → ∃ ev v x d, evs[i]? = some ev ∧ vs[i]? = some v ∧ ts[i]? = some x ∧ es0[i]? = some d ∧ EvR G g env H ds ev v d ∧ ArgP G g env σ H ds ev v x e ∧ (∀ p ∈ fp e, p ∈ fp d ∨ ∃ k π, ev = .ptr k π ∧ p ∈ fp (ds k)) ∧ (fp e).Nodup := fun i e hi => by
        have hl : i < evs.length := by rw [← el]; exact get_lt hi
        have he : evs[i]? = some evs[i] := by simp [hl]
        obtain ⟨t, h1, h2⟩ := tg i _ he
        obtain ⟨v, d, h3, h4, h5⟩ := l.get he
        exact ⟨_, v, t, d, he, h3, h1, h4, h5, ep i e hi _ v t d he h3 h1 h4⟩
      have rep : ∀ ev v x e, ArgP G g env σ H ds ev v x e → RepT G g.Z H x v e := fun ev v x e a => by
        cases ev with
        | im w => obtain ⟨rfl, rfl, r⟩ := a; exact ⟨rfl, r⟩
        | tmp t => obtain ⟨rfl, r, _⟩ := a; exact r
        | ptr k ρ => obtain ⟨p, L, t, vk, out, _, _, _, _, _, r, _⟩ := a; exact r
      have nds := l.nd
      have nop := l.noP
      have inds : ∀ (i : Nat) e p, es[i]? = some e → p ∈ fp e → (p ∈ fps es0 ∧ ∃ d, es0[i]? = some d ∧ p ∈ fp d) ∨ ∃ k π, evs[i]? = some (.ptr k π) ∧ p ∈ fp (ds k) := fun i e p hi hp => by
        obtain ⟨ev, v, x, d, h1, h2, h3, h4, h5, h6, h7, h8⟩ := at' i e hi
        rcases h7 p hp with z | ⟨k, π, rfl, z⟩
        · exact .inl ⟨mem_fps (List.mem_of_getElem? h4) z, d, h4, z⟩
        · exact .inr ⟨k, π, h1, z⟩
      have disj : ∀ (i j : Nat) d e p, es[i]? = some d → es[j]? = some e → p ∈ fp d → p ∈ fp e → i = j := fun i j d e p hi hj hp hq => by
        rcases inds i d p hi hp with ⟨z1, d1, z2, z3⟩ | ⟨k, π, z1, z2⟩
        · rcases inds j e p hj hq with ⟨y1, d2, y2, y3⟩ | ⟨k', π', y1, y2⟩
          · refine Classical.byContradiction fun ne => fps_split ne nds z2 y2 z3 y3
          · exact absurd y2 ((nop p z1).2.2.1 k')
        · rcases inds j e p hj hq with ⟨y1, d2, y2, y3⟩ | ⟨k', π', y1, y2⟩
          · exact absurd z2 ((nop p y1).2.2.1 k)
          · have := s.dj k k' p z2 y2
            subst this
            exact disjE_ne hd z1 y1
      have nop' : ∀ p ∈ fps es, ¬ g.Z p ∧ ¬ g.P p ∧ ∃ o, H p = some o := fun p hp => by
        obtain ⟨i, e, h1, h2⟩ := mem_fps_get hp
        rcases inds i e p h1 h2 with ⟨z1, _⟩ | ⟨k, π, z1, z2⟩
        · obtain ⟨a1, a2, a3, o, a4, _⟩ := nop p z1; exact ⟨a2, a1, o, a4⟩
        · obtain ⟨o, a4, _⟩ := s.there z2; exact ⟨(s.no k p z2).1, (s.no k p z2).2, o, a4⟩
      -- the callee's ghosts
      let g1 : Gh := ⟨g.Z, fun p => g.P p ∨ ((∃ i, p ∈ fp (ds i)) ∧ p ∉ fps es), g.rt, fun _ => [], g.xa⟩
      have ar : ArgR G g1 H ts vs es := by
        refine ⟨repTL_of (g := g) (by rw [← vl, tl]) (by rw [el, tl]) fun i t v e a b c => ?_, fps_nodup_of (fun i e hi => ?_) disj, fun p hp => ⟨(nop' p hp).1, fun z => z.elim (nop' p hp).2.1 fun z => z.2 hp⟩⟩
        · obtain ⟨ev, v', x, d, h1, h2, h3, h4, h5, h6, h7, h8⟩ := at' i e c
          rw [b] at h2; rw [a] at h3; cases h2; cases h3
          exact rep _ _ _ _ h6
        · obtain ⟨ev, v', x, d, h1, h2, h3, h4, h5, h6, h7, h8⟩ := at' i e hi
          exact h8
      have ok1 : GhOk G g1 H := by
        refine ⟨rfl, fun p z => ⟨fun y => y.elim (s.zt p z).1 fun y => ?_, (s.zt p z).2⟩, fun p z => z.elim (s.pt.1 p) fun z => ?_, s.pt.2⟩
        · obtain ⟨⟨i, y⟩, _⟩ := y; exact (s.no i p y).1 z
        · obtain ⟨⟨i, z⟩, _⟩ := z; obtain ⟨o, z, m⟩ := s.there z; exact Ob.mut z m
      refine ⟨g1, ts, es, rfl, ok1, ar, ?_⟩
      -- behind the call: the slots' trees are put back
      have back : ∀ (g2 : Gh) H2 es2 ts2 env2, Keep g1 H g2 H2 → GhOk G g2 H2 → ArgR G g2 H2 ts2 vs es2 → ts2.map T.mut = ts.map T.mut → putL evs ts2 env = some env2 → ∃ ds2, Sim G ⟨g2.Z, g.P, g.rt, g.lk, g.xa⟩ env2 σ H2 ds2 ∧ Keep g H ⟨g2.Z, g.P, g.rt, g.lk, g.xa⟩ H2 ∧
          (∀ (j k : Nat) ρ y e2, evs[j]? = some (.ptr k ρ) → ts2[j]? = some y → es2[j]? = some e2 → (∃ p L t2, env2[k]? = some (some (SV.own p L t2)) ∧ ∀ π', adr t2 (ds2 k) (ρ ++ π') = adr y e2 π')) ∧
          (∀ i p, p ∈ fp (ds2 i) → (∃ (j k : Nat) (ρ : Path) (e2 : D), evs[j]? = some (.ptr k ρ) ∧ es2[j]? = some e2 ∧ p ∈ fp e2) ∨ g2.P p) := fun g2 H2 es2 ts2 env2 k2 ok2 ar2 hm hput => by
        have P := putL_spec hd hput
        have l2 := ar2.r.len
        have kP : ∀ i p, p ∈ fp (ds i) → p ∉ fps es → H2 p = H p ∧ g2.P p := fun i p hi hp => by
          obtain ⟨a, b⟩ := k2.p p (.inr ⟨⟨i, hi⟩, hp⟩)
          exact ⟨b, a⟩
        have lkd : ∀ i q, q ∈ g.lk i → H2 q.2 = H q.2 := fun i q hq => by
          by_cases e : ∃ p L t, env[i]? = some (some (SV.own p L t))
          · obtain ⟨p, L, t, e⟩ := e
            obtain ⟨v, o1, o2, o3, o4, o5, o6⟩ := s.own _ _ _ _ e
            rcases o2.adr_in (o6 q hq) with z | ⟨xs, z⟩
            · by_cases hin : q.2 ∈ fps es
              · exfalso
                obtain ⟨j, ej, h1, h2⟩ := mem_fps_get hin
                obtain ⟨ev, v', x, d, a1, a2, a3, a4, a5, a6, a7, a8⟩ := at' j ej h1
                rcases a7 q.2 h2 with y | ⟨k, π, rfl, y⟩
                · exact (nop q.2 (mem_fps (List.mem_of_getElem? a4) y)).2.2.1 i z
                · have := s.dj k i q.2 y z
                  subst this
                  obtain ⟨p', L', t', vk, out, b1, b2, b3, b4, b5, b6, b7, b8, b9, b10, b11⟩ := a6
                  rw [e] at b1; cases b1
                  have hj : j < ts2.length := by
                    have := P.ln
                    have hjj := get_lt a1
                    omega
                  obtain ⟨p'', L'', t'', t3, c1, c2, c3, c4⟩ := P.at' j k π _ a1 (List.getElem?_eq_getElem hj)
                  rw [e] at c1; cases c1
                  exact b10 q.1 q.2 (lockOk_get c2 (π := q.1) (by rw [o5]; exact List.mem_map.mpr ⟨q, hq, rfl⟩)) (o6 q hq) h2
              · exact (kP i q.2 z hin).1
            · have := k2.tups _ _ z
              rw [this, z]
          · have := (s.non i fun q L t z => e ⟨q, L, t, z⟩).2
            rw [this] at hq; cases hq
        have kk : Keep g H ⟨g2.Z, g.P, g.rt, g.lk, g.xa⟩ H2 := ⟨k2.z, fun p z => ⟨z, (k2.p p (.inl z)).2⟩, fun _ z => z, k2.tups, k2.frzs, rfl, rfl, rfl, lkd⟩
        -- each slot's new tree
        have each : ∀ i : Nat, ∃ r : Option (T × D), match r with
            | none => ∀ (j : Nat) ρ, evs[j]? ≠ some (.ptr i ρ)
            | some (t', d') => ∃ j : Nat, ∃ ρ y e2 ej p L t vk out x v, evs[j]? = some (.ptr i ρ) ∧ ts2[j]? = some y ∧ es2[j]? = some e2 ∧ es[j]? = some ej ∧ env[i]? = some (some (SV.own p L t)) ∧ σ[i]? = some (some vk) ∧ lockOk L ρ = true ∧ env2[i]? = some (some (SV.own p L t')) ∧
                RepT G g2.Z H2 t' vk d' ∧ t'.mut = true ∧ (fp d').Perm (out ++ fp e2) ∧ (fp (ds i)).Perm (out ++ fp ej) ∧ (∀ π', adr t' d' (ρ ++ π') = adr y e2 π') ∧ (∀ π', adr t (ds i) (ρ ++ π') = adr x ej π') ∧ (∀ π, ¬ ρ <+: π → adr t' d' π = adr t (ds i) π) ∧ adr x ej [] = adr y e2 [] := fun i => by
          by_cases hex : ∃ (j : Nat) (ρ : Path), evs[j]? = some (EV.ptr i ρ)
          · obtain ⟨j, ρ, hj⟩ := hex
            have hjl := get_lt hj
            have he : es[j]? = some (es[j]'(by rw [el]; exact hjl)) := by rw [List.getElem?_eq_getElem]
            obtain ⟨ev, v', x, d, a1, a2, a3, a4, a5, a6, a7, a8⟩ := at' j _ he
            rw [hj] at a1; cases a1
            obtain ⟨p', L', t', vk, out, b1, b2, b3, b4, b5, b6, b7, b8, b9, b10, b11⟩ := a6
            have hj2 : j < ts2.length := by have := P.ln; omega
            have hy : ts2[j]? = some ts2[j] := by simp [hj2]
            obtain ⟨v2, e2, w1, w2, w3⟩ := ar2.r.get hy
            rw [a2] at w1; cases w1
            obtain ⟨p'', L'', t'', t3, c1, c2, c3, c4⟩ := P.at' j i ρ _ hj hy
            rw [b1] at c1; cases c1
            have outs : ∀ p ∈ out, p ∈ fp (ds i) ∧ p ∉ fps es := fun p hp => by
              have h1 : p ∈ fp (ds i) := b8.mem_iff.mpr (List.mem_append_left _ hp)
              refine ⟨h1, fun hq => ?_⟩
              obtain ⟨j', ej', q1, q2⟩ := mem_fps_get hq
              rcases inds j' ej' p q1 q2 with ⟨z1, _⟩ | ⟨k, π, z1, z2⟩
              · exact (nop p z1).2.2.1 i h1
              · have := s.dj i k p h1 z2
                subst this
                have := disjE_ne hd hj z1
                subst this
                rw [he] at q1; cases q1
                have nde := b8.nodup_iff.mp (s.nd i)
                exact (List.nodup_append.mp nde).2.2 p hp p q2 rfl
            obtain ⟨t4, d4, f1, f2, f3, f4, f5⟩ := b11 g2.Z H2 k2.kz (fun p hp => (kP i p (outs p hp).1 (outs p hp).2).1) _ _ w3
            rw [c3] at f1; cases f1
            have ym : (ts2[j]).mut = true := by
              have h1 : (ts2.map T.mut)[j]? = some (ts2[j]).mut := by rw [List.getElem?_map, hy]; rfl
              rw [hm, List.getElem?_map, a3] at h1
              have h2 : x.mut = (ts2[j]).mut := Option.some.inj h1
              rw [← h2]; exact b7
            have root : adr x (es[j]'(by rw [el]; exact hjl)) [] = adr ts2[j] e2 [] := by
              obtain ⟨r1, r2, r3⟩ := adr_root b6 b7
              obtain ⟨r4, r5, r6⟩ := adr_root w3 ym
              rw [r3] at r6; cases r6
              rw [r2, r5]
            have t3m : t3.mut = true := by
              obtain ⟨a, q1, q2⟩ := adr_root b4 b3
              exact mut_adr f2 (adr_pre (π := []) (b9 []) (f4 []) root f5 List.nil_prefix q1)
            exact ⟨some (t3, d4), j, ρ, ts2[j], e2, _, p', L', t', vk, out, x, v', hj, hy, w2, he, b1, b2, c2, c4, f2, t3m, f3, b8, f4, b9, f5, root⟩
          · exact ⟨none, fun j ρ z => hex ⟨j, ρ, z⟩⟩
        obtain ⟨U, hU⟩ := Classical.axiomOfChoice each
        have hsome : ∀ i t' d', U i = some (t', d') → ∃ j : Nat, ∃ ρ y e2 ej p L t vk out x v, evs[j]? = some (.ptr i ρ) ∧ ts2[j]? = some y ∧ es2[j]? = some e2 ∧ es[j]? = some ej ∧ env[i]? = some (some (SV.own p L t)) ∧ σ[i]? = some (some vk) ∧ lockOk L ρ = true ∧ env2[i]? = some (some (SV.own p L t')) ∧
                RepT G g2.Z H2 t' vk d' ∧ t'.mut = true ∧ (fp d').Perm (out ++ fp e2) ∧ (fp (ds i)).Perm (out ++ fp ej) ∧ (∀ π', adr t' d' (ρ ++ π') = adr y e2 π') ∧ (∀ π', adr t (ds i) (ρ ++ π') = adr x ej π') ∧ (∀ π, ¬ ρ <+: π → adr t' d' π = adr t (ds i) π) ∧ adr x ej [] = adr y e2 [] := fun i t' d' e => by
          have h := hU i
          rw [e] at h
          exact h
        have hnone : ∀ i, U i = none → ∀ (j : Nat) ρ, evs[j]? ≠ some (.ptr i ρ) := fun i e => by
          have h := hU i
          rw [e] at h
          exact h
        have nin : ∀ i, U i = none → ∀ p ∈ fp (ds i), p ∉ fps es := fun i e p hp hq => by
          obtain ⟨j', ej', q1, q2⟩ := mem_fps_get hq
          rcases inds j' ej' p q1 q2 with ⟨z1, _⟩ | ⟨k, π, z1, z2⟩
          · exact (nop p z1).2.2.1 i hp
          · have := s.dj i k p hp z2
            subst this
            exact hnone i e j' π z1
        have outP : ∀ i ej out (e2 : D) (t' : T) (d' : D) (j : Nat) ρ, evs[j]? = some (.ptr i ρ) → es[j]? = some ej → (fp (ds i)).Perm (out ++ fp ej) → ∀ p ∈ out, p ∈ fp (ds i) ∧ g2.P p ∧ H2 p = H p := fun i ej out e2 t' d' j ρ hj he hpm p hp => by
          have h1 : p ∈ fp (ds i) := hpm.mem_iff.mpr (List.mem_append_left _ hp)
          have h2 : p ∉ fps es := fun hq => by
            obtain ⟨j', ej', q1, q2⟩ := mem_fps_get hq
            rcases inds j' ej' p q1 q2 with ⟨z1, _⟩ | ⟨k, π, z1, z2⟩
            · exact (nop p z1).2.2.1 i h1
            · have := s.dj i k p h1 z2
              subst this
              have := disjE_ne hd hj z1
              subst this
              rw [he] at q1; cases q1
              have nde := hpm.nodup_iff.mp (s.nd i)
              exact (List.nodup_append.mp nde).2.2 p hp p q2 rfl
          exact ⟨h1, (kP i p h1 h2).2, (kP i p h1 h2).1⟩
        have gP2 : ∀ p, g.P p → g2.P p := fun p z => (k2.p p (.inl z)).1
        have S := s.upd (g' := ⟨g2.Z, g.P, g.rt, g.lk, g.xa⟩) (H' := H2) (env' := env2) kk U P.len
          (fun i t' d' e => by
            obtain ⟨j, ρ, y, e2, ej, p, L, t, vk, out, x, v, c1, c2, c3, c4, c5, c6, c7, c8, c9, c10, c11, c12, c13, c14, c15, c16⟩ := hsome i t' d' e
            refine ⟨p, L, t, vk, c5, c8, c6, c9, c10, fun q hq => ?_⟩
            obtain ⟨v', o1, o2, o3, o4, o5, o6⟩ := s.own _ _ _ _ c5
            rw [c15 q.1 (lockOk_get c7 (by rw [o5]; exact List.mem_map.mpr ⟨q, hq, rfl⟩))]
            exact o6 q hq)
          (fun i e => P.ne i (hnone i e))
          (fun i k π q t' d' e p2 L2 t2 q2 a q3 => by
            obtain ⟨j, ρ, y, e2, ej, p, L, t, vk, out, x, v, c1, c2, c3, c4, c5, c6, c7, c8, c9, c10, c11, c12, c13, c14, c15, c16⟩ := hsome k t' d' e
            rw [c5] at q2; cases q2
            exact adr_pre (c14 []) (c13 []) c16 c15 ((P.pt i k π q).2 j ρ c1) q3)
          (fun i e p hp => by
            obtain ⟨a, b⟩ := kP i p hp (nin i e p hp)
            exact ⟨a, fun z => (ok2.zt p z).1 b⟩)
          (fun i t' d' e => by
            obtain ⟨j, ρ, y, e2, ej, p, L, t, vk, out, x, v, c1, c2, c3, c4, c5, c6, c7, c8, c9, c10, c11, c12, c13, c14, c15, c16⟩ := hsome i t' d' e
            have oP := outP i ej out e2 t' d' j ρ c1 c4 c12
            have eno : ∀ p ∈ fp e2, ¬ g2.Z p ∧ ¬ g2.P p := fun p hp => ar2.no p (mem_fps (List.mem_of_getElem? c3) hp)
            have nde := c12.nodup_iff.mp (s.nd i)
            refine ⟨c11.nodup_iff.mpr (List.nodup_append.mpr ⟨(List.nodup_append.mp nde).1, fps_get ar2.nd c3, fun a ha b hb z => ?_⟩), fun p hp => ?_⟩
            · subst z; exact (eno a hb).2 (oP a ha).2.1
            · rcases List.mem_append.mp (c11.mem_iff.mp hp) with z | z
              · obtain ⟨z1, z2, z3⟩ := oP p z
                refine ⟨fun y => (ok2.zt p y).1 z2, (s.no i p z1).2, fun j' hj' _ w => hj' (s.dj j' i p w z1), fun j' t3 d3 hj' e3 w => ?_⟩
                obtain ⟨j2, ρ2, y2, e22, ej2, p2, L2, t2, vk2, out2, x2, v2, d1, d2, d3', d4, d5, d6, d7, d8, d9, d10, d11, d12, d13, d14, d15, d16⟩ := hsome j' t3 d3 e3
                rcases List.mem_append.mp (d11.mem_iff.mp w) with w | w
                · exact hj' (s.dj j' i p (d12.mem_iff.mpr (List.mem_append_left _ w)) z1)
                · exact (ar2.no p (mem_fps (List.mem_of_getElem? d3') w)).2 z2
              · refine ⟨(eno p z).1, fun y => (eno p z).2 (gP2 p y), fun j' hj' e3 w => ?_, fun j' t3 d3 hj' e3 w => ?_⟩
                · exact (eno p z).2 (kP j' p w (nin j' e3 p w)).2
                · obtain ⟨j2, ρ2, y2, e22, ej2, p2, L2, t2, vk2, out2, x2, v2, d1, d2, d3', d4, d5, d6, d7, d8, d9, d10, d11, d12, d13, d14, d15, d16⟩ := hsome j' t3 d3 e3
                  rcases List.mem_append.mp (d11.mem_iff.mp w) with w | w
                  · exact (eno p z).2 (outP j' ej2 out2 e22 t3 d3 j2 ρ2 d1 d4 d12 p w).2.1
                  · have hne : j ≠ j2 := fun q => by subst q; rw [c1] at d1; cases d1; exact hj' rfl
                    exact fps_split hne ar2.nd c3 d3' z w)
          (fun p z => ⟨fun y => (ok2.zt p z).1 (gP2 p y), (ok2.zt p z).2⟩)
          (fun p z => (s.pt.1 p z).eq (k2.p p (.inl z)).2)
        refine ⟨_, S, kk, fun j k ρ y e2 a1 a2 a3 => ?_, fun i p hp => ?_⟩
        · cases e : U k with
          | none => exact absurd a1 (hnone k e j ρ)
          | some q =>
            obtain ⟨j2, ρ2, y2, e22, ej2, p2, L2, t2, vk2, out2, x2, v2, d1, d2, d3', d4, d5, d6, d7, d8, d9, d10, d11, d12, d13, d14, d15, d16⟩ := hsome k q.1 q.2 e
            have := disjE_ne hd a1 d1
            subst this
            rw [a1] at d1; cases d1
            rw [a2] at d2; cases d2
            rw [a3] at d3'; cases d3'
            exact ⟨p2, L2, q.1, d8, fun π' => by simpa only [e] using d13 π'⟩
        · cases e : U i with
          | none =>
            simp only [e] at hp
            exact .inr (kP i p hp (nin i e p hp)).2
          | some q =>
            simp only [e] at hp
            obtain ⟨j2, ρ2, y2, e22, ej2, p2, L2, t2, vk2, out2, x2, v2, d1, d2, d3', d4, d5, d6, d7, d8, d9, d10, d11, d12, d13, d14, d15, d16⟩ := hsome i q.1 q.2 e
            rcases List.mem_append.mp (d11.mem_iff.mp hp) with w | w
            · exact .inr (outP i ej2 out2 e22 q.1 q.2 j2 ρ2 d1 d4 d12 p w).2.1
            · exact .inl ⟨j2, i, ρ2, e22, d1, d3', w⟩
      have gP2 : ∀ (g2 : Gh) H2, Keep g1 H g2 H2 → ∀ p, g.P p → g2.P p := fun g2 H2 k2 p z => (k2.p p (.inl z)).1
      cases hf : f ts with
      | stuck => rw [hf] at h; exact h.elim
      | exc c ts2 =>
        simp only [hf] at h
        intro g2 H2 es2 k2 ok2 ar2 hm
        cases hput : putL evs ts2 env with
        | none => simp only [hput] at h
        | some env2 =>
          simp only [hput] at h
          obtain ⟨ds2, S, kk, _⟩ := back g2 H2 es2 ts2 env2 k2 ok2 ar2 hm hput
          exact h _ H2 kk ⟨ds2, S⟩
      | ok ev ts2 =>
        simp only [hf] at h
        intro g2 v H2 es2 k2 ok2 ar2 hm fr
        cases hput : putL evs ts2 env with
        | none => simp only [hput] at h
        | some env2 =>
          simp only [hput] at h
          obtain ⟨ds2, S, kk, hptr, hfp⟩ := back g2 H2 es2 ts2 env2 k2 ok2 ar2 hm hput
          cases hout : outE evs ts2 ev with
          | none => simp only [hout] at h
          | some ev' =>
            simp only [hout] at h
            have noT : ∀ p, ¬ g2.Z p → ¬ g2.P p → (∀ (j k : Nat) ρ e2, evs[j]? = some (.ptr k ρ) → es2[j]? = some e2 → p ∉ fp e2) → ¬ g2.Z p ∧ ¬ g.P p ∧ ∀ i, p ∉ fp (ds2 i) := fun p z1 z2 z3 => ⟨z1, fun y => z2 (gP2 g2 H2 k2 p y), fun i y => by
              rcases hfp i p y with ⟨j, k, ρ, e2, w1, w2, w3⟩ | w
              · exact z3 j k ρ e2 w1 w2 w3
              · exact z2 w⟩
            refine h _ v H2 kk ?_
            cases ev with
            | im w => cases hout; exact ⟨ds2, .z, S, rfl, fr⟩
            | tmp t =>
              cases hout
              obtain ⟨d, r1, r2, r3, r4⟩ := fr
              exact ⟨ds2, d, S, r1, r2, r3, fun p hp => noT p (r4 p hp).1 (r4 p hp).2.1 fun j k ρ e2 w1 w2 w3 => (r4 p hp).2.2 (mem_fps (List.mem_of_getElem? w2) w3)⟩
            | ptr j π =>
              obtain ⟨t, e, a, r1, r2, r3, rfl⟩ := fr
              simp only [outE] at hout
              split at hout
              · rename_i k ρ hj
                cases hout
                obtain ⟨p, L, t2, q1, q2⟩ := hptr j k ρ t e hj r1 r2
                exact ⟨ds2, .z, S, rfl, a, p, L, t2, rfl, q1, by rw [q2 π]; exact r3⟩
              · rename_i u hj
                obtain ⟨v0, e0, w1, w2, w3⟩ := ar2.r.get r1
                rw [r2] at w2; cases w2
                obtain ⟨x, hx⟩ := getP_of_adr r3
                obtain ⟨u2, e2, out, y1, y2, y3, _⟩ := w3.lens hx
                have := y3 []
                rw [List.append_nil, r3] at this
                rw [adr_val y1 this.symm] at y1
                have nde : (fp e2).Nodup := (List.nodup_append.mp (y2.nodup_iff.mp (fps_get ar2.nd r2))).2.1
                have ine : ∀ q ∈ fp e2, q ∈ fp e := fun q hq => y2.mem_iff.mpr (List.mem_append_right _ hq)
                have fin : ∀ p ∈ fp e2, ¬ g2.Z p ∧ ¬ g.P p ∧ ∀ i, p ∉ fp (ds2 i) := fun p hp => by
                  have h0 := ar2.no p (mem_fps (List.mem_of_getElem? r2) (ine p hp))
                  refine noT p h0.1 h0.2 fun j' k ρ e3 w1 w2 w3 => ?_
                  have hne : j ≠ j' := fun q => by subst q; rw [hj] at w1; cases w1
                  exact fps_split hne ar2.nd r2 w2 (ine p hp) w3
                simp only [r1, Option.bind_some, hx] at hout
                cases x with
                | im w => cases hout; exact ⟨ds2, .z, S, rfl, y1.2⟩
                | _ => cases hout; exact ⟨ds2, e2, S, y1, rfl, nde, fin⟩
              · cases hout
    · rw [if_neg hd] at h; exact h.elim
theorem call_run {n : Nat} {f : Fn} {evs : List EV} {vs : List V} {Q : VK} {E : XK} (s : SimA G g env σ H evs vs) (hn : vs.length = n) (h : match callF f evs env with
    | .ok ev env' => ∀ g' v H', Keep g H g' H' → SimE G g' env' σ H' ev v → Q v H'
    | .exc c env' => ∀ g' H', Keep g H g' H' → SimN G g' env' σ H' → E (.ref (G.cA c)) none H'
    | .stuck => False) : spOf G n f vs H Q E := by
  obtain ⟨g, ts, es, _, a, b, c⟩ := call_run2 s h
  exact ⟨hn, g, ts, es, a, b, c⟩
end
end VL
namespace VL
open PySem L2 PyProof.Rows
structure CallS (P : Program) (w : World) (K : PySem.W.Frag) (mg : Str → Option Value) (base : Heap) (G : Gm) (x : String) (k n : Nat) (dws : List W) (f : Fn) : Prop where
  ex : ∃ (a : Addr) (fd : FuncData) (ps : List Str) (dvs : List V) (ds : List Value), FnOk P w K mg base (L2.CX P w) k a fd ps (spOf G n f) ∧ mg (Str.ofString x) = some (.ref a) ∧ PySem.W.keepIn K (.ref a) = true ∧ Binds K fd ps ds ∧ Vals dvs ds ∧
    ∀ Z H, RepL G Z H dws dvs
structure MethS (P : Program) (w : World) (K : PySem.W.Frag) (mg : Str → Option Value) (base : Heap) (G : Gm) (m : String) (k n : Nat) (dws : List W) (tab : String → Option Fn) : Prop where
  ex : ∀ C s, tab C = some s → Cls K (G.cA C) ∧ ∃ (f : Addr) (fd : FuncData) (ps : List Str) (dvs : List V) (ds : List Value), Meth K (G.cA C) (Str.ofString m) f ∧ FnOk P w K mg base (L2.CX P w) k f fd ps (spOf G n s) ∧ Binds K fd ps ds ∧ Vals dvs ds ∧
    ∀ Z H, RepL G Z H dws dvs
structure MakeS (P : Program) (w : World) (K : PySem.W.Frag) (mg : Str → Option Value) (base : Heap) (G : Gm) (C : String) (k n : Nat) (dws : List W) (s : Fn) : Prop where
  ex : mg (Str.ofString C) = some (.ref (G.cA C)) ∧ ∃ (f : Addr) (fd : FuncData) (ps : List Str) (dvs : List V) (ds : List Value), Mk K (G.cA C) f ∧ FnOk P w K mg base (L2.CX P w) k f fd ps (spOf G n s) ∧ Binds K fd ps ds ∧ Vals dvs ds ∧
    ∀ Z H, RepL G Z H dws dvs
structure MakeO (K : PySem.W.Frag) (mg : Str → Option Value) (G : Gm) (C : String) : Prop where
  gC : mg (Str.ofString C) = some (.ref (G.cA C))
  kC : PySem.W.keepIn K (.ref (G.cA C)) = true
  mks : PySem.W.makesIn K (G.cA C) = true
  ini : PySem.W.findIn K (.ref (G.cA C)) "__init__" = some (some (.builtin "object.__init__"))
structure ClsS (P : Program) (w : World) (K : PySem.W.Frag) (mg : Str → Option Value) (base : Heap) (G : Gm) (C m : String) (k n : Nat) (s : Fn) : Prop where
  gC : mg (Str.ofString C) = some (.ref (G.cA C))
  rd : PySem.W.readsIn K (G.cA C) (.type "type") = true
  ga : PySem.W.specialIn K (.ref (G.cA C)) "__getattribute__" = some (some (.builtin "type.__getattribute__"))
  ex : ∃ (f : Addr) (fd : FuncData) (ps : List Str), PySem.W.findCls K (.ref (G.cA C)) (.type "type") (Str.ofString m) = some (.val (.ref f)) ∧ PySem.W.keepIn K (.ref f) = true ∧ FnOk P w K mg base (L2.CX P w) k f fd ps (spOf G n s) ∧ Binds K fd ps []
def eCall (n : Nat) (dws : List W) (f : Fn) (t : M3 (List EV)) : M3 EV := fun env => match t env with
  | .ok evs e1 => if evs.length + dws.length = n then callF f (evs ++ dws.map EV.im) e1 else .stuck
  | .exc c e1 => .exc c e1
  | .stuck => .stuck
def clsT : T → Option (String × List String)
  | .im (.ins C fs) => some (C, fs.map (·.1))
  | .mi C fs => some (C, fs.map (·.1))
  | _ => none
def eMeth (m : String) (n : Nat) (dws : List W) (tab : String → Option Fn) (fo : M3 EV) (t : M3 (List EV)) : M3 EV := fun env => match fo env with
  | .ok o e1 => (match (rd e1 o).bind clsT with
    | some (C, ns) => if m ∈ ns then .stuck else (match tab C with
      | some f => (match pendB o t e1 with
        | .ok evs e2 => if evs.length + dws.length + 1 = n then callF f (o :: (evs ++ dws.map EV.im)) e2 else .stuck
        | .exc c e2 => .exc c e2
        | .stuck => .stuck)
      | none => .stuck)
    | none => .stuck)
  | .exc c e1 => .exc c e1
  | .stuck => .stuck
def mkF (f : Fn) : Fn := fun ts => match f ts with
  | .ok (.im .non) ts' => .ok (.ptr 0 []) ts'
  | .ok _ _ => .stuck
  | .exc c ts' => .exc c ts'
  | .stuck => .stuck
def eMake (C : String) (n : Nat) (dws : List W) (f : Fn) (t : M3 (List EV)) : M3 EV := fun env => match t env with
  | .ok evs e1 => if evs.length + dws.length + 1 = n then callF (mkF f) (.tmp (.mi C []) :: (evs ++ dws.map EV.im)) e1 else .stuck
  | .exc c e1 => .exc c e1
  | .stuck => .stuck
mutual
def frzT : T → Option W
  | .im w => some w
  | .ml xs => (frzTs xs).map .lst
  | .tp xs => (frzTs xs).map .tup
  | .mi C fs => (frzTf fs).map (.ins C)
  | _ => none
def frzTs : List T → Option (List W)
  | [] => some []
  | x :: xs => (frzT x).bind fun y => (frzTs xs).map (y :: ·)
def frzTf : List (String × T) → Option (List (String × W))
  | [] => some []
  | (f, x) :: xs => (frzT x).bind fun y => (frzTf xs).map ((f, y) :: ·)
end
def eFrz (f : M3 EV) : M3 EV := fun env => match f env with
  | .ok (.tmp t) e1 => (match frzT t with
    | some w => .ok (.im w) e1
    | none => .stuck)
  | .ok (.im w) e1 => .ok (.im w) e1
  | .exc c e1 => .exc c e1
  | _ => .stuck
section
variable {X : Cx} {G : Gm} {Wx : WX} {g g' : Gh} {env env' : Env3} {σ : L2.St} {H H' : Hp} {ds : Nat → D} {k : Nat} {f C : Addr} {fd : FuncData} {ps : List Str} {sp : Sp} {dvs : List V} {dvl : List Value} {x : Str} {p pos apos : Pos} {e o : Expr} {es : List Expr} {fa fe : M3 EV} {t : M3 (List EV)}
theorem run_fnD {CX : CXT} {E : XK} {pins : List (Addr × Obj)} {σ : L2.St} {H : Hp} {s : Shared} {Q : VK} {us : List Value} {vs : List V} (F : FnOk X.prog X.w X.K X.mg X.base CX k f fd ps sp) (hr : Room k X.A) (hb : Binds X.K fd ps dvl) (hd : Vals dvs dvl) (hx : PassesAt CX X σ E)
    (I : Inv X pins σ H s) (r : Vals vs us) (h : sp (vs ++ dvs) H Q E) : wpAny (model X.prog X.w) X.A (call (.ref f) us) (EP X pins σ Q) X.xe s := by
  have r2 : Vals (vs ++ dvs) (us ++ dvl) := r.append hd
  have hl : (us ++ dvl).length = ps.length := by rw [← r2.length]; exact F.len _ _ _ _ h
  refine wpAny_call (codeAny_mono (F.run X.A X.stack s H ⟨us, []⟩ (us ++ dvl) (vs ++ dvs) Q E hr I.env0 (hb s us I.kIn hl) r2 h) fun r s' hq => ?_)
  cases r with
  | error e => exact hx pins H s e s' I hq
  | ok fl =>
    cases fl with
    | ret u => exact I.after hq
    | next => exact False.elim hq
    | brk => exact False.elim hq
    | cont => exact False.elim hq
theorem run_makeD {CX : CXT} {E : XK} {pins : List (Addr × Obj)} {σ : L2.St} {H : Hp} {s : Shared} {Q : VK} {us : List Value} {vs : List V} (M : Mk X.K C f) (F : FnOk X.prog X.w X.K X.mg X.base CX k f fd ps sp) (hr : Room (k + 1) X.A) (hb : Binds X.K fd ps dvl) (hd : Vals dvs dvl)
    (hx : PassesAt CX X σ E) (I : Inv X pins σ H s) (r : Vals vs us)
    (h : ∀ x dx, H x = none → H dx = none → dx ≠ x → sp (.ref x :: (vs ++ dvs)) (upd (upd H dx (.own x)) x (.ins C dx [])) (fun v H2 => v = .non ∧ Q (.ref x) H2) E) :
    wpAny (model X.prog X.w) X.A (call (.ref C) us) (EP X pins σ Q) X.xe s := by
  have hq := h (s.heap.objs.size + 1) s.heap.objs.size (I.hok.fresh (Nat.le_succ _)) (I.hok.fresh (Nat.le_refl _)) (Nat.ne_of_lt (Nat.lt_succ_self _))
  have I2 := Inv.made (C := C) I
  have r2 : Vals (V.ref (s.heap.objs.size + 1) :: (vs ++ dvs)) (Value.ref (s.heap.objs.size + 1) :: (us ++ dvl)) := .cons rfl (r.append hd)
  have hl : (Value.ref (s.heap.objs.size + 1) :: us ++ dvl).length = ps.length := by
    have e := r2.length
    rw [F.len _ _ _ _ hq] at e
    exact e.symm
  refine wpAny_call (make_map (f := f) I.kIn M.makes M.init (beq_iff_eq.mp M.fn) (codeAny_mono (F.run _ X.stack _ _ ⟨Value.ref (s.heap.objs.size + 1) :: us, []⟩ (Value.ref (s.heap.objs.size + 1) :: (us ++ dvl)) _ _ E (hr.make C us [])
    (I2.env0.make C us []) (hb _ (Value.ref (s.heap.objs.size + 1) :: us) I2.kIn hl) r2 hq) fun r s' hq' => ?_))
  cases r with
  | error e => exact hx pins _ _ e s' I2 hq'
  | ok fl =>
    cases fl with
    | ret u =>
      obtain ⟨v, H', I3, rv, ev, q3⟩ := I2.after hq'
      subst ev
      exact ⟨rv, ⟨V.ref (s.heap.objs.size + 1), H', I3, rfl, q3⟩⟩
    | next => exact False.elim hq'
    | brk => exact False.elim hq'
    | cont => exact False.elim hq'
theorem EvL.app : ∀ {evs : List EV} {vs : List V} {es : List D} {ws : List W} {us : List V}, EvL G g env H ds evs vs es → RepL G g.Z H ws us → EvL G g env H ds (evs ++ ws.map EV.im) (vs ++ us) (es ++ ws.map fun _ => D.z)
  | [], vs, es, ws, us, h, r => by rw [h.1, h.2]; exact parts_im () r
  | e :: l, vs, es, ws, us, ⟨v, vr, d, dr, e1, e2, a, b, c⟩, r => by
    subst e1 e2
    refine ⟨v, _, d, _, rfl, rfl, a, b.app r, fun p hp hq => ?_⟩
    have hq : p ∈ fps (dr ++ ws.map fun _ => D.z) := hq
    rw [fps_append] at hq
    rcases List.mem_append.mp hq with z | z
    · exact c p hp z
    · obtain ⟨i, x, h1, h2⟩ := mem_fps_get z
      rw [List.getElem?_map] at h1
      obtain ⟨w, _, rfl⟩ := Option.map_eq_some_iff.mp h1
      rw [fp_z] at h2; cases h2
theorem SimA.app {evs : List EV} {vs : List V} {ws : List W} {us : List V} (s : SimA G g env σ H evs vs) (r : ∀ Z H, RepL G Z H ws us) : SimA G g env σ H (evs ++ ws.map EV.im) (vs ++ us) := by
  obtain ⟨ds, es, s, l⟩ := s
  exact ⟨ds, _, s, l.app (r _ _)⟩
theorem call_sat {n : Nat} {F : Fn} {evs : List EV} {vs : List V} {Q : VK} (s : SimA G g env σ H evs vs) (hn : vs.length = n) (h : SatE G Wx g σ H Q (callF F evs env)) : spOf G n F vs H Q (WE Wx σ) := by
  refine call_run s hn ?_
  cases e : callF F evs env with
  | stuck => rw [e] at h; exact h.elim
  | exc c env' => rw [e] at h; exact fun g' H' k s => h g' H' k s
  | ok ev env' => rw [e] at h; exact h
theorem sa_mid {n : Nat} {dws : List W} {F : Fn} {σ : L2.St} {H : Hp} {Q : VK} (h : liftE G Wx (eCall n dws F t) σ H Q) (rd : ∀ Z H, RepL G Z H dws dvs) : liftA G Wx t σ H (fun vs H1 => spOf G n F (vs ++ dvs) H1 Q (WE Wx σ)) := by
  obtain ⟨g, env, ds, s, h⟩ := h
  refine ⟨g, env, ds, s, ?_⟩
  unfold eCall at h
  cases e1 : t env with
  | stuck => rw [e1] at h; exact h.elim
  | exc c e2 => rw [e1] at h; exact h
  | ok evs e2 =>
    simp only [e1] at h
    intro g1 vs H1 k1 s1
    split at h
    · rename_i hn
      refine call_sat (s1.app rd) ?_ (SatE.keep h k1)
      rw [List.length_append, ← s1.len, ← hn, (rd g1.Z H1).length]
    · exact h.elim
theorem zipK_no {m : String} : ∀ {ns : List String} {us : List V}, m ∉ ns → (zipK Str.ofString ns us).lookup (Str.ofString m) = none
  | [], us, _ => by cases us <;> rfl
  | n :: ns, [], _ => rfl
  | n :: ns, u :: us, h => by
    rw [List.mem_cons, not_or] at h
    show List.lookup _ ((Str.ofString n, u) :: zipK Str.ofString ns us) = none
    rw [List.lookup_cons]
    have : (Str.ofString m == Str.ofString n) = false := by
      rw [beq_eq_false_iff_ne]
      exact fun z => h.1 (ofString_inj z)
    rw [this]; exact zipK_no h.2
theorem repF_zip {Z : Addr → Prop} : ∀ {fs : List (String × W)} {vs : List (Str × V)}, RepF G Z H fs vs → ∃ us, vs = zipK Str.ofString (fs.map (·.1)) us ∧ RepL G Z H (fs.map (·.2)) us
  | [], vs, h => by rw [show vs = _ from h]; exact ⟨[], rfl, rfl⟩
  | (n, x) :: r, vs, ⟨v, rr, e, a, b⟩ => by
    obtain ⟨us, rfl, q⟩ := repF_zip b
    exact ⟨v :: us, e, v, us, rfl, a, q⟩
theorem clsT_rep {Z : Addr → Prop} {u : T} {v : V} {d : D} {C m : String} {ns : List String} (h : clsT u = some (C, ns)) (hm : m ∉ ns) (r : RepT G Z H u v d) : ∃ p dx vs, v = .ref p ∧ H p = some (.ins (G.cA C) dx vs) ∧ vs.lookup (Str.ofString m) = none := by
  unfold clsT at h
  split at h
  · cases h
    obtain ⟨_, p, dx, vs, e, z, q, rf⟩ := r
    obtain ⟨us, rfl, _⟩ := repF_zip rf
    exact ⟨p, dx, _, e, q, zipK_no hm⟩
  · cases h
    obtain ⟨p, dx, vs, ds, e, e2, q, rf⟩ := r
    obtain ⟨us, rfl, _⟩ := repTF_iff.mp rf
    exact ⟨p, dx, _, e, q.1, zipK_no hm⟩
  · cases h
theorem SimA.consI {ev : EV} {v : V} {evs : List EV} {vs : List V} (s : SimA G g env σ H (ev :: evs) (v :: vs)) {ws : List W} {us : List V} (r : ∀ Z H, RepL G Z H ws us) : SimA G g env σ H (ev :: (evs ++ ws.map EV.im)) (v :: (vs ++ us)) := s.app r
theorem meth_mid {m : String} {n : Nat} {dws : List W} {tab : String → Option Fn} {Q : VK} {σ : L2.St} {H : Hp} (h : liftE G Wx (eMeth m n dws tab fa t) σ H Q) : liftE G Wx fa σ H fun v H1 => ∃ C F p dx vs, tab C = some F ∧ v = .ref p ∧ H1 p = some (.ins (G.cA C) dx vs) ∧ vs.lookup (Str.ofString m) = none ∧
    ∀ dvs, (∀ Z H, RepL G Z H dws dvs) → liftA G Wx t σ H1 (fun us H2 => spOf G n F (.ref p :: (us ++ dvs)) H2 Q (WE Wx σ)) := by
  obtain ⟨g, env, ds, s, h⟩ := h
  refine ⟨g, env, ds, s, ?_⟩
  unfold eMeth at h
  cases e1 : fa env with
  | stuck => rw [e1] at h; exact h.elim
  | exc c e2 => rw [e1] at h; exact h
  | ok ob e2 =>
    simp only [e1] at h
    intro g1 v H1 k1 s1
    cases e3 : (rd e2 ob).bind clsT with
    | none => simp only [e3] at h; exact h.elim
    | some Cn =>
      obtain ⟨C, ns⟩ := Cn
      simp only [e3] at h
      split at h
      · exact h.elim
      · rename_i hm
        cases e4 : tab C with
        | none => simp only [e4] at h; exact h.elim
        | some F =>
          simp only [e4] at h
          obtain ⟨u, h1, h2⟩ := Option.bind_eq_some_iff.mp e3
          obtain ⟨d, ru⟩ := s1.rd h1
          obtain ⟨p, dx, vs, rfl, hp, hl⟩ := clsT_rep h2 hm ru
          refine ⟨C, F, p, dx, vs, e4, rfl, hp, hl, fun dvs rd => pend_A s1 ?_⟩
          cases e5 : pendB ob t e2 with
          | stuck => simp only [e5] at h; exact h.elim
          | exc c e6 => simp only [e5] at h; exact SatX.keep h k1
          | ok evs e6 =>
            simp only [e5] at h
            intro g2 us H2 k2 s2
            split at h
            · rename_i hn
              refine call_sat (s2.consI rd) ?_ (SatE.keep h (k1.trans k2))
              have := s2.len
              simp only [List.length_cons] at this
              rw [List.length_cons, List.length_append, (rd g1.Z H1).length]
              omega
            · exact h.elim
theorem se_meth {m : String} {n : Nat} {dws : List W} {tab : String → Option Fn} {pl : Sem Bool} (c : MethS X.prog X.w X.K X.mg X.base G m k n dws tab) (hr : Room k X.A) (tk : Takes X Wx) (ho : SE G X Wx o fa) (ha : SA G X Wx (e :: es) t)
    (hst : starEach (e :: es) X.env = (false, eval e X.env) :: starEach es X.env := by rfl) (hpl : (backTo pos (starEach es X.env)).any (·.1) = false := by rfl)
    (ht : eval (.Call (.Attribute o (Str.ofString m) apos) (e :: es) [] pos) X.env = (do
      let ov ← eval o X.env
      standAt apos.atName
      let (f, first) ← holding [ov] (getMethod ov (Str.ofString m) pl)
      callWith pos f first (backTo pos (starEach (e :: es) X.env)) (backToKw pos (keywordEach [] X.env))) := by rfl) :
    SE G X Wx (.Call (.Attribute o (Str.ofString m) apos) (e :: es) [] pos) (eMeth m n dws tab fa t) := by
  refine ⟨fun pins s0 σ H Q I h => ?_⟩
  refine methcall_of (pl := pl) ho I ?_ ht
  obtain ⟨g, env, ds, s, h⟩ := meth_mid h
  refine ⟨g, env, ds, s, ?_⟩
  cases e1 : fa env with
  | stuck => rw [e1] at h; exact h
  | exc c e2 => rw [e1] at h; exact h
  | ok ob e2 =>
    rw [e1] at h
    intro g1 v H1 k1 s1
    obtain ⟨C, F, p, dx, vs, hs, rfl, hp, hl, hz⟩ := h g1 v H1 k1 s1
    obtain ⟨cl, f, fd, ps, dvs, ds, mm, F, hb, hd, rd⟩ := c.ex C F hs
    refine ⟨p, _, dx, vs, f, rfl, hp, cl, mm, hl, fun s2 I2 => ?_⟩
    refine PySem.W.callWith_K (first := [.ref p]) (h₀ := X.base) I.ok.mod.kin mm.kp (thn (ha.run pos pins s2 σ H1 _ I2 (hz dvs rd)) fun us s3 ⟨vs3, H3, I3, r3, q3⟩ => ⟨I3.kIn, ?_⟩) hst hpl
    exact run_fnD (us := .ref p :: us) (vs := .ref p :: vs3) F hr hb hd (passAt tk σ) I3 (.cons rfl r3) q3
theorem liftA_nil {Q : List V → Hp → Prop} (h : liftA G Wx eNil σ H Q) : Q [] H := by
  obtain ⟨g, env, ds, s, h⟩ := h
  exact h g [] H (Keep.refl g H) ⟨ds, [], s, rfl, rfl⟩
theorem mkF_sat {F : Fn} {a : Addr} {vs : List V} {ts : List T} {u : T} {Q : VK} {E : XK} (hu : u.mut = true) (h : SatF G g H (.ref a :: vs) (u :: ts) Q E (mkF F (u :: ts))) : SatF G g H (.ref a :: vs) (u :: ts) (fun v H2 => v = .non ∧ Q (.ref a) H2) E (F (u :: ts)) := by
  unfold mkF at h
  cases e : F (u :: ts) with
  | stuck => rw [e] at h; exact h
  | exc c ts' => rw [e] at h; exact h
  | ok ev ts' =>
    rw [e] at h
    cases ev with
    | im w =>
      cases w with
      | non =>
        intro g' v H' es' k ok ar hm fr
        refine ⟨fr, h g' (.ref a) H' es' k ok ar hm ?_⟩
        cases ts' with
        | nil => cases hm
        | cons t0 tr =>
          obtain ⟨v0, vr, d0, dr, e1, e2, r0, _⟩ := ar.r
          cases e1
          simp only [List.map_cons, List.cons.injEq] at hm
          obtain ⟨b, b1, b2⟩ := adr_root r0 (hm.1.trans hu)
          exact ⟨t0, d0, b, rfl, by rw [e2]; rfl, b1, b2⟩
      | _ => exact h.elim
    | _ => exact h.elim
theorem EvR.keepS {g' : Gh} {ev : EV} {v : V} {d : D} (s : Sim G g env σ H ds) (r : EvR G g env H ds ev v d) (k : Keep g H g' H') (hp : ∀ p ∈ fp d, H' p = H p) (hz : ∀ p ∈ fp d, ¬ g'.Z p) : EvR G g' env H' ds ev v d := by
  cases ev with
  | im w => exact ⟨r.1, r.2.keep k.kz⟩
  | tmp t => exact ⟨r.1.keep k.kz hp, r.2.1, r.2.2.1, fun p h => ⟨hz p h, fun z => (r.2.2.2 p h).2.1 (k.q p z), (r.2.2.2 p h).2.2⟩⟩
  | ptr k π => exact r
theorem EvL.keepS {g' : Gh} (s : Sim G g env σ H ds) (k : Keep g H g' H') : ∀ {evs : List EV} {vs : List V} {es : List D}, EvL G g env H ds evs vs es → (∀ p ∈ fps es, H' p = H p) → (∀ p ∈ fps es, ¬ g'.Z p) → EvL G g' env H' ds evs vs es
  | [], _, _, h, _, _ => h
  | e :: r, _, _, ⟨v, vr, d, dr, e1, e2, a, b, c⟩, hp, hz => by
    subst e2
    exact ⟨v, vr, d, dr, e1, rfl, a.keepS s k (fun p h => hp p (List.mem_append_left _ h)) (fun p h => hz p (List.mem_append_left _ h)), b.keepS s k (fun p h => hp p (List.mem_append_right _ h)) (fun p h => hz p (List.mem_append_right _ h)), c⟩
theorem SimA.new {evs : List EV} {vs : List V} {q : Addr} {o : HO} (s : SimA G g env σ H evs vs) (h : H q = none) : SimA G g env σ (L2.upd H q o) evs vs ∧ Keep g H g (L2.upd H q o) := by
  obtain ⟨ds, es, s, l⟩ := s
  have kn := Keep.new (o := o) h s
  refine ⟨⟨ds, es, s.new h, l.keepS s kn (fun p hp => upd_ne fun e => ?_) fun p hp => (l.noP p hp).2.1⟩, kn⟩
  subst e
  obtain ⟨_, _, _, o', e, _⟩ := l.noP p hp
  rw [h] at e; cases e
theorem SimA.newT {evs : List EV} {vs : List V} {q : Addr} {o : HO} {u : T} (s : SimA G g env σ H evs vs) (h : H q = none) (hr : Keep g H g (L2.upd H q o) → RepT G g.Z (L2.upd H q o) u (.ref q) (.nd (some q) true [])) (hm : u.mut = true) : SimA G g env σ (L2.upd H q o) (.tmp u :: evs) (.ref q :: vs) ∧ Keep g H g (L2.upd H q o) := by
  obtain ⟨ds, es, s, l⟩ := s
  have kn := Keep.new (o := o) h s
  have fr := s.free h
  have nq : ∀ p ∈ fps es, p ≠ q := fun p hp e => by
    subst e
    obtain ⟨_, _, _, o', e, _⟩ := l.noP p hp
    rw [h] at e; cases e
  have fpq : fp (.nd (some q) true []) = [q] := by simp [fp, fps]
  refine ⟨⟨ds, .nd (some q) true [] :: es, s.new h, .ref q, vs, _, es, rfl, rfl, ⟨hr kn, hm, by rw [fpq]; simp, fun p hp => ?_⟩, l.keepS s kn (fun p hp => upd_ne (nq p hp)) fun p hp => (l.noP p hp).2.1, fun p hp hq => ?_⟩, kn⟩
  · rw [fpq] at hp
    rw [List.mem_singleton.mp hp]
    exact fr
  · rw [fpq] at hp
    exact nq p hq (List.mem_singleton.mp hp)
theorem make_mid {C : String} {n : Nat} {F : Fn} {dws : List W} {Q : VK} {σ : L2.St} {H : Hp} (h : liftE G Wx (eMake C n dws F t) σ H Q) (rd : ∀ Z H, RepL G Z H dws dvs) : liftA G Wx t σ H (fun vs H1 => ∀ a dx, H1 a = none → H1 dx = none → dx ≠ a →
    spOf G n F (.ref a :: (vs ++ dvs)) (L2.upd (L2.upd H1 dx (.own a)) a (.ins (G.cA C) dx [])) (fun v H2 => v = .non ∧ Q (.ref a) H2) (WE Wx σ)) := by
  obtain ⟨g, env, ds, s, h⟩ := h
  refine ⟨g, env, ds, s, ?_⟩
  unfold eMake at h
  cases e1 : t env with
  | stuck => rw [e1] at h; exact h.elim
  | exc c e2 => rw [e1] at h; exact h
  | ok evs e2 =>
    simp only [e1] at h
    intro g1 vs H1 k1 s1 a dx ha hdx ne
    split at h
    · rename_i hn
      obtain ⟨s2, k2⟩ := (s1.app rd).new (o := .own a) hdx
      have ha2 : L2.upd H1 dx (.own a) a = none := by rw [upd_ne (Ne.symm ne)]; exact ha
      obtain ⟨s3, k3⟩ := s2.newT (o := .ins (G.cA C) dx []) (u := .mi C []) ha2 (fun _ => ⟨a, dx, [], [], rfl, rfl, ⟨upd_same, List.nodup_nil⟩, rfl, rfl⟩) rfl
      have hl : (V.ref a :: (vs ++ dvs)).length = n := by
        rw [List.length_cons, List.length_append, ← s1.len, (rd g1.Z H1).length]; exact hn
      have h0 := SatE.keep h ((k1.trans k2).trans k3)
      obtain ⟨g0, ts, es0, hts, ok0, ar0, q0⟩ := call_run2 (Q := Q) (E := WE Wx σ) s3 (f := mkF F) (by
        cases e : callF (mkF F) (.tmp (.mi C []) :: (evs ++ dws.map EV.im)) e2 with
        | stuck => rw [e] at h0; exact h0.elim
        | exc c env' => rw [e] at h0; exact fun g' H' k s => h0 g' H' k s
        | ok ev env' => rw [e] at h0; exact h0)
      obtain ⟨u, w1, w2⟩ := Option.bind_eq_some_iff.mp (show (VL.rd e2 (.tmp (.mi C []))).bind (fun t => (rds e2 (evs ++ dws.map EV.im)).map (t :: ·)) = some ts from hts)
      cases w1
      obtain ⟨tr, _, rfl⟩ := Option.map_eq_some_iff.mp w2
      exact ⟨hl, g0, _, es0, ok0, ar0, mkF_sat rfl q0⟩
    · exact h.elim
theorem se_make {C : String} {n : Nat} {F : Fn} {dws : List W} (c : MakeS X.prog X.w X.K X.mg X.base G C k n dws F) (hr : Room (k + 1) X.A) (hg : Gl X (Str.ofString C)) (tk : Takes X Wx)
    (ha : SA G X Wx (e :: es) t) (hdb : ((Str.ofString C) == ("__debug__" : Str)) = false := by decide) (he : starEach (e :: es) X.env = (false, eval e X.env) :: starEach es X.env := by rfl) (hpl : (backTo pos (starEach es X.env)).any (·.1) = false := by rfl) :
    SE G X Wx (.Call (.Name (Str.ofString C) p) (e :: es) [] pos) (eMake C n dws F t) := by
  obtain ⟨hm, f, fd, ps, dvs, ds, mk, F, hb, hd, rd⟩ := c.ex
  refine ⟨fun pins s0 σ H Q I h => ?_⟩
  refine wpAny_Call_Name_kw (ld_glob I hg hm ?_ hdb)
  refine PySem.W.callWith_K (h₀ := X.base) I.ok.mod.kin mk.kp (thn (ha.run pos pins s0 σ H _ I (make_mid h rd)) fun us s1 ⟨vs, H1, I1, r, q⟩ => ⟨I1.kIn, ?_⟩) he hpl
  exact run_makeD mk F hr hb hd (passAt tk σ) I1 r q
theorem se_clscall {C m : String} {n : Nat} {F : Fn} {pl : Sem Bool} {p2 : Pos} (c : ClsS X.prog X.w X.K X.mg X.base G C m k n F) (hr : Room k X.A) (hg : Gl X (Str.ofString C)) (tk : Takes X Wx) (ha : SA G X Wx (e :: es) t)
    (hdb : ((Str.ofString C) == ("__debug__" : Str)) = false := by decide)
    (hst : starEach (e :: es) X.env = (false, eval e X.env) :: starEach es X.env := by rfl) (hpl : (backTo pos (starEach es X.env)).any (·.1) = false := by rfl)
    (ht : eval (.Call (.Attribute (.Name (Str.ofString C) p2) (Str.ofString m) apos) (e :: es) [] pos) X.env = (do
      let ov ← eval (.Name (Str.ofString C) p2) X.env
      standAt apos.atName
      let (f, first) ← holding [ov] (getMethod ov (Str.ofString m) pl)
      callWith pos f first (backTo pos (starEach (e :: es) X.env)) (backToKw pos (keywordEach [] X.env))) := by rfl) :
    SE G X Wx (.Call (.Attribute (.Name (Str.ofString C) p2) (Str.ofString m) apos) (e :: es) [] pos) (eCall n [] F t) := by
  obtain ⟨f, fd, ps, hf, kp, F, hb⟩ := c.ex
  refine ⟨fun pins s0 σ H Q I h => ?_⟩
  refine PySem.W.methodCall_KW (pl := pl) (ld_glob I hg c.gC ?_ hdb) ht
  refine PySem.W.method_cls I.kIn c.ga (PySem.W.cls_value I.kIn c.rd hf rfl ?_)
  have I2 := I.tok (s0.toks + 1)
  have z := sa_mid (dvs := []) h fun _ _ => rfl
  refine PySem.W.callWith_K (h₀ := X.base) I2.ok.mod.kin kp (thn (ha.run pos pins _ σ H _ I2 z) fun us s1 ⟨vs, H1, I1, r, q⟩ => ⟨I1.kIn, ?_⟩) hst hpl
  exact run_fnD F hr hb .nil (passAt tk σ) I1 r q
theorem Rep.moreZ {Z Z' : Addr → Prop} (h : ∀ p, Z p → Z' p) {w : W} {v : V} (r : Rep G Z H w v) : Rep G Z' H w v := r.keep ⟨fun p z => ⟨h p z, rfl⟩, fun _ _ e => e, FK.refl⟩
mutual
theorem frz_rep {Z Z' : Addr → Prop} (hz : ∀ p, Z p → Z' p) : ∀ {u : T} {w : W} {v : V} {d : D}, frzT u = some w → RepT G Z H u v d → (∀ p ∈ fp d, Z' p) → Rep G Z' H w v
  | .im w', w, v, d, e, r, _ => by cases e; exact r.2.moreZ hz
  | .ml xs, w, v, d, e, r, h => by
    obtain ⟨ys, e1, rfl⟩ := Option.map_eq_some_iff.mp (show (frzTs xs).map W.lst = some w from e)
    obtain ⟨p, vs, ds, rfl, rfl, h1, q⟩ := r
    exact ⟨p, vs, rfl, h p (by simp [fp]), h1, frzs_rep hz e1 q fun p hp => h p (by simp [fp, hp])⟩
  | .tp xs, w, v, d, e, r, h => by
    obtain ⟨ys, e1, rfl⟩ := Option.map_eq_some_iff.mp (show (frzTs xs).map W.tup = some w from e)
    obtain ⟨p, vs, ds, rfl, rfl, h1, q⟩ := r
    exact ⟨p, vs, rfl, h1, frzs_rep hz e1 q fun p hp => h p (by simp [fp, hp])⟩
  | .mi C fs, w, v, d, e, r, h => by
    obtain ⟨ys, e1, rfl⟩ := Option.map_eq_some_iff.mp (show (frzTf fs).map (W.ins C) = some w from e)
    obtain ⟨p, dx, vs, ds, rfl, rfl, h1, q⟩ := r
    exact ⟨p, dx, vs, rfl, h p (by simp [fp]), h1.1, frzf_rep hz e1 q fun p hp => h p (by simp [fp, hp])⟩
  | .md _, _, _, _, e, _, _ => by simp [frzT] at e
  | .mt _, _, _, _, e, _, _ => by simp [frzT] at e
theorem frzs_rep {Z Z' : Addr → Prop} (hz : ∀ p, Z p → Z' p) : ∀ {us : List T} {ws : List W} {vs : List V} {ds : List D}, frzTs us = some ws → RepTL G Z H us vs ds → (∀ p ∈ fps ds, Z' p) → RepL G Z' H ws vs
  | [], ws, vs, ds, e, r, _ => by cases e; exact r.1
  | x :: xs, ws, vs, ds, e, r, h => by
    obtain ⟨v, rr, d, dr, rfl, rfl, a, b⟩ := r
    obtain ⟨y, e1, e2⟩ := Option.bind_eq_some_iff.mp (show (frzT x).bind (fun y => (frzTs xs).map (y :: ·)) = some ws from e)
    obtain ⟨zs, e3, rfl⟩ := Option.map_eq_some_iff.mp e2
    exact ⟨v, rr, rfl, frz_rep hz e1 a fun p hp => h p (List.mem_append_left _ hp), frzs_rep hz e3 b fun p hp => h p (List.mem_append_right _ hp)⟩
theorem frzf_rep {Z Z' : Addr → Prop} (hz : ∀ p, Z p → Z' p) : ∀ {us : List (String × T)} {ws : List (String × W)} {vs : List (Str × V)} {ds : List D}, frzTf us = some ws → RepTF G Z H us vs ds → (∀ p ∈ fps ds, Z' p) → RepF G Z' H ws vs
  | [], ws, vs, ds, e, r, _ => by cases e; exact r.1
  | (n, x) :: xs, ws, vs, ds, e, r, h => by
    obtain ⟨v, rr, d, dr, rfl, rfl, a, b⟩ := r
    obtain ⟨y, e1, e2⟩ := Option.bind_eq_some_iff.mp (show (frzT x).bind (fun y => (frzTf xs).map ((n, y) :: ·)) = some ws from e)
    obtain ⟨zs, e3, rfl⟩ := Option.map_eq_some_iff.mp e2
    exact ⟨v, rr, rfl, frz_rep hz e1 a fun p hp => h p (List.mem_append_left _ hp), frzf_rep hz e3 b fun p hp => h p (List.mem_append_right _ hp)⟩
end
theorem SimE.frz {u : T} {w : W} {v : V} (s : SimE G g env σ H (.tmp u) v) (h : frzT u = some w) : ∃ g', Keep g H g' H ∧ SimE G g' env σ H (.im w) v := by
  obtain ⟨ds, d, s, r1, r2, r3, r4⟩ := s
  have k : Keep g H { g with Z := fun p => g.Z p ∨ p ∈ fp d } H := ⟨fun p z => ⟨.inl z, rfl⟩, fun p z => ⟨z, rfl⟩, fun _ z => z, fun _ _ e => e, FK.refl, rfl, rfl, rfl, fun _ _ _ => rfl⟩
  refine ⟨_, k, ds, .z, s.grow k (fun i q hq => ⟨rfl, fun z => z.elim (s.no i q hq).1 fun z => (r4 q z).2.2 i hq⟩) (fun p z => z.elim (s.zt p) fun z => ?_) s.pt.1, rfl, frz_rep (fun p z => .inl z) h r1 fun p hp => .inr hp⟩
  obtain ⟨o, e, m⟩ := r1.there p z
  exact ⟨(r4 p z).2.1, Ob.mut e m⟩
theorem se_frz (h : SE G X Wx e fe) : SE G X Wx e (eFrz fe) := by
  refine pe_imp h ?_
  rintro σ H Q ⟨g, env, ds, s, h⟩
  refine ⟨g, env, ds, s, ?_⟩
  unfold eFrz at h
  cases e1 : fe env with
  | stuck => rw [e1] at h; exact h.elim
  | exc c e2 => rw [e1] at h; exact h
  | ok ev e2 =>
    rw [e1] at h
    cases ev with
    | im w => exact h
    | ptr k π => exact h.elim
    | tmp u =>
      simp only at h
      cases e3 : frzT u with
      | none => simp only [e3] at h; exact h.elim
      | some w =>
        simp only [e3] at h
        intro g1 v H1 k1 s1
        obtain ⟨g2, k2, s2⟩ := s1.frz e3
        exact h g2 v H1 (k1.trans k2) s2
end
end VL
namespace VL
open PySem L2 PyProof.Rows
def toT : EV → Option T
  | .im w => some (.im w)
  | .tmp t => some t
  | _ => none
def toTs : List EV → Option (List T)
  | [] => some []
  | e :: r => (toT e).bind fun t => (toTs r).map (t :: ·)
def allW : List EV → Option (List W)
  | [] => some []
  | .im w :: r => (allW r).map (w :: ·)
  | _ => none
def allI : List T → Option (List W)
  | [] => some []
  | .im w :: r => (allI r).map (w :: ·)
  | _ => none
def tupE (evs : List EV) : Option EV := match allW evs with
  | some ws => some (.im (.tup ws))
  | none => (toTs evs).map fun ts => .tmp (.tp ts)
def eTup (t : M3 (List EV)) : M3 EV := fun env => match t env with
  | .ok evs e1 => if evs.length ≤ 10000000 then (match tupE evs with
    | some ev => .ok ev e1
    | none => .stuck) else .stuck
  | .exc c e1 => .exc c e1
  | .stuck => .stuck
def eLst (t : M3 (List EV)) : M3 EV := fun env => match t env with
  | .ok evs e1 => if evs.length ≤ 10000000 then (match toTs evs with
    | some ts => .ok (.tmp (.ml ts)) e1
    | none => .stuck) else .stuck
  | .exc c e1 => .exc c e1
  | .stuck => .stuck
def kidEV (o : EV) (st : Step) (c : T) : EV := match c with
  | .im w => .im w
  | c => match o with
    | .ptr k π => .ptr k (π ++ [st])
    | _ => .tmp c
def fget {α : Type} (f : String) : List (String × α) → Option α
  | [] => none
  | (g, w) :: r => if g = f then some w else fget f r
def fldE (f : String) (o : EV) (env : Env3) : Option (String × EV) := match rd env o with
  | some (.im (.ins C fs)) => (fget f fs).map fun w => (C, .im w)
  | some (.mi C fs) => ((T.mi C fs).kid (.fld f)).map fun c => (C, kidEV o (.fld f) c)
  | _ => none
def eFld (L : List String) (f : String) (fo : M3 EV) : M3 EV := fun env => match fo env with
  | .ok o e1 => (match fldE f o e1 with
    | some (C, ev) => if C ∈ L then .ok ev e1 else .stuck
    | none => .stuck)
  | .exc c e1 => .exc c e1
  | .stuck => .stuck
def FldOk (K : PySem.W.Frag) (G : Gm) (L : List String) (f : String) : Prop := ∀ C, C ∈ L → Cls K (G.cA C) ∧ NoAttr K (G.cA C) (Str.ofString f)
section
variable {X : Cx} {G : Gm} {Wx : WX} {g g' : Gh} {env env' : Env3} {σ : L2.St} {H H' : Hp} {ds : Nat → D} {p pos apos cpos : Pos} {e o a b : Expr} {es : List Expr} {fa fb fe fo : M3 EV} {t : M3 (List EV)}
theorem evL_im : ∀ {evs : List EV} {vs : List V} {es : List D} {ws : List W}, EvL G g env H ds evs vs es → allW evs = some ws → RepL G g.Z H ws vs
  | [], vs, es, ws, l, h => by cases h; exact l.1
  | e :: r, vs, es, ws, ⟨v, vr, d, dr, e1, e2, a, b, c⟩, h => by
    subst e1
    cases e with
    | im w =>
      obtain ⟨ws', h1, rfl⟩ := Option.map_eq_some_iff.mp (show (allW r).map (w :: ·) = some ws from h)
      exact ⟨v, vr, rfl, a.2, evL_im b h1⟩
    | _ => cases h
theorem evL_T : ∀ {evs : List EV} {vs : List V} {es : List D} {ts : List T}, EvL G g env H ds evs vs es → toTs evs = some ts → RepTL G g.Z H ts vs es
  | [], vs, es, ts, l, h => by cases h; exact l
  | e :: r, vs, es, ts, ⟨v, vr, d, dr, e1, e2, a, b, c⟩, h => by
    subst e1 e2
    obtain ⟨t, h1, h2⟩ := Option.bind_eq_some_iff.mp (show (toT e).bind (fun t => (toTs r).map (t :: ·)) = some ts from h)
    obtain ⟨ts', h3, rfl⟩ := Option.map_eq_some_iff.mp h2
    refine ⟨v, vr, d, dr, rfl, rfl, ?_, evL_T b h3⟩
    cases e with
    | im w => cases h1; exact a
    | tmp u => cases h1; exact a.1
    | ptr k π => cases h1
theorem SimA.node {evs : List EV} {vs : List V} {ts : List T} (s : SimA G g env σ H evs vs) (ht : toTs evs = some ts) {q : Addr} (h : H q = none) : SimE G g env σ (L2.upd H q (.lst vs)) (.tmp (.ml ts)) (.ref q) ∧ Keep g H g (L2.upd H q (.lst vs)) ∧ SimE G g env σ (L2.upd H q (.tup vs)) (.tmp (.tp ts)) (.ref q) ∧ Keep g H g (L2.upd H q (.tup vs)) := by
  obtain ⟨ds, es, s, l⟩ := s
  have fr := s.free h
  have rl := evL_T l ht
  have nq : ∀ p ∈ fps es, p ≠ q := fun p hp e => by
    subst e
    obtain ⟨_, _, _, o', e, _⟩ := l.noP p hp
    rw [h] at e; cases e
  have k1 := Keep.new (o := .lst vs) h s
  have k2 := Keep.new (o := .tup vs) h s
  refine ⟨⟨ds, .nd (some q) true es, s.new h, ⟨q, vs, es, rfl, rfl, upd_same, rl.keep k1.kz fun p hp => upd_ne (nq p hp)⟩, rfl, ?_, fun p hp => ?_⟩, k1, ⟨ds, .nd (some q) false es, s.new h, ⟨q, vs, es, rfl, rfl, upd_same, rl.keep k2.kz fun p hp => upd_ne (nq p hp)⟩, rfl, ?_, fun p hp => ?_⟩, k2⟩
  · simp only [fp, if_true, Option.toList_some, List.singleton_append]
    exact List.nodup_cons.mpr ⟨fun z => nq q z rfl, l.nd⟩
  · simp only [fp, if_true, Option.toList_some, List.singleton_append, List.mem_cons] at hp
    rcases hp with rfl | hp
    · exact fr
    · exact ⟨(l.noP p hp).2.1, (l.noP p hp).1, (l.noP p hp).2.2.1⟩
  · simp only [fp, Bool.false_eq_true, if_false, List.nil_append]
    exact l.nd
  · simp only [fp, Bool.false_eq_true, if_false, List.nil_append] at hp
    exact ⟨(l.noP p hp).2.1, (l.noP p hp).1, (l.noP p hp).2.2.1⟩
theorem se_tup {x1} (h : SA G X Wx es t) : SE G X Wx (.Tuple es x1 pos) (eTup t) := by
  refine pe_imp (pe_tup h) ?_
  rintro σ H Q ⟨g, env, ds, s, h⟩
  refine ⟨g, env, ds, s, ?_⟩
  unfold eTup at h
  cases e1 : t env with
  | stuck => rw [e1] at h; exact h.elim
  | exc c e2 => rw [e1] at h; exact h
  | ok evs e2 =>
    simp only [e1] at h
    split at h
    · rename_i hz
      intro g1 vs H1 k1 s1
      refine ⟨by rw [← s1.len]; exact big_size hz, fun p hp => ?_⟩
      unfold tupE at h
      cases e3 : allW evs with
      | some ws =>
        simp only [e3] at h
        obtain ⟨ds1, es1, s2, l⟩ := s1
        have kn := Keep.new (o := .tup vs) hp s2
        exact h g1 _ _ (k1.trans kn) ((s2.new hp).im ⟨p, vs, rfl, upd_same, (evL_im l e3).keep kn.kz⟩)
      | none =>
        simp only [e3] at h
        cases e4 : toTs evs with
        | none => simp only [e4, Option.map_none] at h; exact h.elim
        | some ts =>
          simp only [e4, Option.map_some] at h
          obtain ⟨_, _, s3, k3⟩ := s1.node e4 hp
          exact h g1 _ _ (k1.trans k3) s3
    · exact h.elim
theorem se_lst (h : SA G X Wx es t) : SE G X Wx (.List es pos) (eLst t) := by
  refine pe_imp (pe_lst h) ?_
  rintro σ H Q ⟨g, env, ds, s, h⟩
  refine ⟨g, env, ds, s, ?_⟩
  unfold eLst at h
  cases e1 : t env with
  | stuck => rw [e1] at h; exact h.elim
  | exc c e2 => rw [e1] at h; exact h
  | ok evs e2 =>
    simp only [e1] at h
    split at h
    · rename_i hz
      intro g1 vs H1 k1 s1
      refine ⟨by rw [← s1.len]; exact big_size hz, fun p hp => ?_⟩
      cases e4 : toTs evs with
      | none => simp only [e4] at h; exact h.elim
      | some ts =>
        simp only [e4] at h
        obtain ⟨s3, k3, _⟩ := s1.node e4 hp
        exact h g1 _ _ (k1.trans k3) s3
    · exact h.elim
theorem SimE.kid {ob : EV} {v : V} {x c : T} {st : Step} (s : SimE G g env σ H ob v) (hx : VL.rd env ob = some x) (hk : x.kid st = some c) : ∃ i a ow us u, x.pos st = some i ∧ Shell G g.Z H v us a ow x ∧ us[i]? = some u ∧ us.length = x.kids.length ∧ SimE G g env σ H (kidEV ob st c) u := by
  obtain ⟨ds, d, s, r⟩ := s
  obtain ⟨e, re⟩ := r.rd s hx
  obtain ⟨i, h1, h2⟩ := Option.bind_eq_some_iff.mp hk
  -- the part within a known decor
  have part : ∀ e, RepT G g.Z H x v e → ∃ a ow us u es ec, e = .nd a ow es ∧ Shell G g.Z H v us a ow x ∧ us[i]? = some u ∧ us.length = x.kids.length ∧ es[i]? = some ec ∧ RepT G g.Z H c u ec := fun e re => by
    obtain ⟨a, ow, us, es, rfl, sh, rl⟩ := repT_iff.mp re
    obtain ⟨u, ec, q1, q2, q3⟩ := rl.get h2
    exact ⟨a, ow, us, u, es, ec, rfl, sh, q1, rl.len.1, q2, q3⟩
  cases c with
  | im w =>
    obtain ⟨a, ow, us, u, es, ec, rfl, sh, q1, q2, q3, q4⟩ := part e re
    exact ⟨i, a, ow, us, u, h1, sh, q1, q2, s.im q4.2⟩
  | _ =>
    cases ob with
    | im w => cases hx; simp [T.kid, T.pos] at hk
    | tmp t0 =>
      cases hx
      obtain ⟨r1, r2, r3, r4⟩ := r
      obtain ⟨a, ow, us, u, es, ec, rfl, sh, q1, q2, q3, q4⟩ := part d r1
      simp only [fp] at r3 r4
      exact ⟨i, a, ow, us, u, h1, sh, q1, q2, ds, ec, s, q4, rfl, fps_get (List.nodup_append.mp r3).2.1 q3, fun p hp => r4 p (List.mem_append_right _ (mem_fps (List.mem_of_getElem? q3) hp))⟩
    | ptr k π =>
      obtain ⟨_, b, p, L, t, rfl, h3, h4⟩ := r
      have hx' : t.getP π = some x := by simpa only [VL.rd, h3] using hx
      obtain ⟨v0, o1, o2, o3, o4, o5, o6⟩ := s.own _ _ _ _ h3
      obtain ⟨u', e', out, r1, r2, r3, _⟩ := o2.lens hx'
      have hb := r3 []
      rw [List.append_nil, h4] at hb
      rw [adr_val r1 hb.symm] at r1
      obtain ⟨a, ow, us, u, es, ec, rfl, sh, q1, q2, q3, q4⟩ := part e' r1
      refine ⟨i, a, ow, us, u, h1, sh, q1, q2, ds, .z, s, rfl, ?_⟩
      obtain ⟨bb, b1, b2⟩ := adr_root q4 rfl
      refine ⟨bb, p, L, t, b2, h3, ?_⟩
      rw [r3]
      simp only [adr, h1, h2, q3, Option.bind_some]
      exact b1
theorem zipK_get {f : String} : ∀ {ns : List String} {us : List V} {i : Nat} {u : V}, (ns.findIdx? fun n => decide (n = f)) = some i → us[i]? = some u → (zipK Str.ofString ns us).lookup (Str.ofString f) = some u
  | [], us, i, u, h, _ => by simp at h
  | n :: ns, [], i, u, _, h => by simp at h
  | n :: ns, x :: us, i, u, h, h' => by
    show List.lookup _ ((Str.ofString n, x) :: zipK Str.ofString ns us) = some u
    rw [List.lookup_cons]
    rw [List.findIdx?_cons] at h
    by_cases q : n = f
    · subst q
      simp at h
      subst h
      rw [List.getElem?_cons_zero] at h'
      cases h'
      simp
    · simp [q] at h
      obtain ⟨j, h1, rfl⟩ := h
      rw [List.getElem?_cons_succ] at h'
      have : (Str.ofString f == Str.ofString n) = false := by
        rw [beq_eq_false_iff_ne]
        exact fun z => q (ofString_inj z).symm
      rw [this]
      exact zipK_get h1 h'
theorem RepF.get {Z : Addr → Prop} {f : String} : ∀ {fs : List (String × W)} {vs : List (Str × V)} {w : W}, RepF G Z H fs vs → fget f fs = some w → ∃ v, vs.lookup (Str.ofString f) = some v ∧ Rep G Z H w v
  | (n, x) :: r, _, w, ⟨v, rr, e, a, b⟩, h => by
    subst e
    unfold fget at h
    by_cases q : n = f
    · rw [if_pos q] at h
      cases h
      subst q
      exact ⟨v, by simp [List.lookup], a⟩
    · rw [if_neg q] at h
      obtain ⟨u, h1, h2⟩ := RepF.get b h
      refine ⟨u, ?_, h2⟩
      rw [List.lookup_cons]
      have : (Str.ofString f == Str.ofString n) = false := by
        rw [beq_eq_false_iff_ne]
        exact fun z => q (ofString_inj z).symm
      rw [this]; exact h1
theorem fldE_run {f C : String} {ob ev : EV} {v : V} (s : SimE G g env σ H ob v) (h : fldE f ob env = some (C, ev)) : ∃ q dx vs u, v = .ref q ∧ H q = some (.ins (G.cA C) dx vs) ∧ vs.lookup (Str.ofString f) = some u ∧ SimE G g env σ H ev u := by
  unfold fldE at h
  split at h
  · rename_i C' fs hx
    obtain ⟨w, h1, h2⟩ := Option.map_eq_some_iff.mp h
    cases h2
    obtain ⟨d, r⟩ := s.rd hx
    obtain ⟨_, q, dx, vs, rfl, _, hq, rf⟩ := r
    obtain ⟨u, l, ru⟩ := rf.get h1
    exact ⟨q, dx, vs, u, rfl, hq, l, s.n.im ru⟩
  · rename_i C' fs hx
    obtain ⟨c, h1, h2⟩ := Option.map_eq_some_iff.mp h
    cases h2
    obtain ⟨i, a, ow, us, u, hp, sh, hu, _, s2⟩ := s.kid hx h1
    obtain ⟨q, dx, rfl, _, _, hq⟩ := sh
    refine ⟨q, dx, _, u, rfl, hq.1, zipK_get ?_ hu, s2⟩
    have hp' : fs.findIdx? (fun q => decide (q.1 = f)) = some i := hp
    rw [← hp', List.findIdx?_map]
    rfl
  · cases h
theorem se_fld {L : List String} {f : String} (hf : FldOk X.K G L f) (he : SE G X Wx e fe) (hb : attributeBase e (Str.ofString f) X.env (eval e X.env) = eval e X.env := by rfl) : SE G X Wx (.Attribute e (Str.ofString f) pos) (eFld L f fe) := by
  refine pe_imp (pe_fld he hb) ?_
  rintro σ H Q ⟨g, env, ds, s, h⟩
  refine ⟨g, env, ds, s, ?_⟩
  unfold eFld at h
  cases e1 : fe env with
  | stuck => rw [e1] at h; exact h.elim
  | exc c e2 => rw [e1] at h; exact h
  | ok ob e2 =>
    simp only [e1] at h
    intro g1 v H1 k1 s1
    cases e3 : fldE f ob e2 with
    | none => simp only [e3] at h; exact h.elim
    | some q =>
      obtain ⟨C, ev⟩ := q
      simp only [e3] at h
      split at h
      · rename_i hC
        obtain ⟨q, dx, vs, u, rfl, hq, hl, s2⟩ := fldE_run s1 e3
        exact ⟨q, _, dx, vs, u, rfl, hq, (hf C hC).1, (hf C hC).2, hl, h g1 u H1 k1 s2⟩
      · exact h.elim
def seqW : W → Option (List W)
  | .tup ws => some ws
  | .lst ws => some ws
  | .scr ws => some ws
  | .ktp ws => some ws
  | _ => none
def ixI (ob : EV) (x : T) (i : Int) : Option EV := match x with
  | .im (.str s) => if s.length ≤ 10000000 then (atI s.toList i).map fun c => .im (.str (String.singleton c)) else none
  | .im w => (seqW w).bind fun ws => (atI ws i).map EV.im
  | .ml xs => (ixN xs.length i).bind fun j => (x.kid (.idx j)).map (kidEV ob (.idx j))
  | .tp xs => (ixN xs.length i).bind fun j => (x.kid (.idx j)).map (kidEV ob (.idx j))
  | _ => none
def ixE (ob ix : EV) (env : Env3) : Option EV := match ix with
  | .im (.int i) => (rd env ob).bind fun x => ixI ob x i
  | _ => none
def eIx (fo fi : M3 EV) : M3 EV := fun env => match ePair fo fi env with
  | .ok (x, y) e1 => (match ixE x y e1 with
    | some ev => .ok ev e1
    | none => .stuck)
  | .exc c e1 => .exc c e1
  | .stuck => .stuck
theorem RepL.get {Z : Addr → Prop} : ∀ {xs : List W} {vs : List V} {i : Nat} {w : W}, RepL G Z H xs vs → xs[i]? = some w → ∃ v, vs[i]? = some v ∧ Rep G Z H w v
  | x :: xs, _, 0, w, ⟨v, r, e, a, b⟩, h => by
    subst e
    rw [List.getElem?_cons_zero] at h
    cases h
    exact ⟨v, rfl, a⟩
  | x :: xs, _, i + 1, w, ⟨v, r, e, a, b⟩, h => by
    subst e
    rw [List.getElem?_cons_succ] at h
    simpa using RepL.get b h
theorem atI_rep {Z : Addr → Prop} {xs : List W} {vs : List V} {i : Int} {w : W} (r : RepL G Z H xs vs) (h : atI xs i = some w) : ∃ v, atI vs i = some v ∧ Rep G Z H w v := by
  unfold atI at h ⊢
  rw [r.length]
  obtain ⟨j, e1, e2⟩ := Option.bind_eq_some_iff.mp h
  obtain ⟨v, h1, h2⟩ := r.get e2
  exact ⟨v, by rw [e1]; exact h1, h2⟩
theorem ofString_single (c : Char) : Str.ofString (String.singleton c) = ⟨#[c.toNat]⟩ := by
  rw [Str.ofString_eq_toList]
  simp
theorem ofString_cps (s : String) : (Str.ofString s).cps.toList = s.toList.map Char.toNat := by
  rw [Str.ofString_eq_toList]
theorem atI_map {α β : Type} (f : α → β) (xs : List α) (i : Int) : atI (xs.map f) i = (atI xs i).map f := by
  unfold atI
  rw [List.length_map]
  cases ixN xs.length i with
  | none => rfl
  | some j => simp
theorem ixR_imp {r r' : R2} (h : IxR X r) (i : ∀ x y H Q, r' x y H Q → r x y H Q) : IxR X r' := fun value slice pins s σ H x y v u Q I rx ry q hs => h value slice pins s σ H x y v u Q I rx ry (i _ _ _ _ q) hs
theorem ixR_or {r1 r2 : R2} (h1 : IxR X r1) (h2 : IxR X r2) : IxR X (fun x y H Q => r1 x y H Q ∨ r2 x y H Q) := fun value slice pins s σ H x y v u Q I rx ry q hs => q.elim (fun q => h1 value slice pins s σ H x y v u Q I rx ry q hs) (fun q => h2 value slice pins s σ H x y v u Q I rx ry q hs)
def lift2 (G : Gm) (r : EV → EV → Env3 → Option EV) : R2 := fun x y H Q => ∃ g env σ ob iv ev, SimA G g env σ H [ob, iv] [x, y] ∧ r ob iv env = some ev ∧ ∀ g' v H', Keep g H g' H' → SimE G g' env σ H' ev v → Q v H'
theorem eIx_mid {r : EV → EV → Env3 → Option EV} {σ : L2.St} {H : Hp} {Q : VK} (h : liftE G Wx (fun env => match ePair fa fb env with
    | .ok (x, y) e1 => (match r x y e1 with
      | some ev => .ok ev e1
      | none => .stuck)
    | .exc c e1 => .exc c e1
    | .stuck => .stuck) σ H Q) : tOp (lift2 G r) (liftE G Wx fa) (liftE G Wx fb) σ H Q := by
  obtain ⟨g, env, ds, s, h⟩ := h
  refine pair_run (Q := fun v u H2 => lift2 G r v u H2 Q) s ?_
  cases e : ePair fa fb env with
  | stuck => simp only [e] at h; exact h.elim
  | exc c env2 => simp only [e] at h; exact h
  | ok xy env2 =>
    obtain ⟨x, y⟩ := xy
    simp only [e] at h
    intro g2 v u H2 k2 s2
    cases e2 : r x y env2 with
    | none => simp only [e2] at h; exact h.elim
    | some ev =>
      simp only [e2] at h
      exact ⟨g2, env2, σ, x, y, ev, s2, e2, fun g' v' H' k' s' => h g' v' H' (k2.trans k') s'⟩
theorem SimA.snd {x y : EV} {v u : V} (s : SimA G g env σ H [x, y] [v, u]) : SimE G g env σ H y u := s.tl.hd
theorem SimE.imR {w : W} {v : V} (s : SimE G g env σ H (.im w) v) : Rep G g.Z H w v := let ⟨_, _, _, r⟩ := s; r.2
theorem ixI_run {ob : EV} {x : T} {v : V} {i : Int} {ev : EV} (hK : X.K = G.K) (s : SimE G g env σ H ob v) (hx : rd env ob = some x) (h : ixI ob x i = some ev) : (∃ p vs u, v = .ref p ∧ (SqL X.K H p vs ∨ SqT X.K H p vs) ∧ atI vs i = some u ∧ SimE G g env σ H ev u) ∨
    ∃ z c, v = .str z ∧ z.length ≤ sizeLine ∧ atI z.cps.toList i = some c ∧ SimE G g env σ H ev (.str ⟨#[c]⟩) := by
  obtain ⟨d, r⟩ := s.rd hx
  have row : ∀ ws vs q, v = .ref q → RepL G g.Z H ws vs → (SqL X.K H q vs ∨ SqT X.K H q vs) → (atI ws i).map EV.im = some ev → (∃ p vs u, v = .ref p ∧ (SqL X.K H p vs ∨ SqT X.K H p vs) ∧ atI vs i = some u ∧ SimE G g env σ H ev u) := fun ws vs q hq rl sq ha => by
    obtain ⟨w, h1, rfl⟩ := Option.map_eq_some_iff.mp ha
    obtain ⟨u, h2, h3⟩ := atI_rep rl h1
    exact ⟨q, vs, u, hq, sq, h2, s.n.im h3⟩
  have node : ∀ xs, x.kids = xs → (∀ j, x.pos (.idx j) = some j) → (∀ us a ow, Shell G g.Z H v us a ow x → ∃ q, v = .ref q ∧ (SqL X.K H q us ∨ SqT X.K H q us)) → ((ixN xs.length i).bind fun j => (x.kid (.idx j)).map (kidEV ob (.idx j))) = some ev → (∃ p vs u, v = .ref p ∧ (SqL X.K H p vs ∨ SqT X.K H p vs) ∧ atI vs i = some u ∧ SimE G g env σ H ev u) := fun xs hk hp hs hb => by
    obtain ⟨j, h1, h2⟩ := Option.bind_eq_some_iff.mp hb
    obtain ⟨c, h3, rfl⟩ := Option.map_eq_some_iff.mp h2
    obtain ⟨n, a, ow, us, u, q1, q2, q3, q4, q5⟩ := s.kid hx h3
    rw [hp] at q1; cases q1
    obtain ⟨q, rfl, sq⟩ := hs us a ow q2
    refine ⟨q, us, u, rfl, sq, ?_, q5⟩
    unfold atI
    rw [q4, hk, h1]; exact q3
  unfold ixI at h
  split at h
  · rename_i z
    split at h
    · rename_i hz
      obtain ⟨c, h1, rfl⟩ := Option.map_eq_some_iff.mp h
      refine .inr ⟨Str.ofString z, c.toNat, r.2, by rw [ofString_len]; exact big_size hz, ?_, ?_⟩
      · rw [ofString_cps, atI_map, h1]; rfl
      · rw [← ofString_single]; exact s.n.im rfl
    · cases h
  · rename_i w hne
    left
    obtain ⟨ws, h1, h2⟩ := Option.bind_eq_some_iff.mp h
    obtain ⟨_, r⟩ := r
    cases w with
    | tup ys => cases h1; obtain ⟨q, vs, e, hq, rl⟩ := r; exact row _ vs q e rl (.inr (SqT.of hq)) h2
    | lst ys => cases h1; obtain ⟨q, vs, e, _, hq, rl⟩ := r; exact row _ vs q e rl (.inl (SqL.of hq)) h2
    | scr ys => cases h1; obtain ⟨q, vs, e, hq, rl⟩ := r; exact row _ vs q e rl (.inl (by rw [hK]; exact hq.seq)) h2
    | ktp ys => cases h1; obtain ⟨q, vs, e, hq, rl⟩ := r; exact row _ vs q e rl (.inr (by rw [hK]; exact hq)) h2
    | _ => cases h1
  · rename_i xs
    left
    exact node xs rfl (fun _ => rfl) (fun us a ow sh => by obtain ⟨q, e, _, _, hq⟩ := sh; exact ⟨q, e, .inl (SqL.of hq)⟩) h
  · rename_i xs
    left
    exact node xs rfl (fun _ => rfl) (fun us a ow sh => by obtain ⟨q, e, _, _, hq⟩ := sh; exact ⟨q, e, .inr (SqT.of hq)⟩) h
  · cases h
theorem ix_all (hK : X.K = G.K) : IxR X (lift2 G ixE) := by
  refine ixR_imp (ixR_or (ix_list (X := X)) (ixR_or (ix_tup (X := X)) ix_str)) ?_
  rintro x y H Q ⟨g, env, σ, ob, iv, ev, s, q, k⟩
  unfold ixE at q
  split at q
  · rename_i i
    obtain ⟨u, h1, h2⟩ := Option.bind_eq_some_iff.mp q
    have ry : y = .int i := s.snd.imR
    rcases ixI_run hK s.hd h1 h2 with ⟨p, vs, u, rfl, sq, ha, s2⟩ | ⟨z, c, rfl, hz, ha, s2⟩
    · rcases sq with sq | sq
      · exact .inl ⟨p, vs, i, u, rfl, ry, sq, ha, k g u H (Keep.refl g H) s2⟩
      · exact .inr (.inl ⟨p, vs, i, u, rfl, ry, sq, ha, k g u H (Keep.refl g H) s2⟩)
    · exact .inr (.inr ⟨z, i, c, rfl, ry, hz, ha, k g _ H (Keep.refl g H) s2⟩)
  · cases q
end
end VL
namespace VL
open PySem L2 PyProof.Rows
def T.wr : T → Bool
  | .im _ => false
  | .tp _ => false
  | _ => true
theorem T.wr_mut : ∀ {t : T}, t.wr = true → t.mut = true
  | .im _, h => by cases h
  | .tp _, _ => rfl
  | .ml _, _ => rfl
  | .md _, _ => rfl
  | .mt _, _ => rfl
  | .mi _ _, _ => rfl
def evOf : T → EV
  | .im w => .im w
  | t => .tmp t
section
variable {X : Cx} {G : Gm} {Wx : WX} {g g' : Gh} {env env' : Env3} {σ : L2.St} {H H' : Hp} {ds : Nat → D} {p pos apos cpos : Pos} {e o a b : Expr} {es : List Expr} {fa fb fe fo : M3 EV} {t : M3 (List EV)}
theorem evOf_mut {t : T} (h : t.mut = true) : evOf t = .tmp t := by cases t <;> first | rfl | cases h
theorem shell_own {Z : Addr → Prop} {v : V} {us : List V} {a : Option Addr} {ow : Bool} {x : T} (h : Shell G Z H v us a ow x) (hw : x.wr = true) : ∃ p, v = .ref p ∧ a = some p ∧ ow = true := by
  cases x with
  | im _ => cases hw
  | tp _ => cases hw
  | ml _ => obtain ⟨p, h1, h2, h3, _⟩ := h; exact ⟨p, h1, h2, h3⟩
  | md _ => obtain ⟨p, _, _, h1, h2, h3, _⟩ := h; exact ⟨p, h1, h2, h3⟩
  | mt _ => obtain ⟨p, _, _, h1, h2, h3, _⟩ := h; exact ⟨p, h1, h2, h3⟩
  | mi _ _ => obtain ⟨p, _, h1, h2, h3, _⟩ := h; exact ⟨p, h1, h2, h3⟩
theorem EvL.fpn : ∀ {evs : List EV} {vs : List V} {es : List D}, EvL G g env H ds evs vs es → (fps es).Nodup
  | [], _, _, h => by rw [h.2]; exact List.nodup_nil
  | e :: r, vs, es, ⟨v, vr, d, dr, e1, e2, a, b, c⟩ => by
    subst e2
    simp only [fps]
    refine List.nodup_append.mpr ⟨?_, b.fpn, fun p hp q hq e => by subst e; exact c p hp hq⟩
    cases e with
    | im w => rw [a.1, fp_z]; exact List.nodup_nil
    | tmp t => exact a.2.2.1
    | ptr k π => rw [a.1, fp_z]; exact List.nodup_nil
theorem SimA.wr {k : Nat} {ρ : Path} {evs : List EV} {v : V} {vs : List V} (s : SimA G g env σ H (.ptr k ρ :: evs) (v :: vs)) {x : T} (hx : rd env (.ptr k ρ) = some x) (hw : x.wr = true) (hl : ∀ p L t, env[k]? = some (some (SV.own p L t)) → lockOk L ρ = true) :
    ∃ a us dk es, v = .ref a ∧ Shell G g.Z H (.ref a) us (some a) true x ∧ RepTL G g.Z H x.kids us dk ∧ (∀ ts, toTs evs = some ts → RepTL G g.Z H ts vs es) ∧ (∀ ws, allW evs = some ws → RepL G g.Z H ws vs) ∧ (fps dk).Nodup ∧ (fps es).Nodup ∧ a ∉ fps dk ∧ (∀ p ∈ fps dk, p ∉ fps es) ∧
      (∀ o', KeepZ g.Z H g.Z (L2.upd H a o')) ∧ Mut (H a) ∧
      ∀ o' y us' dk' (w' : T) u' d' kp, Shell G g.Z (L2.upd H a o') (.ref a) us' (some a) true y → RepTL G g.Z H y.kids us' dk' → y.wr = true → RepT G g.Z H w' u' d' → (fps dk' ++ fp d').Nodup → (∀ q ∈ fps dk' ++ fp d', q ∈ fps dk ∨ q ∈ fps es) →
        (kp = true → ∀ π' b, adr x (.nd (some a) true dk) π' = some b → adr y (.nd (some a) true dk') π' = some b) →
        ∃ env', wrS kp k ρ y env = some env' ∧ Keep g H g (L2.upd H a o') ∧ SimE G g env' σ (L2.upd H a o') (evOf w') u' := by
  obtain ⟨ds, es0, s, v0, vr, d0, es, e1, e2, r0, l, dj⟩ := s
  cases e1; subst e2
  obtain ⟨rfl, a, pp, L, t, rfl, h1, h2⟩ := r0
  have hx' : t.getP ρ = some x := by simpa only [VL.rd, h1] using hx
  obtain ⟨u, e, rx, re, ine, nde, nlk, kk⟩ := s.lens h1 hx' (hl _ _ _ h1)
  obtain ⟨a', ow, us, dk, rfl, sh, rl⟩ := repT_iff.mp rx
  have ea : adr x (D.nd a' ow dk) [] = some a := by rw [← re]; exact h2
  have ea' : a' = some a := by simpa [adr] using ea
  subst ea'
  obtain ⟨q, e3, e4, rfl⟩ := shell_own sh hw
  cases e4; subst e3
  have fpe : fp (D.nd (some a) true dk) = a :: fps dk := by simp [fp]
  rw [fpe] at ine nde nlk kk
  have nd2 := List.nodup_cons.mp nde
  have ina := ine a (List.mem_cons_self ..)
  have noE : ∀ p ∈ fps es, (∀ i, p ∉ fp (ds i)) := fun p hp => (l.noP p hp).2.2.1
  have kz : ∀ o', KeepZ g.Z H g.Z (L2.upd H a o') := fun o' => by
    obtain ⟨ob, hob, mu⟩ := s.there ina
    refine ⟨fun p hp => ⟨hp, upd_ne fun e => ?_⟩, fun b xs hb => ?_, FK.mut hob mu⟩
    · subst e; exact (s.no k p ina).1 hp
    · rw [upd_ne fun e => ?_]; exact hb
      subst e; rw [hb] at hob; cases hob; exact mu
  have mu : Mut (H a) := by
    obtain ⟨ob, hob, mu⟩ := s.there ina
    rw [hob]; exact mu
  refine ⟨a, us, dk, es, rfl, sh, rl, fun ts ht => evL_T l ht, fun ws hws => evL_im l hws, nd2.2, l.fpn, nd2.1, fun p hp hq => noE p hq k (ine p (List.mem_cons_of_mem _ hp)), kz, mu, fun o' y us' dk' w' u' d' kp sh' rl' yw rw' nd' inn kpc => ?_⟩
  have hup : ∀ q, q ≠ a → L2.upd H a o' q = H q := fun q h => upd_ne h
  have inn1 : ∀ q ∈ fps dk' ++ fp d', q ≠ a := fun q hq e => by
    subst e
    rcases inn q hq with z | z
    · exact nd2.1 z
    · exact noE q z k ina
  have kp1 : Keep g H g (L2.upd H a o') := by
    have kz := kz o'
    refine ⟨kz.z, fun p hp => ⟨hp, hup p fun e => ?_⟩, fun _ z => z, kz.tups, kz.frzs, rfl, rfl, rfl, fun i q hq => hup _ fun e => ?_⟩
    · subst e; exact (s.no k p ina).2 hp
    · exact nlk i q hq (by rw [e]; exact List.mem_cons_self ..)
  have n3 := List.nodup_append.mp nd'
  have ry : RepT G g.Z (L2.upd H a o') y (.ref a) (D.nd (some a) true dk') :=
    repT_iff.mpr ⟨some a, true, us', dk', rfl, sh', rl'.keep (kz o') fun p hp => hup p (inn1 p (List.mem_append_left _ hp))⟩
  have fpy : fp (D.nd (some a) true dk') = a :: fps dk' := by simp [fp]
  obtain ⟨t', ds', w1, w2, w3, w4⟩ := kk g (L2.upd H a o') y (D.nd (some a) true dk') kp kp1 (fun i q hq hn => ⟨hup q fun e => hn (by rw [e]; exact List.mem_cons_self ..), (s.no i q hq).1⟩) ry (T.wr_mut yw) (T.wr_mut hw)
    (by rw [fpy]; exact List.nodup_cons.mpr ⟨fun z => inn1 a (List.mem_append_left _ z) rfl, n3.1⟩)
    (fun q hq => by
      rw [fpy] at hq
      rcases List.mem_cons.mp hq with rfl | hq
      · exact ⟨(s.no k q ina).1, (s.no k q ina).2, .inl (List.mem_cons_self ..)⟩
      · rcases inn q (List.mem_append_left _ hq) with z | z
        · have := ine q (List.mem_cons_of_mem _ z)
          exact ⟨(s.no k q this).1, (s.no k q this).2, .inl (List.mem_cons_of_mem _ z)⟩
        · exact ⟨(l.noP q z).2.1, (l.noP q z).1, .inr (noE q z)⟩)
    (fun p hp => ⟨(s.zt p hp).1, upd_st (s.zt p hp).2 fun e => (s.no k p (by rw [e]; exact ina)).1 hp⟩) (fun p hp => upd_st (s.pt.1 p hp) fun e => (s.no k p (by rw [e]; exact ina)).2 hp) kpc
  refine ⟨_, w1, kp1, ds', d', w2, ?_⟩
  have rw2 : RepT G g.Z (L2.upd H a o') w' u' d' := rw'.keep (kz o') fun p hp => hup p (inn1 p (List.mem_append_right _ hp))
  have dq : ∀ q ∈ fp d', ¬ g.Z q ∧ ¬ g.P q ∧ ∀ i, q ∉ fp (ds' i) := fun q hq => by
    have cases' := inn q (List.mem_append_right _ hq)
    refine ⟨?_, ?_, fun i z => ?_⟩
    · rcases cases' with z | z
      · exact (s.no k q (ine q (List.mem_cons_of_mem _ z))).1
      · exact (l.noP q z).2.1
    · rcases cases' with z | z
      · exact (s.no k q (ine q (List.mem_cons_of_mem _ z))).2
      · exact (l.noP q z).1
    · rcases w3 i q z with ⟨z1, z2⟩ | ⟨_, z1⟩
      · rcases cases' with y1 | y1
        · exact z2 (List.mem_cons_of_mem _ y1)
        · exact noE q y1 i z1
      · rw [fpy] at z1
        rcases List.mem_cons.mp z1 with y1 | y1
        · exact inn1 q (List.mem_append_right _ hq) y1
        · exact n3.2.2 q y1 q hq rfl
  by_cases hm : w'.mut = true
  · rw [evOf_mut hm]
    exact ⟨rw2, hm, n3.2.1, dq⟩
  · cases w' with
    | im w => exact rw2
    | _ => exact absurd rfl hm
end
end VL
namespace VL
open PySem L2 PyProof.Rows
def T.stp : T → Nat → Step
  | .md kvs, i => match kvs[i]? with
    | some q => .key q.1
    | none => .idx i
  | .mi _ fs, i => match fs[i]? with
    | some q => .fld q.1
    | none => .idx i
  | _, i => .idx i
def pthN : Nat → T → List Path
  | 0, _ => []
  | n + 1, t => if t.mut = true then [] :: (List.range t.kids.length).flatMap fun i => match t.kids[i]? with
    | some c => (pthN n c).map (t.stp i :: ·)
    | none => []
    else []
noncomputable def pthT (t : T) : List Path := pthN (sizeOf t) t
theorem kids_lt {t c : T} (h : c ∈ t.kids) : sizeOf c < sizeOf t := by
  cases t with
  | im w => cases h
  | mt _ => cases h
  | ml xs => have := List.sizeOf_lt_of_mem (show c ∈ xs from h); simp only [T.ml.sizeOf_spec]; omega
  | tp xs => have := List.sizeOf_lt_of_mem (show c ∈ xs from h); simp only [T.tp.sizeOf_spec]; omega
  | md kvs =>
    obtain ⟨q, h1, rfl⟩ := List.mem_map.mp (show c ∈ kvs.map (·.2) from h)
    have := List.sizeOf_lt_of_mem h1
    have h2 : sizeOf q.2 < sizeOf q := by cases q; simp; omega
    simp only [T.md.sizeOf_spec]; omega
  | mi C fs =>
    obtain ⟨q, h1, rfl⟩ := List.mem_map.mp (show c ∈ fs.map (·.2) from h)
    have := List.sizeOf_lt_of_mem h1
    have h2 : sizeOf q.2 < sizeOf q := by cases q; simp; omega
    simp only [T.mi.sizeOf_spec]; omega
theorem idx_nodup {α β : Type} [DecidableEq α] : ∀ {l : List (α × β)} {i : Nat} {q : α × β}, (l.map (·.1)).Nodup → l[i]? = some q → l.findIdx? (fun z => decide (z.1 = q.1)) = some i
  | [], i, q, _, h => by simp at h
  | x :: r, i, q, hn, h => by
    rw [List.map_cons, List.nodup_cons] at hn
    rw [List.findIdx?_cons]
    cases i with
    | zero => rw [List.getElem?_cons_zero] at h; cases h; simp
    | succ j =>
      rw [List.getElem?_cons_succ] at h
      have hne : x.1 ≠ q.1 := fun e => hn.1 (e ▸ List.mem_map.mpr ⟨q, List.mem_of_getElem? h, rfl⟩)
      simp only [hne, decide_false, Bool.false_eq_true, if_false]
      rw [idx_nodup hn.2 h]; rfl
section
variable {X : Cx} {G : Gm} {Wx : WX} {g g' : Gh} {env env' : Env3} {σ : L2.St} {H H' : Hp} {ds : Nat → D} {Z : Addr → Prop}
theorem pos_stp {t c : T} {v : V} {us : List V} {a : Option Addr} {ow : Bool} {i : Nat} (sh : Shell G Z H v us a ow t) (h : t.kids[i]? = some c) : t.pos (t.stp i) = some i := by
  cases t with
  | im w => cases h
  | mt _ => cases h
  | ml xs => rfl
  | tp xs => rfl
  | md kvs =>
    obtain ⟨_, _, _, _, _, _, _, _, _, hn⟩ := sh
    have h' : (kvs.map (·.2))[i]? = some c := h
    rw [List.getElem?_map] at h'
    obtain ⟨q, h1, rfl⟩ := Option.map_eq_some_iff.mp h'
    simp only [T.stp, h1, T.pos]
    exact idx_nodup hn h1
  | mi C fs =>
    obtain ⟨_, _, _, _, _, _, hn⟩ := sh
    have h' : (fs.map (·.2))[i]? = some c := h
    rw [List.getElem?_map] at h'
    obtain ⟨q, h1, rfl⟩ := Option.map_eq_some_iff.mp h'
    simp only [T.stp, h1, T.pos]
    exact idx_nodup hn h1
theorem adr_cons {t c : T} {a : Option Addr} {ow : Bool} {dk : List D} {e : D} {s : Step} {i : Nat} {π : Path} (h1 : t.pos s = some i) (h2 : t.kids[i]? = some c) (h3 : dk[i]? = some e) : adr t (.nd a ow dk) (s :: π) = adr c e π := by
  simp only [adr, h1, h2, h3, Option.bind_some]
theorem pth_mem {n : Nat} {t : T} {π : Path} : π ∈ pthN (n + 1) t ↔ t.mut = true ∧ (π = [] ∨ ∃ i c ρ, t.kids[i]? = some c ∧ ρ ∈ pthN n c ∧ π = t.stp i :: ρ) := by
  simp only [pthN]
  by_cases hm : t.mut = true
  · simp only [hm, if_true, List.mem_cons, List.mem_flatMap, List.mem_range, true_and]
    refine or_congr Iff.rfl ⟨?_, ?_⟩
    · rintro ⟨i, hi, h⟩
      cases e : t.kids[i]? with
      | none => simp only [e] at h; cases h
      | some c =>
        simp only [e] at h
        obtain ⟨ρ, h1, rfl⟩ := List.mem_map.mp h
        exact ⟨i, c, ρ, e, h1, rfl⟩
    · rintro ⟨i, c, ρ, h1, h2, rfl⟩
      exact ⟨i, get_lt h1, by simp only [h1]; exact List.mem_map.mpr ⟨ρ, h2, rfl⟩⟩
  · simp only [hm, Bool.false_eq_true, if_false, false_and, iff_false]
    exact List.not_mem_nil
theorem pth_def : ∀ {n : Nat} {t : T} {v : V} {d : D} {π : Path}, RepT G Z H t v d → π ∈ pthN n t → ∃ a, adr t d π = some a
  | 0, _, _, _, _, _, h => by cases h
  | n + 1, t, v, d, π, r, h => by
    obtain ⟨hm, h⟩ := pth_mem.mp h
    rcases h with rfl | ⟨i, c, ρ, h1, h2, rfl⟩
    · obtain ⟨a, e, _⟩ := adr_root r hm; exact ⟨a, e⟩
    · obtain ⟨a, ow, us, dk, rfl, sh, rl⟩ := repT_iff.mp r
      obtain ⟨u, e, _, h3, h4⟩ := rl.get h1
      rw [adr_cons (pos_stp sh h1) h1 h3]
      exact pth_def h4 h2
theorem pth_cov : ∀ {n : Nat} {t : T} {v : V} {d : D} {p : Addr}, RepT G Z H t v d → sizeOf t ≤ n → p ∈ fp d → ∃ π, π ∈ pthN n t ∧ adr t d π = some p
  | 0, t, _, _, _, _, hs, _ => by cases t <;> simp at hs
  | n + 1, t, v, d, p, r, hs, h => by
    obtain ⟨a, ow, us, dk, rfl, sh, rl⟩ := repT_iff.mp r
    have hm : t.mut = true := by
      cases t with
      | im w => obtain ⟨rfl, rfl, _, _⟩ := sh; rw [(show dk = [] from rl.2)] at h; simp [fp, fps] at h
      | _ => rfl
    simp only [fp, List.mem_append] at h
    rcases h with h | h
    · cases ow with
      | false => simp at h
      | true =>
        simp only [if_true, Option.mem_toList] at h
        exact ⟨[], pth_mem.mpr ⟨hm, .inl rfl⟩, by simpa [adr] using h⟩
    · obtain ⟨i, e, h1, h2⟩ := mem_fps_get h
      have hi : i < t.kids.length := by rw [← rl.len.2]; exact get_lt h1
      have hc : t.kids[i]? = some t.kids[i] := by simp [hi]
      obtain ⟨u, e', _, h3, h4⟩ := rl.get hc
      rw [h1] at h3; cases h3
      have hlt := kids_lt (List.getElem_mem hi)
      obtain ⟨ρ, q1, q2⟩ := pth_cov (n := n) h4 (by omega) h2
      exact ⟨t.stp i :: ρ, pth_mem.mpr ⟨hm, .inr ⟨i, _, ρ, hc, q1, rfl⟩⟩, by rw [adr_cons (pos_stp sh hc) hc h1]; exact q2⟩
theorem pth_in : ∀ {n : Nat} {t x : T} {v : V} {d : D} {π : Path}, RepT G Z H t v d → sizeOf t ≤ n → t.getP π = some x → x.mut = true → π ∈ pthN n t
  | 0, t, _, _, _, _, _, hs, _, _ => by cases t <;> simp at hs
  | n + 1, t, x, v, d, [], r, hs, h, hm => by cases h; exact pth_mem.mpr ⟨hm, .inl rfl⟩
  | n + 1, t, x, v, d, s :: π, r, hs, h, hm => by
    obtain ⟨a, ow, us, dk, rfl, sh, rl⟩ := repT_iff.mp r
    obtain ⟨c, h1, h2⟩ := Option.bind_eq_some_iff.mp (show (t.kid s).bind (fun c => c.getP π) = some x from h)
    obtain ⟨i, h3, h4⟩ := Option.bind_eq_some_iff.mp (show (t.pos s).bind (fun i => t.kids[i]?) = some c from h1)
    obtain ⟨u, e, _, h5, h6⟩ := rl.get h4
    have hlt := kids_lt (List.mem_of_getElem? h4)
    have hs' : s = t.stp i := pos_inj h3 (pos_stp sh h4)
    have tm : t.mut = true := by
      cases t with
      | im w => cases h4
      | _ => rfl
    rw [hs']
    exact pth_mem.mpr ⟨tm, .inr ⟨i, c, π, h4, pth_in h6 (by omega) h2 hm, rfl⟩⟩
noncomputable def lkT (t : T) (d : D) : List (Path × Addr) := (pthT t).map fun π => (π, (adr t d π).getD default)
noncomputable def startSP : T → Option SV
  | .im w => some (.val w)
  | t => some (.own true (pthT t) t)
noncomputable def startP (N : Nat) (ts : List T) : Env3 := ts.map startSP ++ List.replicate (N - ts.length) none
open Classical in
noncomputable def retP (env : Env3) (ts : List T) : EV → Option EV
  | .im w => some (.im w)
  | .tmp t => some (.tmp t)
  | .ptr k π => match env[k]? with
    | some (some (SV.own true _ t)) => if ts[k]? = some t then some (.ptr k π) else none
    | some (some (SV.own false [] t)) => match t.getP π with
      | some (.im w) => some (.im w)
      | some x => some (.tmp x)
      | none => none
    | _ => none
noncomputable def finP (v : EV) (e : Env3) (ts : List T) : FO := match retP e ts v with
  | some v' => .ok v' ts
  | none => .stuck
noncomputable def bodyP (N : Nat) (m : S3) : Fn := fun ts => match m (startP N ts) with
  | .nx e => finP (.im .non) e ts
  | .rt v e => finP v e ts
  | .ex c e => .exc c ts
  | _ => .stuck
def SatP (G : Gm) (g : Gh) (H : Hp) (ts : List T) (es : List D) (Q : VK) (E : XK) : FO → Prop
  | .ok ev _ => ∀ g' v H', Keep g H g' H' → GhOk G g' H' → (∀ p ∈ fps es, H' p = H p ∧ ¬ g'.Z p) → FoR G g' H' ts es ev v → Q v H'
  | .exc c _ => ∀ g' H', Keep g H g' H' → GhOk G g' H' → (∀ p ∈ fps es, H' p = H p ∧ ¬ g'.Z p) → E (.ref (G.cA c)) none H'
  | .stuck => False
noncomputable def spP (G : Gm) (n : Nat) (f : Fn) : Sp := fun vs H Q E => vs.length = n ∧ ∃ g ts es, GhOk G g H ∧ ArgR G g H ts vs es ∧ SatP G g H ts es Q E (f ts)
theorem startP_get {N : Nat} {ts : List T} {i : Nat} {s : SV} (h : (startP N ts)[i]? = some (some s)) : ∃ t, ts[i]? = some t ∧ startSP t = some s := by
  unfold startP at h
  by_cases hi : i < ts.length
  · rw [List.getElem?_append_left (by simpa using hi), List.getElem?_map] at h
    obtain ⟨t, h1, h2⟩ := Option.map_eq_some_iff.mp h
    exact ⟨t, h1, h2⟩
  · rw [List.getElem?_append_right (by simpa using Nat.le_of_not_lt hi)] at h
    rw [List.getElem?_replicate] at h
    split at h <;> cases h
noncomputable def lksT (ts : List T) (es : List D) (i : Nat) : List (Path × Addr) := match ts[i]?, es[i]? with
  | some t, some e => lkT t e
  | _, _ => []
noncomputable def ghP (g : Gh) (ts : List T) (es : List D) : Gh := ⟨g.Z, g.P, fun i => (ts[i]?).bind fun t => (es[i]?).bind fun e => adr t e [], lksT ts es, none⟩
theorem lkT_mem {t : T} {v : V} {d : D} (r : RepT G Z H t v d) : ∀ q ∈ lkT t d, adr t d q.1 = some q.2 := fun q hq => by
  obtain ⟨π, h1, rfl⟩ := List.mem_map.mp hq
  obtain ⟨a, e⟩ := pth_def r h1
  simp only [e, Option.getD_some]
theorem lkT_fst {t : T} {d : D} : (lkT t d).map (·.1) = pthT t := by
  unfold lkT
  rw [List.map_map]
  exact List.map_id' (pthT t)
theorem lkT_im {w : W} {d : D} : lkT (.im w) d = [] := by
  unfold lkT pthT
  cases sizeOf (T.im w) <;> simp [pthN, T.mut]
theorem sim_startP {N : List Str} {ts : List T} {vs : List V} {es : List D} (ok : GhOk G g H) (a : ArgR G g H ts vs es) (hN : ts.length ≤ N.length) : Sim G (ghP g ts es) (startP N.length ts) (L2.start N vs) H (fun i => (es[i]?).getD .z) := by
  have hl := a.r.len
  have sg : ∀ (i : Nat) (v : V), vs[i]? = some v → (L2.start N vs)[i]? = some (some v) := fun i v h => by
    unfold L2.start
    rw [List.getElem?_append_left (by simpa using get_lt h), List.getElem?_map, h]; rfl
  have eg : ∀ (i : Nat) e, es[i]? = some e → (es[i]?).getD D.z = e := fun i e h => by rw [h]; rfl
  have dm : ∀ (i : Nat) p, p ∈ fp ((es[i]?).getD D.z) → ∃ e, es[i]? = some e ∧ p ∈ fp e := fun i p h => by
    cases q : es[i]? with
    | none => rw [q] at h; simp [fp_z] at h
    | some e => rw [q] at h; exact ⟨e, rfl, h⟩
  refine ⟨?_, fun i w h => ?_, fun i p L t h => ?_, fun i k π h => ?_, fun i c h => ?_, fun i h => ?_, fun i => ?_, fun i j p h h' => ?_, fun i p h => ?_, ok.zt, ok.pt⟩
  · unfold startP L2.start
    simp [hl.1]
  · obtain ⟨t, h1, h2⟩ := startP_get h
    cases t with
    | im w' =>
      cases h2
      obtain ⟨v, e, q1, q2, q3⟩ := a.r.get h1
      exact ⟨v, sg i v q1, q3.2⟩
    | _ => cases h2
  · obtain ⟨t', h1, h2⟩ := startP_get h
    obtain ⟨v, e, q1, q2, q3⟩ := a.r.get h1
    have : t' = t ∧ p = true ∧ L = pthT t' ∧ t.mut = true := by
      cases t' <;> cases h2 <;> exact ⟨rfl, rfl, rfl, rfl⟩
    obtain ⟨rfl, rfl, rfl, hm⟩ := this
    have le : (ghP g ts es).lk i = lkT t' e := by simp only [ghP, lksT, h1, q2]
    refine ⟨v, sg i v q1, by rw [eg i e q2]; exact q3, hm, fun _ => ?_, by rw [le, lkT_fst], fun q hq => ?_⟩
    · simp only [ghP, h1, q2, Option.bind_some, Option.getD_some]
    · rw [le] at hq
      rw [eg i e q2]
      exact lkT_mem q3 q hq
  · obtain ⟨t', h1, h2⟩ := startP_get h
    cases t' <;> cases h2
  · obtain ⟨t', h1, h2⟩ := startP_get h
    cases t' <;> cases h2
  · cases q : es[i]? with
    | none =>
      refine ⟨rfl, ?_⟩
      simp only [ghP, lksT, q]
      split <;> simp_all
    | some e =>
      have hi : i < ts.length := by rw [← hl.2]; exact get_lt q
      have hts : ts[i]? = some ts[i] := by simp [hi]
      obtain ⟨v, e', q1, q2, q3⟩ := a.r.get hts
      rw [q] at q2; cases q2
      have hs : (startP N.length ts)[i]? = some (startSP ts[i]) := by
        unfold startP
        rw [List.getElem?_append_left (by simpa using hi), List.getElem?_map, hts]; rfl
      cases ht : ts[i] with
      | im w =>
        rw [ht] at q3 hts
        refine ⟨q3.1, ?_⟩
        simp only [ghP, lksT, hts, q]
        exact lkT_im
      | _ => rw [ht] at hs; exact absurd hs (h _ _ _)
  · cases q : es[i]? with
    | none => simp [fp_z]
    | some e => exact fps_get a.nd q
  · obtain ⟨e, h1, h2⟩ := dm i p h
    obtain ⟨e', h1', h2'⟩ := dm j p h'
    refine Classical.byContradiction fun ne => ?_
    exact fps_split ne a.nd h1 h1' h2 h2'
  · obtain ⟨e, h1, h2⟩ := dm i p h
    exact a.no p (mem_fps (List.mem_of_getElem? h1) h2)
theorem keptP {ts : List T} {vs : List V} {es : List D} (ok : GhOk G g H) (a : ArgR G g H ts vs es) (k : Keep (ghP g ts es) H g' H') (s : Sim G g' env' σ H' ds) : ∀ (j : Nat) t e p, ts[j]? = some t → es[j]? = some e → p ∈ fp e → H' p = H p ∧ ¬ g'.Z p ∧ p ∈ fp (ds j) ∧ ∃ q L t', env'[j]? = some (some (SV.own q L t')) ∧ L ≠ [] := fun j t e p h1 h2 hp => by
  obtain ⟨v, e', q1, q2, q3⟩ := a.r.get h1
  rw [h2] at q2; cases q2
  obtain ⟨π, m1, m2⟩ := pth_cov q3 (Nat.le_refl _) hp
  have le : (ghP g ts es).lk j = lkT t e := by simp only [ghP, lksT, h1, h2]
  have mq : (π, p) ∈ lkT t e := List.mem_map.mpr ⟨π, m1, by rw [m2]; rfl⟩
  have hH : H' p = H p := k.l j (π, p) (by rw [le]; exact mq)
  have lk' : g'.lk j = lkT t e := by rw [k.lk, le]
  have ow : ∃ q L t', env'[j]? = some (some (SV.own q L t')) := Classical.byContradiction fun z => by
    have := (s.non j fun q L t' y => z ⟨q, L, t', y⟩).2
    rw [lk'] at this; rw [this] at mq; cases mq
  obtain ⟨q, L, t', e1⟩ := ow
  obtain ⟨v', o1, o2, o3, o4, o5, o6⟩ := s.own _ _ _ _ e1
  have Lne : L ≠ [] := fun z => by
    rw [z, lk'] at o5
    have : lkT t e = [] := by
      cases y : lkT t e with
      | nil => rfl
      | cons x r => rw [y] at o5; cases o5
    rw [this] at mq; cases mq
  obtain ⟨ob, ho, mu⟩ := q3.there p hp
  have pin : p ∈ fp (ds j) := by
    rcases o2.adr_in (o6 (π, p) (by rw [lk']; exact mq)) with z | ⟨xs, z⟩
    · exact z
    · rw [hH, ho] at z; cases z; exact mu.elim
  exact ⟨hH, (s.no j p pin).1, pin, q, L, t', e1, Lne⟩
theorem keptPs {ts : List T} {vs : List V} {es : List D} (ok : GhOk G g H) (a : ArgR G g H ts vs es) (k : Keep (ghP g ts es) H g' H') (s : Sim G g' env' σ H' ds) : ∀ p ∈ fps es, H' p = H p ∧ ¬ g'.Z p ∧ ∃ j, p ∈ fp (ds j) ∧ ∃ q L t', env'[j]? = some (some (SV.own q L t')) ∧ L ≠ [] := fun p hp => by
  obtain ⟨j, e, h1, h2⟩ := mem_fps_get hp
  have hj : j < ts.length := by rw [← a.r.len.2]; exact get_lt h1
  obtain ⟨q1, q2, q3, q4⟩ := keptP ok a k s j ts[j] e p (by simp [hj]) h1 h2
  exact ⟨q1, q2, j, q3, q4⟩
theorem fin_satP {Q : VK} {E : XK} {ts : List T} {vs : List V} {es : List D} {ev : EV} {v : V} (ok : GhOk G g H) (a : ArgR G g H ts vs es) (k : Keep (ghP g ts es) H g' H') (s : SimE G g' env' σ H' ev v) (h : SatP G g H ts es Q E (finP ev env' ts)) : Q v H' := by
  obtain ⟨ds, d, s, r⟩ := s
  have kp := keptPs ok a k s
  unfold finP at h
  split at h
  · rename_i v' e2
    refine h ⟨g'.Z, g'.P, g.rt, g.lk, g.xa⟩ v H' ⟨k.z, k.p, k.q, k.tups, k.frzs, rfl, rfl, rfl, fun i q hq => by rw [ok.lk] at hq; cases hq⟩ ⟨ok.lk, s.zt, s.pt⟩ (fun p hp => ⟨(kp p hp).1, (kp p hp).2.1⟩) ?_
    cases ev with
    | im w => cases e2; exact r.2
    | tmp t =>
      cases e2
      refine ⟨d, r.1, r.2.1, r.2.2.1, fun p hp => ⟨(r.2.2.2 p hp).1, (r.2.2.2 p hp).2.1, fun hq => ?_⟩⟩
      obtain ⟨_, _, j, hj, _⟩ := kp p hq
      exact (r.2.2.2 p hp).2.2 j hj
    | ptr j π =>
      obtain ⟨rfl, b, p, L, t, rfl, h1, h2⟩ := r
      simp only [retP, h1] at e2
      cases p with
      | true =>
        simp only at e2
        split at e2
        · rename_i ht
          cases e2
          obtain ⟨v0, o1, o2, o3, o4, o5, o6⟩ := s.own _ _ _ _ h1
          obtain ⟨v1, e1, q1, q2, q3⟩ := a.r.get ht
          have le : (ghP g ts es).lk j = lkT t e1 := by simp only [ghP, lksT, ht, q2]
          obtain ⟨x, hx⟩ := getP_of_adr h2
          have xm : x.mut = true := by
            obtain ⟨u, e', out, r1, _, r3, _⟩ := o2.lens hx
            have := r3 []
            rw [List.append_nil, h2] at this
            exact mut_adr r1 this.symm
          have pm := pth_in q3 (Nat.le_refl _) hx xm
          obtain ⟨c, hc⟩ := pth_def q3 pm
          have mq : (π, c) ∈ lkT t e1 := List.mem_map.mpr ⟨π, pm, by rw [hc]; rfl⟩
          have := o6 (π, c) (by rw [k.lk, le]; exact mq)
          rw [h2] at this
          cases this
          exact ⟨t, e1, _, ht, q2, hc, rfl⟩
        · cases e2
      | false =>
        cases L with
        | cons x y => cases e2
        | nil =>
        obtain ⟨x, hx⟩ := getP_of_adr h2
        obtain ⟨v0, o1, o2, o3, o4, o5, o6⟩ := s.own _ _ _ _ h1
        obtain ⟨u, e, out, r1, r2, r3, _⟩ := o2.lens hx
        have := r3 []
        rw [List.append_nil, h2] at this
        rw [adr_val r1 this.symm] at r1
        have nde : (fp e).Nodup := (List.nodup_append.mp (r2.nodup_iff.mp (s.nd j))).2.1
        have ine : ∀ q ∈ fp e, q ∈ fp (ds j) := fun q hq => r2.mem_iff.mpr (List.mem_append_right _ hq)
        have fin : ∀ q ∈ fp e, ¬ g'.Z q ∧ ¬ g'.P q ∧ q ∉ fps es := fun q hq => ⟨(s.no j q (ine q hq)).1, (s.no j q (ine q hq)).2, fun z => by
          obtain ⟨_, _, j', w1, q', L', t', w2, w3⟩ := kp q z
          have := s.dj j j' q (ine q hq) w1
          subst this
          rw [h1] at w2; cases w2; exact w3 rfl⟩
        simp only [hx] at e2
        cases x with
        | im w => cases e2; exact r1.2
        | _ => cases e2; exact ⟨e, r1, rfl, nde, fin⟩
  · exact h.elim
theorem fn_okP {P : Program} {w : World} {K : PySem.W.Frag} {mg : Str → Option Value} {base : Heap} {x qual : Str} {params : Arguments} {body : List Stmt} {scope : Scope} {dvs : List V} {kws : List (Str × V)} {f : Addr} {fd : FuncData} {N ps : List Str} {k : Nat} {m : S3} (F : FunD K x qual params body scope dvs kws f fd) (S : FnScope N ps scope) (hps : ps.length ≤ N.length)
    (h : ∀ (cdv : Value) (A : Around) (outer : List PySem.Env) (s : Shared) (H : Hp) (E : XK), Room k (A.deeper (envOfC qual scope s.heap.objs.size f cdv)) →
      SSs G (cxOf (L2.CX P w) P w K mg base N qual scope f cdv A outer s H E) (fun cls d _ H => E cls d H) body m) :
    FnOk P w K mg base (L2.CX P w) (k + 1) f fd ps (spP G ps.length (bodyP N.length m)) := by
  refine F.ok S (fun vs H Q E q => q.1) fun cdv A outer s H vs Q E hr hsp => ⟨_, h cdv A outer s H E hr, ?_⟩
  obtain ⟨hl, g, ts, es, ok, a, q⟩ := hsp
  have hts : ts.length ≤ N.length := by rw [← a.r.len.1, hl]; exact hps
  refine ⟨ghP g ts es, _, _, sim_startP ok a hts, ?_⟩
  unfold bodyP at q
  cases e1 : m (startP N.length ts) with
  | nx e =>
    rw [e1] at q
    exact fun g' σ' H' k' s' => fin_satP ok a k' (s'.im (w := .non) (v := .non) rfl) q
  | rt v e => rw [e1] at q; exact fun g' σ' v' H' k' s' => fin_satP ok a k' s' q
  | ex c e =>
    rw [e1] at q
    rintro g' σ' H' k' ⟨ds', s'⟩
    have kp := keptPs ok a k' s'
    exact q ⟨g'.Z, g'.P, g.rt, g.lk, g.xa⟩ H' ⟨k'.z, k'.p, k'.q, k'.tups, k'.frzs, rfl, rfl, rfl, fun i q hq => by rw [ok.lk] at hq; cases hq⟩ ⟨ok.lk, s'.zt, s'.pt⟩ fun p hp => ⟨(kp p hp).1, (kp p hp).2.1⟩
  | bk e => rw [e1] at q; exact q.elim
  | ct e => rw [e1] at q; exact q.elim
  | stuck => rw [e1] at q; exact q.elim
end
end VL
namespace VL
open PySem L2 PyProof.Rows
def callP (f : Fn) (evs : List EV) (env : Env3) : Out EV := match rds env evs with
  | none => .stuck
  | some ts => if disjE evs = true then (match f ts with
    | .ok ev _ => (match outE evs ts ev with
      | some ev' => .ok ev' env
      | none => .stuck)
    | .exc c _ => .exc c env
    | .stuck => .stuck) else .stuck
structure CallPS (P : Program) (w : World) (K : PySem.W.Frag) (mg : Str → Option Value) (base : Heap) (G : Gm) (x : String) (k n : Nat) (dws : List W) (f : Fn) : Prop where
  ex : ∃ (a : Addr) (fd : FuncData) (ps : List Str) (dvs : List V) (ds : List Value), FnOk P w K mg base (L2.CX P w) k a fd ps (spP G n f) ∧ mg (Str.ofString x) = some (.ref a) ∧ PySem.W.keepIn K (.ref a) = true ∧ Binds K fd ps ds ∧ Vals dvs ds ∧
    ∀ Z H, RepL G Z H dws dvs
structure MethPS (P : Program) (w : World) (K : PySem.W.Frag) (mg : Str → Option Value) (base : Heap) (G : Gm) (m : String) (k n : Nat) (dws : List W) (tab : String → Option Fn) : Prop where
  ex : ∀ C s, tab C = some s → Cls K (G.cA C) ∧ ∃ (f : Addr) (fd : FuncData) (ps : List Str) (dvs : List V) (ds : List Value), Meth K (G.cA C) (Str.ofString m) f ∧ FnOk P w K mg base (L2.CX P w) k f fd ps (spP G n s) ∧ Binds K fd ps ds ∧ Vals dvs ds ∧
    ∀ Z H, RepL G Z H dws dvs
def eCallP (n : Nat) (dws : List W) (f : Fn) (t : M3 (List EV)) : M3 EV := fun env => match t env with
  | .ok evs e1 => if evs.length + dws.length = n then callP f (evs ++ dws.map EV.im) e1 else .stuck
  | .exc c e1 => .exc c e1
  | .stuck => .stuck
def eMethP (m : String) (n : Nat) (dws : List W) (tab : String → Option Fn) (fo : M3 EV) (t : M3 (List EV)) : M3 EV := fun env => match fo env with
  | .ok o e1 => (match (rd e1 o).bind clsT with
    | some (C, ns) => if m ∈ ns then .stuck else (match tab C with
      | some f => (match pendB o t e1 with
        | .ok evs e2 => if evs.length + dws.length + 1 = n then callP f (o :: (evs ++ dws.map EV.im)) e2 else .stuck
        | .exc c e2 => .exc c e2
        | .stuck => .stuck)
      | none => .stuck)
    | none => .stuck)
  | .exc c e1 => .exc c e1
  | .stuck => .stuck
section
variable {X : Cx} {G : Gm} {Wx : WX} {g g' : Gh} {env env' : Env3} {σ : L2.St} {H H' : Hp} {ds : Nat → D} {k : Nat} {ps : List Str} {dvs : List V} {p pos apos : Pos} {e o : Expr} {es : List Expr} {fa fe : M3 EV} {t : M3 (List EV)}
theorem call_runP {f : Fn} {evs : List EV} {vs : List V} {Q : VK} {E : XK} (s : SimA G g env σ H evs vs) (h : match callP f evs env with
    | .ok ev env' => ∀ g' v H', Keep g H g' H' → SimE G g' env' σ H' ev v → Q v H'
    | .exc c env' => ∀ g' H', Keep g H g' H' → SimN G g' env' σ H' → E (.ref (G.cA c)) none H'
    | .stuck => False) : ∃ g ts es, rds env evs = some ts ∧ GhOk G g H ∧ ArgR G g H ts vs es ∧ SatP G g H ts es Q E (f ts) := by
  obtain ⟨ds, es0, s, l⟩ := s
  unfold callP at h
  cases hr : rds env evs with
  | none => rw [hr] at h; exact h.elim
  | some ts =>
    simp only [hr] at h
    by_cases hd : disjE evs = true
    · rw [if_pos hd] at h
      obtain ⟨tl, tg⟩ := rds_get hr
      have vl := l.n
      -- the arguments' own parts
      obtain ⟨es, el, ep⟩ := choiceL (n := evs.length) (P := fun i e => ∀ ev v x d, evs[i]? = some ev → vs[i]? = some v → ts[i]? = some x → es0[i]? = some d → ArgP G g env σ H ds ev v x e ∧ (∀ p ∈ fp e, p ∈ fp d ∨ ∃ k π, ev = .ptr k π ∧ p ∈ fp (ds k)) ∧ (fp e).Nodup) fun i hi => by
        have he : evs[i]? = some evs[i] := by simp [hi]
        obtain ⟨t, h1, h2⟩ := tg i _ he
        obtain ⟨v, d, h3, h4, h5⟩ := l.get he
        obtain ⟨e, q⟩ := argP_of s h5 h2
        exact ⟨e, fun ev' v' x' d' a b c dd => by rw [he] at a; rw [h3] at b; rw [h1] at c; rw [h4] at dd; cases a; cases b; cases c; cases dd; exact q⟩
      have at' : ∀ (i : Nat) e, es[i]? = some e → ∃ ev v x d, evs[i]? = some ev ∧ vs[i]? = some v ∧ ts[i]? = some x ∧ es0[i]? = some d ∧ EvR G g env H ds ev v d ∧ ArgP G g env σ H ds ev v x e ∧ (∀ p ∈ fp e, p ∈ fp d ∨ ∃ k π, ev = .ptr k π ∧ p ∈ fp (ds k)) ∧ (fp e).Nodup := fun i e hi => by
        have hl : i < evs.length := by rw [← el]; exact get_lt hi
        have he : evs[i]? = some evs[i] := by simp [hl]
        obtain ⟨t, h1, h2⟩ := tg i _ he
        obtain ⟨v, d, h3, h4, h5⟩ := l.get he
        exact ⟨_, v, t, d, he, h3, h1, h4, h5, ep i e hi _ v t d he h3 h1 h4⟩
      have rep : ∀ ev v x e, ArgP G g env σ H ds ev v x e → RepT G g.Z H x v e := fun ev v x e a => by
        cases ev with
        | im w => obtain ⟨rfl, rfl, r⟩ := a; exact ⟨rfl, r⟩
        | tmp t => obtain ⟨rfl, r, _⟩ := a; exact r
        | ptr k ρ => obtain ⟨p, L, t, vk, out, _, _, _, _, _, r, _⟩ := a; exact r
      have nds := l.nd
      have nop := l.noP
      have inds : ∀ (i : Nat) e p, es[i]? = some e → p ∈ fp e → (p ∈ fps es0 ∧ ∃ d, es0[i]? = some d ∧ p ∈ fp d) ∨ ∃ k π, evs[i]? = some (.ptr k π) ∧ p ∈ fp (ds k) := fun i e p hi hp => by
        obtain ⟨ev, v, x, d, h1, h2, h3, h4, h5, h6, h7, h8⟩ := at' i e hi
        rcases h7 p hp with z | ⟨k, π, rfl, z⟩
        · exact .inl ⟨mem_fps (List.mem_of_getElem? h4) z, d, h4, z⟩
        · exact .inr ⟨k, π, h1, z⟩
      have disj : ∀ (i j : Nat) d e p, es[i]? = some d → es[j]? = some e → p ∈ fp d → p ∈ fp e → i = j := fun i j d e p hi hj hp hq => by
        rcases inds i d p hi hp with ⟨z1, d1, z2, z3⟩ | ⟨k, π, z1, z2⟩
        · rcases inds j e p hj hq with ⟨y1, d2, y2, y3⟩ | ⟨k', π', y1, y2⟩
          · refine Classical.byContradiction fun ne => fps_split ne nds z2 y2 z3 y3
          · exact absurd y2 ((nop p z1).2.2.1 k')
        · rcases inds j e p hj hq with ⟨y1, d2, y2, y3⟩ | ⟨k', π', y1, y2⟩
          · exact absurd z2 ((nop p y1).2.2.1 k)
          · have := s.dj k k' p z2 y2
            subst this
            exact disjE_ne hd z1 y1
      have nop' : ∀ p ∈ fps es, ¬ g.Z p ∧ ¬ g.P p ∧ ∃ o, H p = some o := fun p hp => by
        obtain ⟨i, e, h1, h2⟩ := mem_fps_get hp
        rcases inds i e p h1 h2 with ⟨z1, _⟩ | ⟨k, π, z1, z2⟩
        · obtain ⟨a1, a2, a3, o, a4, _⟩ := nop p z1; exact ⟨a2, a1, o, a4⟩
        · obtain ⟨o, a4, _⟩ := s.there z2; exact ⟨(s.no k p z2).1, (s.no k p z2).2, o, a4⟩
      -- the callee's ghosts
      let g1 : Gh := ⟨g.Z, fun p => g.P p ∨ ((∃ i, p ∈ fp (ds i)) ∧ p ∉ fps es), g.rt, fun _ => [], g.xa⟩
      have ar : ArgR G g1 H ts vs es := by
        refine ⟨repTL_of (g := g) (by rw [← vl, tl]) (by rw [el, tl]) fun i t v e a b c => ?_, fps_nodup_of (fun i e hi => ?_) disj, fun p hp => ⟨(nop' p hp).1, fun z => z.elim (nop' p hp).2.1 fun z => z.2 hp⟩⟩
        · obtain ⟨ev, v', x, d, h1, h2, h3, h4, h5, h6, h7, h8⟩ := at' i e c
          rw [b] at h2; rw [a] at h3; cases h2; cases h3
          exact rep _ _ _ _ h6
        · obtain ⟨ev, v', x, d, h1, h2, h3, h4, h5, h6, h7, h8⟩ := at' i e hi
          exact h8
      have ok1 : GhOk G g1 H := by
        refine ⟨rfl, fun p z => ⟨fun y => y.elim (s.zt p z).1 fun y => ?_, (s.zt p z).2⟩, fun p z => z.elim (s.pt.1 p) fun z => ?_, s.pt.2⟩
        · obtain ⟨⟨i, y⟩, _⟩ := y; exact (s.no i p y).1 z
        · obtain ⟨⟨i, z⟩, _⟩ := z; obtain ⟨o, z, m⟩ := s.there z; exact Ob.mut z m
      refine ⟨g1, ts, es, rfl, ok1, ar, ?_⟩
      have grow : ∀ (g2 : Gh) H2, Keep g1 H g2 H2 → GhOk G g2 H2 → (∀ p ∈ fps es, H2 p = H p ∧ ¬ g2.Z p) → Sim G ⟨g2.Z, g.P, g.rt, g.lk, g.xa⟩ env σ H2 ds ∧ Keep g H ⟨g2.Z, g.P, g.rt, g.lk, g.xa⟩ H2 ∧ ∀ i p, p ∈ fp (ds i) → p ∉ fps es → g2.P p := fun g2 H2 k2 ok2 un => by
        have kP : ∀ i p, p ∈ fp (ds i) → H2 p = H p ∧ ¬ g2.Z p ∧ (p ∉ fps es → g2.P p) := fun i p hi => by
          by_cases hp : p ∈ fps es
          · exact ⟨(un p hp).1, (un p hp).2, fun z => absurd hp z⟩
          · obtain ⟨a, b⟩ := k2.p p (.inr ⟨⟨i, hi⟩, hp⟩)
            exact ⟨b, fun z => (ok2.zt p z).1 a, fun _ => a⟩
        have lkd : ∀ i q, q ∈ g.lk i → H2 q.2 = H q.2 := fun i q hq => by
          by_cases e : ∃ p L t, env[i]? = some (some (SV.own p L t))
          · obtain ⟨p, L, t, e⟩ := e
            obtain ⟨v, o1, o2, o3, o4, o5, o6⟩ := s.own _ _ _ _ e
            rcases o2.adr_in (o6 q hq) with z | ⟨xs, z⟩
            · exact (kP i q.2 z).1
            · have := k2.tups _ _ z
              rw [this, z]
          · have := (s.non i fun q L t z => e ⟨q, L, t, z⟩).2
            rw [this] at hq; cases hq
        have kk : Keep g H ⟨g2.Z, g.P, g.rt, g.lk, g.xa⟩ H2 := ⟨k2.z, fun p z => ⟨z, (k2.p p (.inl z)).2⟩, fun _ z => z, k2.tups, k2.frzs, rfl, rfl, rfl, lkd⟩
        refine ⟨s.grow kk (fun i p hp => ⟨(kP i p hp).1, (kP i p hp).2.1⟩) (fun p z => ⟨fun y => ?_, (ok2.zt p z).2⟩) (fun p y => ok2.pt.1 p (k2.p p (.inl y)).1), kk, fun i p hp => (kP i p hp).2.2⟩
        exact (ok2.zt p z).1 (k2.p p (.inl y)).1
      cases hf : f ts with
      | stuck => rw [hf] at h; exact h.elim
      | exc c ts' =>
        rw [hf] at h
        intro g2 H2 k2 ok2 un
        obtain ⟨S, kk, _⟩ := grow g2 H2 k2 ok2 un
        exact h _ H2 kk ⟨ds, S⟩
      | ok ev ts' =>
        simp only [hf] at h
        intro g2 v H2 k2 ok2 un fr
        obtain ⟨S, kk, inP⟩ := grow g2 H2 k2 ok2 un
        cases hout : outE evs ts ev with
        | none => simp only [hout] at h
        | some ev' =>
          simp only [hout] at h
          have gP2 : ∀ p, g.P p → g2.P p := fun p y => (k2.p p (.inl y)).1
          refine h _ v H2 kk ?_
          cases ev with
          | im w => cases hout; exact ⟨ds, .z, S, rfl, fr⟩
          | tmp t =>
            cases hout
            obtain ⟨d, r1, r2, r3, r4⟩ := fr
            exact ⟨ds, d, S, r1, r2, r3, fun p hp => ⟨(r4 p hp).1, fun y => (r4 p hp).2.1 (gP2 p y), fun i hi => (r4 p hp).2.1 (inP i p hi (r4 p hp).2.2)⟩⟩
          | ptr j π =>
            obtain ⟨t, e, a, r1, r2, r3, rfl⟩ := fr
            obtain ⟨ev0, v0, x, d0, h1, h2, h3, h4, h5, h6, h7, h8⟩ := at' j e r2
            rw [r1] at h3; cases h3
            simp only [outE] at hout
            cases ev0 with
            | im w => simp only [h1] at hout; cases hout
            | ptr k ρ =>
              simp only [h1] at hout
              cases hout
              obtain ⟨p', L', t', vk, out, b1, b2, b3, b4, b5, b6, b7, b8, b9, b10, b11⟩ := h6
              exact ⟨ds, .z, S, rfl, a, p', L', t', rfl, b1, by rw [b9 π]; exact r3⟩
            | tmp u =>
              simp only [h1, r1, Option.bind_some] at hout
              obtain ⟨x', hx⟩ := getP_of_adr r3
              have w3 := (rep _ _ _ _ h6).keep kk.kz fun p hp => (un p (mem_fps (List.mem_of_getElem? r2) hp)).1
              obtain ⟨u2, e2, out, y1, y2, y3, _⟩ := w3.lens hx
              have := y3 []
              rw [List.append_nil, r3] at this
              rw [adr_val y1 this.symm] at y1
              have nde : (fp e2).Nodup := (List.nodup_append.mp (y2.nodup_iff.mp (fps_get ar.nd r2))).2.1
              have ine : ∀ q ∈ fp e2, q ∈ fp e := fun q hq => y2.mem_iff.mpr (List.mem_append_right _ hq)
              have fin : ∀ p ∈ fp e2, ¬ g2.Z p ∧ ¬ g.P p ∧ ∀ i, p ∉ fp (ds i) := fun p hp => by
                have hpe := mem_fps (List.mem_of_getElem? r2) (ine p hp)
                refine ⟨(un p hpe).2, (nop' p hpe).2.1, fun i hi => ?_⟩
                rcases h7 p (ine p hp) with z | ⟨k', π', z, _⟩
                · exact (nop p (mem_fps (List.mem_of_getElem? h4) z)).2.2.1 i hi
                · cases z
              simp only [hx] at hout
              cases x' with
              | im w => cases hout; exact ⟨ds, .z, S, rfl, y1.2⟩
              | _ => cases hout; exact ⟨ds, e2, S, y1, rfl, nde, fin⟩
    · rw [if_neg hd] at h; exact h.elim
theorem call_satP {n : Nat} {F : Fn} {evs : List EV} {vs : List V} {Q : VK} (s : SimA G g env σ H evs vs) (hn : vs.length = n) (h : SatE G Wx g σ H Q (callP F evs env)) : spP G n F vs H Q (WE Wx σ) := by
  obtain ⟨g, ts, es, _, a, b, c⟩ := call_runP (Q := Q) (E := WE Wx σ) s (by
    cases e : callP F evs env with
    | stuck => rw [e] at h; exact h.elim
    | exc c env' => rw [e] at h; exact fun g' H' k s => h g' H' k s
    | ok ev env' => rw [e] at h; exact h)
  exact ⟨hn, g, ts, es, a, b, c⟩
theorem sa_midP {n : Nat} {dws : List W} {F : Fn} {σ : L2.St} {H : Hp} {Q : VK} (h : liftE G Wx (eCallP n dws F t) σ H Q) (rd : ∀ Z H, RepL G Z H dws dvs) : liftA G Wx t σ H (fun vs H1 => spP G n F (vs ++ dvs) H1 Q (WE Wx σ)) := by
  obtain ⟨g, env, ds, s, h⟩ := h
  refine ⟨g, env, ds, s, ?_⟩
  unfold eCallP at h
  cases e1 : t env with
  | stuck => rw [e1] at h; exact h.elim
  | exc c e2 => rw [e1] at h; exact h
  | ok evs e2 =>
    simp only [e1] at h
    intro g1 vs H1 k1 s1
    split at h
    · rename_i hn
      refine call_satP (s1.app rd) ?_ (SatE.keep h k1)
      rw [List.length_append, ← s1.len, ← hn, (rd g1.Z H1).length]
    · exact h.elim
theorem se_callP {x : String} {n : Nat} {F : Fn} {dws : List W} (c : CallPS X.prog X.w X.K X.mg X.base G x k n dws F) (hr : Room k X.A) (hg : Gl X (Str.ofString x)) (tk : Takes X Wx)
    (ha : SA G X Wx (e :: es) t) (hdb : ((Str.ofString x) == ("__debug__" : Str)) = false := by decide) (he : starEach (e :: es) X.env = (false, eval e X.env) :: starEach es X.env := by rfl) (hpl : (backTo pos (starEach es X.env)).any (·.1) = false := by rfl) :
    SE G X Wx (.Call (.Name (Str.ofString x) p) (e :: es) [] pos) (eCallP n dws F t) := by
  obtain ⟨f, fd, ps, dvs, ds, F, hm, kp, hb, hd, rd⟩ := c.ex
  refine ⟨fun pins s0 σ H Q I h => ?_⟩
  refine wpAny_Call_Name_kw (ld_glob I hg hm ?_ hdb)
  refine PySem.W.callWith_K (h₀ := X.base) I.ok.mod.kin kp (thn (ha.run pos pins s0 σ H _ I (sa_midP h rd)) fun us s1 ⟨vs, H1, I1, r, q⟩ => ⟨I1.kIn, ?_⟩) he hpl
  exact run_fnD F hr hb hd (passAt tk σ) I1 r q
theorem meth_midP {m : String} {n : Nat} {dws : List W} {tab : String → Option Fn} {Q : VK} {σ : L2.St} {H : Hp} (h : liftE G Wx (eMethP m n dws tab fa t) σ H Q) : liftE G Wx fa σ H fun v H1 => ∃ C F p dx vs, tab C = some F ∧ v = .ref p ∧ H1 p = some (.ins (G.cA C) dx vs) ∧ vs.lookup (Str.ofString m) = none ∧
    ∀ dvs, (∀ Z H, RepL G Z H dws dvs) → liftA G Wx t σ H1 (fun us H2 => spP G n F (.ref p :: (us ++ dvs)) H2 Q (WE Wx σ)) := by
  obtain ⟨g, env, ds, s, h⟩ := h
  refine ⟨g, env, ds, s, ?_⟩
  unfold eMethP at h
  cases e1 : fa env with
  | stuck => rw [e1] at h; exact h.elim
  | exc c e2 => rw [e1] at h; exact h
  | ok ob e2 =>
    simp only [e1] at h
    intro g1 v H1 k1 s1
    cases e3 : (rd e2 ob).bind clsT with
    | none => simp only [e3] at h; exact h.elim
    | some Cn =>
      obtain ⟨C, ns⟩ := Cn
      simp only [e3] at h
      split at h
      · exact h.elim
      · rename_i hm
        cases e4 : tab C with
        | none => simp only [e4] at h; exact h.elim
        | some F =>
          simp only [e4] at h
          obtain ⟨u, h1, h2⟩ := Option.bind_eq_some_iff.mp e3
          obtain ⟨d, ru⟩ := s1.rd h1
          obtain ⟨p, dx, vs, rfl, hp, hl⟩ := clsT_rep h2 hm ru
          refine ⟨C, F, p, dx, vs, e4, rfl, hp, hl, fun dvs rd => pend_A s1 ?_⟩
          cases e5 : pendB ob t e2 with
          | stuck => simp only [e5] at h; exact h.elim
          | exc c e6 => simp only [e5] at h; exact SatX.keep h k1
          | ok evs e6 =>
            simp only [e5] at h
            intro g2 us H2 k2 s2
            split at h
            · rename_i hn
              refine call_satP (s2.consI rd) ?_ (SatE.keep h (k1.trans k2))
              have := s2.len
              simp only [List.length_cons] at this
              rw [List.length_cons, List.length_append, (rd g1.Z H1).length]
              omega
            · exact h.elim
theorem se_methP {m : String} {n : Nat} {dws : List W} {tab : String → Option Fn} {pl : Sem Bool} (c : MethPS X.prog X.w X.K X.mg X.base G m k n dws tab) (hr : Room k X.A) (tk : Takes X Wx) (ho : SE G X Wx o fa) (ha : SA G X Wx (e :: es) t)
    (hst : starEach (e :: es) X.env = (false, eval e X.env) :: starEach es X.env := by rfl) (hpl : (backTo pos (starEach es X.env)).any (·.1) = false := by rfl)
    (ht : eval (.Call (.Attribute o (Str.ofString m) apos) (e :: es) [] pos) X.env = (do
      let ov ← eval o X.env
      standAt apos.atName
      let (f, first) ← holding [ov] (getMethod ov (Str.ofString m) pl)
      callWith pos f first (backTo pos (starEach (e :: es) X.env)) (backToKw pos (keywordEach [] X.env))) := by rfl) :
    SE G X Wx (.Call (.Attribute o (Str.ofString m) apos) (e :: es) [] pos) (eMethP m n dws tab fa t) := by
  refine ⟨fun pins s0 σ H Q I h => ?_⟩
  refine methcall_of (pl := pl) ho I ?_ ht
  obtain ⟨g, env, ds, s, h⟩ := meth_midP h
  refine ⟨g, env, ds, s, ?_⟩
  cases e1 : fa env with
  | stuck => rw [e1] at h; exact h
  | exc c e2 => rw [e1] at h; exact h
  | ok ob e2 =>
    rw [e1] at h
    intro g1 v H1 k1 s1
    obtain ⟨C, F, p, dx, vs, hs, rfl, hp, hl, hz⟩ := h g1 v H1 k1 s1
    obtain ⟨cl, f, fd, ps, dvs, ds, mm, F, hb, hd, rd⟩ := c.ex C F hs
    refine ⟨p, _, dx, vs, f, rfl, hp, cl, mm, hl, fun s2 I2 => ?_⟩
    refine PySem.W.callWith_K (first := [.ref p]) (h₀ := X.base) I.ok.mod.kin mm.kp (thn (ha.run pos pins s2 σ H1 _ I2 (hz dvs rd)) fun us s3 ⟨vs3, H3, I3, r3, q3⟩ => ⟨I3.kIn, ?_⟩) hst hpl
    exact run_fnD (us := .ref p :: us) (vs := .ref p :: vs3) F hr hb hd (passAt tk σ) I3 (.cons rfl r3) q3
theorem se_meth0P {m : String} {n : Nat} {dws : List W} {tab : String → Option Fn} {pl : Sem Bool} (c : MethPS X.prog X.w X.K X.mg X.base G m k n dws tab) (hr : Room k X.A) (tk : Takes X Wx) (ho : SE G X Wx o fa)
    (ht : eval (.Call (.Attribute o (Str.ofString m) apos) [] [] pos) X.env = (do
      let ov ← eval o X.env
      standAt apos.atName
      let (f, first) ← holding [ov] (getMethod ov (Str.ofString m) pl)
      callWith pos f first (backTo pos (starEach [] X.env)) (backToKw pos (keywordEach [] X.env))) := by rfl) :
    SE G X Wx (.Call (.Attribute o (Str.ofString m) apos) [] [] pos) (eMethP m n dws tab fa eNil) := by
  refine ⟨fun pins s0 σ H Q I h => ?_⟩
  refine methcall_of (pl := pl) ho I ?_ ht
  obtain ⟨g, env, ds, s, h⟩ := meth_midP h
  refine ⟨g, env, ds, s, ?_⟩
  cases e1 : fa env with
  | stuck => rw [e1] at h; exact h
  | exc c e2 => rw [e1] at h; exact h
  | ok ob e2 =>
    rw [e1] at h
    intro g1 v H1 k1 s1
    obtain ⟨C, F, p, dx, vs, hs, rfl, hp, hl, hz⟩ := h g1 v H1 k1 s1
    obtain ⟨cl, f, fd, ps, dvs, ds, mm, F, hb, hd, rd⟩ := c.ex C F hs
    refine ⟨p, _, dx, vs, f, rfl, hp, cl, mm, hl, fun s2 I2 => ?_⟩
    exact PySem.W.callWith_K0 (first := [.ref p]) I2.kIn mm.kp (run_fnD (us := [.ref p]) (vs := [.ref p]) F hr hb hd (passAt tk σ) I2 (.cons rfl .nil) (liftA_nil (hz dvs rd)))
end
end VL
namespace VL
open PySem L2 PyProof.Rows
abbrev FM := EV → List EV → Env3 → Option (EV × Env3)
def isList : T → Bool
  | .ml _ => true
  | .im (.lst _) => true
  | .im (.scr _) => true
  | _ => false
def eBM (is : T → Bool) (r : FM) (fo : M3 EV) (t : M3 (List EV)) : M3 EV := fun env => match fo env with
  | .ok o e1 => if (rd e1 o).any is = true then (match pendB o t e1 with
    | .ok evs e2 => (match r o evs e2 with
      | some (ev, e3) => .ok ev e3
      | none => .stuck)
    | .exc c e2 => .exc c e2
    | .stuck => .stuck) else .stuck
  | .exc c e1 => .exc c e1
  | .stuck => .stuck
def liftM (G : Gm) (r : FM) : V → List V → Hp → VK → Prop := fun x xs H Q => ∃ g env σ ob evs ev env', SimA G g env σ H (ob :: evs) (x :: xs) ∧ r ob evs env = some (ev, env') ∧ ∀ g' v H', Keep g H g' H' → SimE G g' env' σ H' ev v → Q v H'
def isTy (X : Cx) (T : String) (x : V) (H : Hp) : Prop := ∀ pins s σ v, Inv X pins σ H s → RelV x v → s.TypeIs v T ∧ ∀ a, v = .ref a → ∃ ob, s.heap.get? a = some ob ∧ ob.dict = none
section
variable {X : Cx} {G : Gm} {Wx : WX} {g g' : Gh} {env env' : Env3} {σ : L2.St} {H H' : Hp} {ds : Nat → D} {p pos apos cpos : Pos} {e o a b : Expr} {es : List Expr} {fa fb fe fo : M3 EV} {t : M3 (List EV)}
theorem mtR_imp {id : String} {r r' : V → List V → Hp → VK → Prop} (h : MtR X id r) (i : ∀ x xs H Q, r' x xs H Q → r x xs H Q) : MtR X id r' := fun pins s σ H x xs v us Q I rx rs q => h pins s σ H x xs v us Q I rx rs (i _ _ _ _ q)
theorem listV {Z : Addr → Prop} {x : T} {v : V} {d : D} (h : isList x = true) (r : RepT G Z H x v d) : ∃ p vs, v = .ref p ∧ SqL G.K H p vs := by
  cases x with
  | ml xs => obtain ⟨p, vs, ds, rfl, _, h1, _⟩ := r; exact ⟨p, vs, rfl, .inl (.inl h1)⟩
  | im w =>
    cases w with
    | lst xs => obtain ⟨_, p, vs, rfl, _, h1, _⟩ := r; exact ⟨p, vs, rfl, .inl (.inl h1)⟩
    | scr xs => obtain ⟨_, p, vs, rfl, h1, _⟩ := r; exact ⟨p, vs, rfl, h1.seq⟩
    | _ => cases h
  | _ => cases h
theorem isTy_list (hK : X.K = G.K) {Z : Addr → Prop} {x : T} {v : V} {d : D} (h : isList x = true) (r : RepT G Z H x v d) : isTy X "list" v H := fun pins s σ u I rv => by
  obtain ⟨p, vs, rfl, hs⟩ := listV h r
  exact tyV_is I rv (.inl ⟨rfl, vs, by rw [hK]; exact hs⟩)
theorem bm_mid {is : T → Bool} {r : FM} {T : String} (hi : ∀ (g : Gh) (H : Hp) x v d, is x = true → RepT G g.Z H x v d → isTy X T v H) {σ : L2.St} {H : Hp} {Q : VK} (h : liftE G Wx (eBM is r fo t) σ H Q) :
    liftE G Wx fo σ H fun x H1 => isTy X T x H1 ∧ liftA G Wx t σ H1 fun xs H2 => liftM G r x xs H2 Q := by
  obtain ⟨g, env, ds, s, h⟩ := h
  refine ⟨g, env, ds, s, ?_⟩
  unfold eBM at h
  cases e1 : fo env with
  | stuck => rw [e1] at h; exact h.elim
  | exc c e2 => rw [e1] at h; exact h
  | ok ob e2 =>
    simp only [e1] at h
    intro g1 v H1 k1 s1
    split at h
    · rename_i hx
      cases e3 : rd e2 ob with
      | none => rw [e3] at hx; cases hx
      | some x =>
      rw [e3] at hx
      obtain ⟨d, rx⟩ := s1.rd e3
      refine ⟨hi g1 H1 x v d (by simpa using hx) rx, pend_A s1 ?_⟩
      cases e5 : pendB ob t e2 with
      | stuck => simp only [e5] at h; exact h.elim
      | exc c e6 => simp only [e5] at h; exact SatX.keep h k1
      | ok evs e6 =>
        simp only [e5] at h
        intro g2 us H2 k2 s2
        split at h
        · rename_i ev e7 hr
          exact ⟨g2, e6, σ, ob, evs, ev, e7, s2, hr, fun g' v' H' k' s' => h g' v' H' ((k1.trans k2).trans k') s'⟩
        · exact h.elim
    · exact h.elim
theorem se_bmT {is : T → Bool} {r : FM} {T : String} {nm : Str} {id : String} (hi : ∀ (g : Gh) (H : Hp) x v d, is x = true → RepT G g.Z H x v d → isTy X T v H) (pa : PlainAttrs T) (slot : Slot T nm id) (hty : typeOf (.builtin id) = pure (.type "method_descriptor")) (hm : MtR X id (liftM G r)) (ho : SE G X Wx o fo) (ha : SA G X Wx (e :: es) t)
    (hb : attributeBase o nm X.env (eval o X.env) = eval o X.env)
    (hf : ((backTo cpos (starEach (e :: es) X.env)).all (fun y => !y.1) && (backToKw cpos (keywordEach [] X.env)).all (fun y => y.1.isSome) && decide ((e :: es).length + ([] : List Keyword).length + (if ([] : List Keyword).isEmpty then 0 else 1) < 30)) = true)
    (hl : (apos.endLine == cpos.line) = true) (hst : starEach (e :: es) X.env = (false, eval e X.env) :: starEach es X.env) (hpl : (backTo cpos (starEach es X.env)).any (·.1) = false) :
    SE G X Wx (.Call (.Attribute o nm apos) (e :: es) [] cpos) (eBM is r fo t) := by
  refine ⟨fun pins s0 σ H Q I h => ?_⟩
  refine wpAny_Call_method_late hb hf hl rfl (thn (ho.run pins s0 σ H _ I (bm_mid hi h)) fun v s1 ⟨x, H1, I1, r1, ty, q1⟩ => ?_)
  obtain ⟨t1, t2⟩ := ty pins s1 σ v I1 r1
  refine ⟨T, id, pa, slot, hty, t1, t2, ?_⟩
  have hA := ha.run cpos pins s1 σ H1 _ I1 q1
  rw [hst] at hA ⊢
  refine Calls.callWith_builtin (by show (false || (backTo cpos (starEach es X.env)).any fun y => y.1) = false; rw [hpl] <;> rfl) (Calls.evalArgs_plain ?_)
  exact thn hA fun us s2 ⟨vs, H2, I2, r2, q2⟩ => hm pins s2 σ H2 x vs v us Q I2 r1 r2 q2
theorem se_bmT0 {is : T → Bool} {r : FM} {T : String} {nm : Str} {id : String} (hi : ∀ (g : Gh) (H : Hp) x v d, is x = true → RepT G g.Z H x v d → isTy X T v H) (pa : PlainAttrs T) (slot : Slot T nm id) (hty : typeOf (.builtin id) = pure (.type "method_descriptor")) (hm : MtR X id (liftM G r)) (ho : SE G X Wx o fo)
    (hb : attributeBase o nm X.env (eval o X.env) = eval o X.env) (hl : (apos.endLine == cpos.line) = true) :
    SE G X Wx (.Call (.Attribute o nm apos) [] [] cpos) (eBM is r fo eNil) := by
  refine ⟨fun pins s0 σ H Q I h => ?_⟩
  refine wpAny_Call_method0_late hb hl (thn (ho.run pins s0 σ H _ I (bm_mid hi h)) fun v s1 ⟨x, H1, I1, r1, ty, q1⟩ => ?_)
  obtain ⟨t1, t2⟩ := ty pins s1 σ v I1 r1
  exact ⟨T, id, pa, slot, hty, t1, t2, Calls.callWith_builtin rfl (PySem.evalArgs_none (hm pins s1 σ H1 x [] v [] Q I1 r1 .nil (liftA_nil q1)))⟩
def putE (kp : Bool) (ob : EV) (y : T) (env : Env3) : Option Env3 := match ob with
  | .ptr k ρ => wrS kp k ρ y env
  | _ => none
theorem wrS_lock {kp : Bool} {k : Nat} {ρ : Path} {y : T} (h : wrS kp k ρ y env = some env') : ∀ p L t, env[k]? = some (some (SV.own p L t)) → lockOk L ρ = true := fun p L t h1 => by
  obtain ⟨p', L', t', t2, e1, e2, _⟩ := wrS_some h
  rw [h1] at e1; cases e1; exact e2
def rAppend3 : FM := fun ob evs env => match evs with
  | [ev] => match rd env ob with
    | some (.ml xs) => if xs.length < 10000000 then (toT ev).bind fun x => (putE true ob (.ml (xs ++ [x])) env).map fun e => (.im .non, e) else none
    | _ => none
  | _ => none
theorem fps_app {a b : List D} : fps (a ++ b) = fps a ++ fps b := by
  induction a with
  | nil => rfl
  | cons x r ih => simp only [List.cons_append, fps, ih, List.append_assoc]
theorem repTL_app {Z : Addr → Prop} : ∀ {xs ys : List T} {vs us : List V} {ds es : List D}, RepTL G Z H xs vs ds → RepTL G Z H ys us es → RepTL G Z H (xs ++ ys) (vs ++ us) (ds ++ es)
  | [], ys, vs, us, ds, es, ⟨e1, e2⟩, b => by rw [e1, e2]; exact b
  | x :: xs, ys, vs, us, ds, es, ⟨v, r, d, e, e1, e2, a, b⟩, c => by
    rw [e1, e2]
    exact ⟨v, r ++ us, d, e ++ es, rfl, rfl, a, repTL_app b c⟩
theorem rep_non {Z : Addr → Prop} : RepT G Z H (.im .non) .non .z := ⟨rfl, rfl⟩
theorem adr_ml_app {xs ys : List T} {a : Option Addr} {ow : Bool} {dk dl : List D} (hl : dk.length = xs.length) : ∀ π' b, adr (.ml xs) (.nd a ow dk) π' = some b → adr (.ml (xs ++ ys)) (.nd a ow (dk ++ dl)) π' = some b
  | [], b, h => h
  | .idx n :: π, b, h => by
    simp only [adr, T.pos, T.kids, Option.bind_some] at h ⊢
    obtain ⟨c, h1, h2⟩ := Option.bind_eq_some_iff.mp h
    obtain ⟨e, h3, h4⟩ := Option.bind_eq_some_iff.mp h2
    rw [List.getElem?_append_left (get_lt h1), List.getElem?_append_left (get_lt h3), h1, h3]
    exact h4
  | .key _ :: _, _, h => by simp [adr, T.pos] at h
  | .fld _ :: _, _, h => by simp [adr, T.pos] at h
theorem simA_ptr {ob : EV} {y : T} {kp : Bool} (h : putE kp ob y env = some env') : ∃ k ρ, ob = .ptr k ρ ∧ wrS kp k ρ y env = some env' := by
  cases ob with
  | ptr k ρ => exact ⟨k, ρ, rfl, h⟩
  | _ => cases h
theorem SimA.wrL {kp : Bool} {ob : EV} {evs : List EV} {v : V} {vs : List V} (s : SimA G g env σ H (ob :: evs) (v :: vs)) {xs ys : List T} (hx : rd env ob = some (.ml xs)) (hw : putE kp ob (.ml ys) env = some env') :
    ∃ a us dk es, v = .ref a ∧ H a = some (.lst us) ∧ us.length = xs.length ∧ RepTL G g.Z H xs us dk ∧ (∀ ts, toTs evs = some ts → RepTL G g.Z H ts vs es) ∧ (∀ ws, allW evs = some ws → RepL G g.Z H ws vs) ∧ (fps dk).Nodup ∧ (fps es).Nodup ∧ (∀ p ∈ fps dk, p ∉ fps es) ∧
      ∀ us' dk' (w' : T) u' d', RepTL G g.Z H ys us' dk' → RepT G g.Z H w' u' d' → (fps dk' ++ fp d').Nodup → (∀ q ∈ fps dk' ++ fp d', q ∈ fps dk ∨ q ∈ fps es) →
        (kp = true → ∀ π' b, adr (.ml xs) (.nd (some a) true dk) π' = some b → adr (.ml ys) (.nd (some a) true dk') π' = some b) →
        Keep g H g (L2.upd H a (.lst us')) ∧ SimE G g env' σ (L2.upd H a (.lst us')) (evOf w') u' := by
  obtain ⟨k, ρ, rfl, hw'⟩ := simA_ptr hw
  clear hw
  have hw := hw'
  clear hw'
  obtain ⟨a, us, dk, es, rfl, sh, rl, rt, rW, n1, n2, n3, n4, kz, mu, W⟩ := s.wr hx rfl (wrS_lock hw)
  obtain ⟨a', e1, e2, _, hl⟩ := sh
  cases e2
  refine ⟨a, us, dk, es, rfl, hl, rl.len.1, rl, rt, rW, n1, n2, n4, fun us' dk' w' u' d' r1 r2 m1 m2 m3 => ?_⟩
  obtain ⟨env2, w1, w2, w3⟩ := W (.lst us') (.ml ys) us' dk' w' u' d' kp ⟨a, rfl, rfl, rfl, upd_same⟩ r1 rfl r2 m1 m2 m3
  rw [hw] at w1; cases w1
  exact ⟨w2, w3⟩
theorem len1 {α : Type} {xs : List α} (h : 1 = xs.length) : ∃ x, xs = [x] := by
  match xs, h with
  | [x], _ => exact ⟨x, rfl⟩
theorem mt_append3 : MtR X "list.append" (liftM G rAppend3) := by
  refine mtR_imp (mt_append : MtR X "list.append" rAppend) ?_
  rintro x xs H Q ⟨g, env, σ, ob, evs, ev, env', s, q, k⟩
  unfold rAppend3 at q
  split at q
  · rename_i ev1
    split at q
    · rename_i ys hx
      split at q
      · rename_i hn
        obtain ⟨y, hy, q⟩ := Option.bind_eq_some_iff.mp q
        obtain ⟨e2, q1, q2⟩ := Option.map_eq_some_iff.mp q
        cases q2
        obtain ⟨v1, rfl⟩ := len1 (xs := xs) (by have := s.len; simp only [List.length_cons, List.length_nil] at this; omega)
        obtain ⟨a, us, dk, es, rfl, hl, ll, rl, rt, _, n1, n2, n4, W⟩ := s.wrL hx q1
        have rt1 := rt [y] (by simp [toTs, hy])
        obtain ⟨w2, w3⟩ := W (us ++ [v1]) (dk ++ es) (.im .non) .non .z (repTL_app rl rt1) rep_non
          (by rw [fps_app, fp_z, List.append_nil]; exact List.nodup_append.mpr ⟨n1, n2, fun p hp q hq e => by subst e; exact n4 p hp hq⟩)
          (fun q hq => by rw [fps_app, fp_z, List.append_nil] at hq; exact List.mem_append.mp hq)
          (fun _ => adr_ml_app rl.len.2)
        exact ⟨a, us, v1, rfl, rfl, hl, by rw [ll]; exact big_lt hn, k g _ _ w2 w3⟩
      · cases q
    · cases q
  · cases q
theorem repTL_im {Z : Addr → Prop} : ∀ {ws : List W} {vs : List V}, RepL G Z H ws vs → RepTL G Z H (ws.map T.im) vs (ws.map fun _ => D.z)
  | [], vs, r => ⟨r, rfl⟩
  | w :: ws, vs, ⟨v, r, e, a, b⟩ => ⟨v, r, .z, _, e, rfl, ⟨rfl, a⟩, repTL_im b⟩
theorem fps_z {α : Type} : ∀ {ws : List α}, fps (ws.map fun _ => D.z) = []
  | [] => rfl
  | w :: ws => by show fp D.z ++ fps (ws.map fun _ => D.z) = []; rw [fps_z, fp_z]; rfl
def rRev3 : FM := fun ob evs env => match evs with
  | [] => match rd env ob with
    | some (.ml xs) => (putE false ob (.ml xs.reverse) env).map fun e => (.im .non, e)
    | _ => none
  | _ => none
theorem repTL_rev {Z : Addr → Prop} : ∀ {xs : List T} {vs : List V} {ds : List D}, RepTL G Z H xs vs ds → RepTL G Z H xs.reverse vs.reverse ds.reverse
  | [], _, _, ⟨e1, e2⟩ => by rw [e1, e2]; exact ⟨rfl, rfl⟩
  | x :: xs, _, _, ⟨v, r, d, e, e1, e2, a, b⟩ => by
    rw [e1, e2, List.reverse_cons, List.reverse_cons, List.reverse_cons]
    exact repTL_app (repTL_rev b) ⟨v, [], d, [], rfl, rfl, a, rfl, rfl⟩
theorem fps_rev : ∀ {ds : List D}, (fps ds.reverse).Perm (fps ds)
  | [] => List.Perm.refl _
  | d :: ds => by
    rw [List.reverse_cons, fps_app]
    have : fps [d] = fp d := by simp [fps]
    rw [this]
    exact List.perm_append_comm.trans ((fps_rev (ds := ds)).append_left _)
theorem mt_rev3 : MtR X "list.reverse" (liftM G rRev3) := by
  refine mtR_imp (mt_reverse : MtR X "list.reverse" rReverse) ?_
  rintro x xs H Q ⟨g, env, σ, ob, evs, ev, env', s, q, k⟩
  unfold rRev3 at q
  split at q
  · split at q
    · rename_i ys hx
      obtain ⟨e2, q1, q2⟩ := Option.map_eq_some_iff.mp q
      cases q2
      have hx0 : xs = [] := by
        have := s.len
        simp only [List.length_cons, List.length_nil] at this
        exact List.length_eq_zero_iff.mp (by omega)
      subst hx0
      obtain ⟨a, us, dk, es, rfl, hl, ll, rl, rt, rW, n1, n2, n4, W⟩ := s.wrL hx q1
      obtain ⟨w2, w3⟩ := W us.reverse dk.reverse (.im .non) .non .z (repTL_rev rl) rep_non (by rw [fp_z, List.append_nil]; exact fps_rev.nodup_iff.mpr n1) (fun q hq => by rw [fp_z, List.append_nil] at hq; exact .inl (fps_rev.mem_iff.mp hq)) (fun z => by cases z)
      exact ⟨a, us, rfl, rfl, hl, k g _ _ w2 w3⟩
    · cases q
  · cases q
section
variable (hK : X.K = G.K)
abbrev eAppend (fo fe : M3 EV) : M3 EV := eBM isList rAppend3 fo (eCons fe eNil)
abbrev eReverse (fo : M3 EV) : M3 EV := eBM isList rRev3 fo eNil
end
theorem se_append (ho : SE G X Wx o fo) (he : SE G X Wx e fe) (hK : X.K = G.K := by rfl) (hb : attributeBase o "append" X.env (eval o X.env) = eval o X.env := by rfl)
    (hf : ((backTo cpos (starEach [e] X.env)).all (fun y => !y.1) && (backToKw cpos (keywordEach [] X.env)).all (fun y => y.1.isSome) && decide ([e].length + ([] : List Keyword).length + (if ([] : List Keyword).isEmpty then 0 else 1) < 30)) = true := by rfl)
    (hl : (apos.endLine == cpos.line) = true := by rfl) (hst : starEach [e] X.env = (false, eval e X.env) :: starEach [] X.env := by rfl) (hpl : (backTo cpos (starEach [] X.env)).any (·.1) = false := by rfl) :
    SE G X Wx (.Call (.Attribute o "append" apos) [e] [] cpos) (eAppend fo fe) := se_bmT (fun g H x v d h r => isTy_list hK h r) PySem.F.plainAttrs_list PySem.F.slot_list_append PySem.F.type_list_append mt_append3 ho (sa_cons he sa_nil hst) hb hf hl hst hpl
theorem se_reverse (ho : SE G X Wx o fo) (hK : X.K = G.K := by rfl) (hb : attributeBase o "reverse" X.env (eval o X.env) = eval o X.env := by rfl) (hl : (apos.endLine == cpos.line) = true := by rfl) :
    SE G X Wx (.Call (.Attribute o "reverse" apos) [] [] cpos) (eReverse fo) := se_bmT0 (fun g H x v d h r => isTy_list hK h r) PySem.F.plainAttrs_list PySem.F.slot_list_reverse PySem.F.type_list_reverse mt_rev3 ho hb hl
end
end VL
namespace VL
open PySem L2 PyProof.Rows
def fput {α : Type} (f : String) (x : α) : List (String × α) → List (String × α)
  | [] => [(f, x)]
  | (g, y) :: r => if g = f then (g, x) :: r else (g, y) :: fput f x r
def sSetFld (L : List String) (f : String) (fo fv : M3 EV) : S3 := fun env => match ePair fv fo env with
  | .ok (y, o) e => (match rd e o with
    | some (.mi C fs) => if C ∈ L ∧ fs.length < 100 then (match (toT y).bind fun x => putE false o (.mi C (fput f x fs)) e with
      | some e2 => .nx e2
      | none => .stuck) else .stuck
    | _ => .stuck)
  | .exc c e => .ex c e
  | .stuck => .stuck
def sAugFld (L : List String) (f : String) (fo fe : M3 EV) : S3 := fun env => match fo env with
  | .ok o e1 => (match fldE f o e1 with
    | some (C, .im (.int i)) => if C ∈ L then (match pendB o fe e1 with
      | .ok (.im (.int j)) e2 => (match rd e2 o with
        | some (.mi D fs) => if D = C ∧ fs.length < 100 then (match putE false o (.mi C (fput f (.im (.int (i + j))) fs)) e2 with
          | some e3 => .nx e3
          | none => .stuck) else .stuck
        | _ => .stuck)
      | .exc c e2 => .ex c e2
      | _ => .stuck) else .stuck
    | _ => .stuck)
  | .exc c e => .ex c e
  | .stuck => .stuck
abbrev FS := EV → EV → EV → Env3 → Option Env3
def eTrip (a b c : M3 EV) : M3 (EV × EV × EV) := fun env => match a env with
  | .ok x e1 => (match pendB x (ePair b c) e1 with
    | .ok (y, z) e2 => .ok (x, y, z) e2
    | .exc c e2 => .exc c e2
    | .stuck => .stuck)
  | .exc c e1 => .exc c e1
  | .stuck => .stuck
def setL3 : FS := fun o i y env => match rd env o, i with
  | some (.ml xs), .im (.int k) => (ixN xs.length k).bind fun j => (toT y).bind fun x => putE false o (.ml (xs.set j x)) env
  | _, _ => none
def sSetIx (r : FS) (fo fi fv : M3 EV) : S3 := fun env => match eTrip fv fo fi env with
  | .ok (y, o, i) e => (match r o i y e with
    | some e2 => .nx e2
    | none => .stuck)
  | .exc c e => .ex c e
  | .stuck => .stuck
section
variable {X : Cx} {G : Gm} {Wx : WX} {g g' : Gh} {env env' : Env3} {σ : L2.St} {H H' : Hp} {ds : Nat → D} {p pos apos cpos : Pos} {e o a b i : Expr} {es : List Expr} {fa fb fe fo fi fv : M3 EV} {t : M3 (List EV)}
theorem SimA.swap {x y : EV} {v u : V} {evs : List EV} {vs : List V} (s : SimA G g env σ H (x :: y :: evs) (v :: u :: vs)) : SimA G g env σ H (y :: x :: evs) (u :: v :: vs) := by
  obtain ⟨ds, es, s, v1, r1, d1, dr1, e1, e2, a1, ⟨v2, r2, d2, dr2, e3, e4, a2, a3, a4⟩, a5⟩ := s
  cases e1; cases e3; subst e4
  refine ⟨ds, d2 :: d1 :: dr2, s, u, v :: vs, d2, d1 :: dr2, rfl, rfl, a2, ⟨v, vs, d1, dr2, rfl, rfl, a1, a3, fun p hp hq => a5 p hp (by simp [fps, hq])⟩, fun p hp hq => ?_⟩
  simp only [fps, List.mem_append] at hq
  rcases hq with z | z
  · exact a5 p z (by simp [fps, hp])
  · exact a4 p hp z
theorem zipK_put {f : String} : ∀ {ns : List String} {us : List V} {v : V} {α : Type} {xs : List (String × α)} {x : α}, xs.map (·.1) = ns → us.length = ns.length →
    ∃ us', putF (Str.ofString f) v (zipK Str.ofString ns us) = zipK Str.ofString ((fput f x xs).map (·.1)) us' ∧ us'.length = ((fput f x xs).map (·.1)).length ∧
      ∀ (Z : Addr → Prop) (xs2 : List (String × T)) (y : T) (dk : List D) (dy : D), xs2.map (·.1) = ns → RepTL G Z H (xs2.map (·.2)) us dk → RepT G Z H y v dy → ∃ dk', RepTL G Z H ((fput f y xs2).map (·.2)) us' dk' ∧ (∀ q ∈ fps dk', q ∈ fps dk ∨ q ∈ fp dy) ∧ ((fps dk).Nodup → (fp dy).Nodup → (∀ q ∈ fps dk, q ∉ fp dy) → (fps dk').Nodup)
  | [], us, v, α, xs, x, h, hl => by
    have : us = [] := List.length_eq_zero_iff.mp hl
    subst this
    cases xs with
    | cons _ _ => cases h
    | nil =>
      refine ⟨[v], rfl, rfl, fun Z xs2 y dk dy h2 r1 r2 => ?_⟩
      cases xs2 with
      | cons _ _ => cases h2
      | nil => exact ⟨[dy], ⟨v, [], dy, [], rfl, rfl, r2, rfl, rfl⟩, fun q hq => .inr (by simpa [fps] using hq), fun _ h _ => by simpa [fps] using h⟩
  | n :: ns, [], v, α, xs, x, h, hl => by cases hl
  | n :: ns, u :: us, v, α, [], x, h, hl => by cases h
  | n :: ns, u :: us, v, α, (m, z) :: xs, x, h, hl => by
    simp only [List.map_cons, List.cons.injEq] at h
    obtain ⟨rfl, h⟩ := h
    by_cases e : m = f
    · subst e
      refine ⟨v :: us, ?_, by simp [fput, ← h] at hl ⊢; exact hl, fun Z xs2 y dk dy h2 r1 r2 => ?_⟩
      · simp only [zipK, putF, if_true, fput, List.map_cons, h]
      · cases xs2 with
        | nil => cases h2
        | cons q xs2 =>
          obtain ⟨m2, z2⟩ := q
          simp only [List.map_cons, List.cons.injEq] at h2
          obtain ⟨rfl, h2⟩ := h2
          obtain ⟨v0, r0, d0, dr, e1, e2, a1, a2⟩ := r1
          cases e1; subst e2
          simp only [fput, if_true, List.map_cons]
          refine ⟨dy :: dr, ⟨v, us, dy, dr, rfl, rfl, r2, a2⟩, fun q hq => ?_, fun n1 n2 n3 => ?_⟩
          · simp only [fps, List.mem_append] at hq ⊢
            exact hq.elim .inr fun z => .inl (.inr z)
          · simp only [fps] at n1 ⊢
            exact List.nodup_append.mpr ⟨n2, (List.nodup_append.mp n1).2.1, fun p hp q hq e => by subst e; exact n3 p (by simp [fps, hq]) hp⟩
    · have ne : ¬ Str.ofString m = Str.ofString f := fun z => e (ofString_inj z)
      obtain ⟨us', h1, h2, h3⟩ := zipK_put (f := f) (ns := ns) (us := us) (v := v) (xs := xs) (x := x) h (by simpa using hl)
      refine ⟨u :: us', ?_, ?_, fun Z xs2 y dk dy h4 r1 r2 => ?_⟩
      · simp only [zipK, putF, if_neg ne, fput, if_neg e, List.map_cons, h1]
      · simp only [fput, if_neg e, List.map_cons, List.length_cons, h2]
      · cases xs2 with
        | nil => cases h4
        | cons q xs2 =>
          obtain ⟨m2, z2⟩ := q
          simp only [List.map_cons, List.cons.injEq] at h4
          obtain ⟨rfl, h4⟩ := h4
          obtain ⟨v0, r0, d0, dr, e1, e2, a1, a2⟩ := r1
          cases e1; subst e2
          obtain ⟨dk', b1, b2, b3⟩ := h3 Z xs2 y dr dy h4 a2 r2
          simp only [fput, if_neg e, List.map_cons]
          refine ⟨d0 :: dk', ⟨u, us', d0, dk', rfl, rfl, a1, b1⟩, fun q hq => ?_, fun n1 n2 n3 => ?_⟩
          · simp only [fps, List.mem_append] at hq ⊢
            rcases hq with z | z
            · exact .inl (.inl z)
            · exact (b2 q z).imp .inr id
          · simp only [fps] at n1 ⊢
            obtain ⟨m1, m2', m3⟩ := List.nodup_append.mp n1
            refine List.nodup_append.mpr ⟨m1, b3 m2' n2 (fun q hq => n3 q (by simp [fps, hq])), fun p hp q hq e => ?_⟩
            subst e
            rcases b2 p hq with z | z
            · exact m3 p hp p z rfl
            · exact n3 p (by simp [fps, hp]) z
theorem fput_nodup {α : Type} {f : String} {x : α} : ∀ {xs : List (String × α)}, (xs.map (·.1)).Nodup → ((fput f x xs).map (·.1)).Nodup ∧ ∀ n, n ∈ (fput f x xs).map (·.1) → n = f ∨ n ∈ xs.map (·.1)
  | [], _ => by simp [fput]
  | (m, z) :: r, h => by
    simp only [List.map_cons, List.nodup_cons] at h
    by_cases e : m = f
    · simp only [fput, if_pos e, List.map_cons, List.nodup_cons]
      exact ⟨h, fun n hn => .inr hn⟩
    · simp only [fput, if_neg e, List.map_cons, List.nodup_cons]
      obtain ⟨h1, h2⟩ := fput_nodup (f := f) (x := x) h.2
      refine ⟨⟨fun z => (h2 _ z).elim e h.1, h1⟩, fun n hn => ?_⟩
      rcases List.mem_cons.mp hn with z | z
      · exact .inr (List.mem_cons.mpr (.inl z))
      · exact (h2 n z).imp id fun y => List.mem_cons.mpr (.inr y)
theorem zipK_len {ns : List String} {us : List V} (h : us.length = ns.length) : (zipK Str.ofString ns us).length = ns.length := by
  induction ns generalizing us with
  | nil => rfl
  | cons n r ih =>
    cases us with
    | nil => cases h
    | cons u us => simp only [zipK, List.length_cons]; rw [ih (by simpa using h)]
theorem SimA.wrF {f C : String} {ob y : EV} {v u : V} (s : SimA G g env σ H [ob, y] [v, u]) {fs : List (String × T)} {x : T} (hx : rd env ob = some (.mi C fs)) (hy : toT y = some x) (hw : putE false ob (.mi C (fput f x fs)) env = some env') :
    ∃ a dx zs, v = .ref a ∧ H a = some (.ins (G.cA C) dx zs) ∧ zs.length = fs.length ∧ Keep g H g (L2.upd H a (.ins (G.cA C) dx (putF (Str.ofString f) u zs))) ∧ SimN G g env' σ (L2.upd H a (.ins (G.cA C) dx (putF (Str.ofString f) u zs))) := by
  obtain ⟨k, ρ, rfl, hw'⟩ := simA_ptr hw
  obtain ⟨a, us, dk, es, rfl, sh, rl, rt, rW, n1, n2, n3, n4, kz, mu, W⟩ := s.wr hx rfl (wrS_lock hw')
  obtain ⟨a', dx, e1, e2, _, hl, hn⟩ := sh
  cases e2
  have ll : us.length = (fs.map (·.1)).length := by have := rl.len.1; simpa [T.kids] using this
  obtain ⟨us', p1, p2, p3⟩ := zipK_put (G := G) (H := H) (f := f) (v := u) (xs := fs) (x := x) rfl ll
  obtain ⟨v', r', d1, er, q1, q2, q3, q4⟩ := rt [x] (by simp [toTs, hy])
  cases q1; subst q2
  obtain ⟨dk', b1, b2, b3⟩ := p3 g.Z fs x dk d1 rfl rl q3
  rw [show er = [] from q4.2] at n2 n4 W
  have n2' : (fp d1).Nodup := by simpa [fps] using n2
  have n4' : ∀ q ∈ fps dk, q ∉ fp d1 := fun q hq => by have := n4 q hq; simpa [fps] using this
  obtain ⟨env2, w1, w2, w3⟩ := W (.ins (G.cA C) dx (putF (Str.ofString f) u (zipK Str.ofString (fs.map (·.1)) us))) (.mi C (fput f x fs)) us' dk' (.im .non) .non .z false
    ⟨a, dx, rfl, rfl, rfl, by rw [p1]; exact upd_same, (fput_nodup hn).1⟩ b1 rfl rep_non (by rw [fp_z, List.append_nil]; exact b3 n1 n2' n4') (fun q hq => by rw [fp_z, List.append_nil] at hq; exact (b2 q hq).imp id fun z => by simpa [fps] using z) (fun z => by cases z)
  rw [hw'] at w1; cases w1
  exact ⟨a, dx, _, rfl, hl, by rw [zipK_len ll]; simp, w2, w3.n⟩
variable {value : Expr} {pos' tpos : Pos}
theorem ss_fld {L : List String} {f : String} (hf : FldOk X.K G L f) (ho : SE G X Wx o fo) (hv : SE G X Wx value fv) (hs : swapsWith value (some (.Attribute o (Str.ofString f) pos')) pos.line X.env = pure false := by rfl) :
    SS G X Wx (.Assign [.Attribute o (Str.ofString f) pos'] value pos) (sSetFld L f fo fv) := by
  refine ps_imp (ps_fld ho hv hs) ?_
  rintro D σ H ⟨g, env, ds, s, h⟩
  refine pair_run (Q := fun y x H2 => ∃ a C dx fs, x = .ref a ∧ H2 a = some (.ins C dx fs) ∧ Cls X.K C ∧ NoAttr X.K C (Str.ofString f) ∧ fs.length < 1000 ∧ D.nx σ (upd H2 a (.ins C dx (putF (Str.ofString f) y fs)))) s ?_
  unfold sSetFld at h
  cases e : ePair fv fo env with
  | stuck => rw [e] at h; exact h.elim
  | exc c e2 => rw [e] at h; exact fun g' H' k' s' => h g' σ H' k' s'
  | ok yo e2 =>
    obtain ⟨y, ob⟩ := yo
    rw [e] at h
    intro g1 u v H1 k1 s1
    simp only at h
    split at h
    · rename_i C fs hx
      split at h
      · rename_i hC
        split at h
        · rename_i e3 hp
          obtain ⟨x, hy, hw⟩ := Option.bind_eq_some_iff.mp hp
          obtain ⟨a, dx, zs, rfl, ha, hl, kk, sn⟩ := s1.swap.wrF hx hy hw
          exact ⟨a, _, dx, zs, rfl, ha, (hf C hC.1).1, (hf C hC.1).2, by omega, h g1 σ _ (k1.trans kk) sn⟩
        · exact h.elim
      · exact h.elim
    · exact h.elim
def liftSet (G : Gm) (r : FS) : TSet := fun o i v H Q => ∃ g env σ ob iv y env', SimA G g env σ H [ob, y, iv] [o, v, i] ∧ r ob iv y env = some env' ∧ ∀ g' H', Keep g H g' H' → SimN G g' env' σ H' → Q H'
theorem pset_imp {r r' : TSet} (h : PSet X r) (k : ∀ o i v H Q, r' o i v H Q → r o i v H Q) : PSet X r' := fun pins s σ H o i v ov iv u Q I ro ri rv q => h pins s σ H o i v ov iv u Q I ro ri rv (k _ _ _ _ _ q)
theorem pset_or {r1 r2 : TSet} (h1 : PSet X r1) (h2 : PSet X r2) : PSet X (fun o i v H Q => r1 o i v H Q ∨ r2 o i v H Q) := fun pins s σ H o i v ov iv u Q I ro ri rv q => q.elim (h1 pins s σ H o i v ov iv u Q I ro ri rv) (h2 pins s σ H o i v ov iv u Q I ro ri rv)
theorem repTL_set {Z : Addr → Prop} : ∀ {xs : List T} {vs : List V} {ds : List D} {j : Nat} {x : T} {v : V} {d : D}, RepTL G Z H xs vs ds → RepT G Z H x v d → RepTL G Z H (xs.set j x) (vs.set j v) (ds.set j d)
  | [], _, _, j, x, v, d, ⟨e1, e2⟩, _ => by rw [e1, e2]; exact ⟨rfl, rfl⟩
  | y :: xs, _, _, 0, x, v, d, ⟨u, r, d0, dr, e1, e2, a, b⟩, h => by rw [e1, e2]; exact ⟨v, r, d, dr, rfl, rfl, h, b⟩
  | y :: xs, _, _, j + 1, x, v, d, ⟨u, r, d0, dr, e1, e2, a, b⟩, h => by rw [e1, e2]; exact ⟨u, r.set j v, d0, dr.set j d, rfl, rfl, a, repTL_set b h⟩
theorem fps_set {d : D} : ∀ {ds : List D} {j : Nat}, (∀ q ∈ fps (ds.set j d), q ∈ fps ds ∨ q ∈ fp d) ∧ ((fps ds).Nodup → (fp d).Nodup → (∀ q ∈ fps ds, q ∉ fp d) → (fps (ds.set j d)).Nodup)
  | [], j => by simp [fps]
  | e :: ds, 0 => by
    refine ⟨fun q hq => ?_, fun n1 n2 n3 => ?_⟩
    · simp only [List.set_cons_zero, fps, List.mem_append] at hq ⊢
      exact hq.elim .inr fun z => .inl (.inr z)
    · simp only [List.set_cons_zero, fps] at n1 ⊢
      exact List.nodup_append.mpr ⟨n2, (List.nodup_append.mp n1).2.1, fun p hp q hq e => by subst e; exact n3 p (by simp [fps, hq]) hp⟩
  | e :: ds, j + 1 => by
    obtain ⟨h1, h2⟩ := fps_set (d := d) (ds := ds) (j := j)
    refine ⟨fun q hq => ?_, fun n1 n2 n3 => ?_⟩
    · simp only [List.set_cons_succ, fps, List.mem_append] at hq ⊢
      rcases hq with z | z
      · exact .inl (.inl z)
      · exact (h1 q z).imp .inr id
    · simp only [List.set_cons_succ, fps] at n1 ⊢
      obtain ⟨m1, m2, m3⟩ := List.nodup_append.mp n1
      refine List.nodup_append.mpr ⟨m1, h2 m2 n2 (fun q hq => n3 q (by simp [fps, hq])), fun p hp q hq e => ?_⟩
      subst e
      rcases h1 p hq with z | z
      · exact m3 p hp p z rfl
      · exact n3 p (by simp [fps, hp]) z
theorem set_L3 : PSet X (liftSet G setL3) := by
  refine pset_imp set_list ?_
  rintro o i v H Q ⟨g, env, σ, ob, iv, y, env', s, q, k⟩
  unfold setL3 at q
  split at q
  · rename_i xs kk hx
    obtain ⟨j, hj, q⟩ := Option.bind_eq_some_iff.mp q
    obtain ⟨x, hy, hw⟩ := Option.bind_eq_some_iff.mp q
    have si : i = .int kk := s.swap.tl.snd.imR
    obtain ⟨a, us, dk, es, rfl, hl, ll, rl, rt, rW, n1, n2, n4, W⟩ := s.wrL hx hw
    obtain ⟨v', r', d1, er, q1, q2, q3, q4⟩ := rt [x, .im (.int kk)] (by unfold toTs; rw [hy]; rfl)
    cases q1; subst q2
    have ez : fps er = [] := by
      obtain ⟨_, _, d2, e2, _, e3, e4, e5⟩ := q4
      rw [e3, e4.1, e5.2]; simp [fps, fp_z]
    have n2' : (fp d1).Nodup := by simpa [fps, ez] using n2
    have n4' : ∀ q ∈ fps dk, q ∉ fp d1 := fun q hq => by have := n4 q hq; simpa [fps, ez] using this
    obtain ⟨f1, f2⟩ := fps_set (d := d1) (ds := dk) (j := j)
    obtain ⟨w2, w3⟩ := W (us.set j v) (dk.set j d1) (.im .non) .non .z (repTL_set rl q3) rep_non (by rw [fp_z, List.append_nil]; exact f2 n1 n2' n4')
      (fun q hq => by rw [fp_z, List.append_nil] at hq; exact (f1 q hq).imp id fun z => by simpa [fps, ez] using z) (fun z => by cases z)
    exact ⟨a, us, kk, j, rfl, si, hl, by rw [ll]; exact hj, k g _ w2 w3.n⟩
  · cases q
theorem pend_P {ev : EV} {v : V} {f h2 : M3 EV} {Q : V → V → Hp → Prop} (s : SimE G g env σ H ev v) (h : match pendB ev (ePair f h2) env with
    | .ok (y, z) env2 => ∀ g' u w H', Keep g H g' H' → SimA G g' env2 σ H' [ev, y, z] [v, u, w] → Q u w H'
    | .exc c env2 => SatX G Wx g σ H c env2
    | .stuck => False) : liftE G Wx f σ H fun u H1 => liftE G Wx h2 σ H1 fun w H2 => Q u w H2 := by
  obtain ⟨ds, d, s, r⟩ := s
  obtain ⟨g1, s1, hz, pk⟩ := s.pend r
  refine pair_run (Q := Q) s1 ?_
  unfold pendB at h
  cases e : ePair f h2 (lockE ev env) with
  | stuck => rw [e] at h; exact h.elim
  | exc c env2 =>
    rw [e] at h
    intro g2 H2 k2 ⟨ds2, s2⟩
    obtain ⟨g3, _, k3, s3, _⟩ := pk g2 env2 H2 σ ds2 k2 s2
    exact h g3 H2 k3 ⟨ds2, s3⟩
  | ok yz env2 =>
    obtain ⟨y, z⟩ := yz
    rw [e] at h
    intro g2 u w H2 k2 ⟨ds2, es, s2, l2⟩
    obtain ⟨g3, hz3, k3, s3, r3, l3⟩ := pk g2 env2 H2 σ ds2 k2 s2
    by_cases ok : okE ev env2 = true
    · simp only [ok, if_true] at h
      obtain ⟨l4, l5⟩ := l3 _ _ _ l2
      exact h g3 u w H2 k3 ⟨ds2, d :: es, s3, v, [u, w], d, es, rfl, rfl, r3 rfl ok, l4, l5⟩
    · simp only [ok] at h; exact h.elim
theorem ss_setix' {r : FS} (hr : PSet X (liftSet G r)) (ho : SE G X Wx o fo) (hi : SE G X Wx i fi) (hv : SE G X Wx value fv) (hs : swapsWithSole [.Subscript o i pos'] value pos.line X.env = pure false) (hw : swappedStores [.Subscript o i pos'] value X.env = pure none)
    (h1 : (assignEach [.Subscript o i pos'] X.env).map (·.2) = [assign (.Subscript o i pos') X.env])
    (ha : ∀ v, assign (.Subscript o i pos') X.env v = (do
      let ov ← holding [v] (eval o X.env)
      let iv ← holding [v, ov] (eval i X.env)
      standAt pos'
      holding [v, ov, iv] (setItem ov iv v)
      release [v, ov, iv] [])) : SS G X Wx (.Assign [.Subscript o i pos'] value pos) (sSetIx r fo fi fv) := by
  refine ps_imp (ps_asg hv (pg_sub ho hi hr ha) hs hw h1) ?_
  rintro D σ H ⟨g, env, ds, s, h⟩
  refine ⟨g, env, ds, s, ?_⟩
  unfold sSetIx eTrip at h
  cases e1 : fv env with
  | stuck => rw [e1] at h; exact h.elim
  | exc c e2 => rw [e1] at h; exact fun g' H' k' s' => h g' σ H' k' s'
  | ok y e2 =>
    simp only [e1] at h
    intro g1 v H1 k1 s1
    refine pend_P (Q := fun u w H2 => liftSet G r u w v H2 fun H3 => D.nx σ H3) s1 ?_
    cases e3 : pendB y (ePair fo fi) e2 with
    | stuck => simp only [e3] at h; exact h.elim
    | exc c e4 => simp only [e3] at h; exact fun g' H' k' s' => h g' σ H' (k1.trans k') s'
    | ok yz e4 =>
      obtain ⟨ob, iv⟩ := yz
      simp only [e3] at h
      intro g2 u w H2 k2 s2
      split at h
      · rename_i e5 hr
        exact ⟨g2, e4, σ, ob, iv, y, e5, s2.swap, hr, fun g' H' k' s' => h g' σ H' ((k1.trans k2).trans k') s'⟩
      · exact h.elim
end
end VL
namespace VL
open PySem L2 PyProof.Rows
abbrev FC := List EV → Env3 → Option EV
def eCB (r : FC) (t : M3 (List EV)) : M3 EV := fun env => match t env with
  | .ok evs e => (match r evs e with
    | some ev => .ok ev e
    | none => .stuck)
  | .exc c e => .exc c e
  | .stuck => .stuck
def liftC (G : Gm) (r : FC) : List V → Hp → VK → Prop := fun xs H Q => ∃ g env σ evs ev, SimA G g env σ H evs xs ∧ r evs env = some ev ∧ ∀ g' v H', Keep g H g' H' → SimE G g' env σ H' ev v → Q v H'
def seqT : T → Option (List T)
  | .ml xs => some xs
  | .tp xs => some xs
  | .im w => (seqW w).map fun ws => ws.map T.im
  | _ => none
section
variable {X : Cx} {G : Gm} {Wx : WX} {g g' : Gh} {env env' : Env3} {σ : L2.St} {H H' : Hp} {ds : Nat → D} {p pos apos cpos : Pos} {e o a b : Expr} {es : List Expr} {fa fb fe fo : M3 EV} {t : M3 (List EV)} {Z : Addr → Prop} {x : Str}
theorem callR_imp {f : Value} {r r' : List V → Hp → VK → Prop} (h : CallR X f r) (i : ∀ xs H Q, r' xs H Q → r xs H Q) : CallR X f r' := fun pins s σ H xs us Q I rx q => h pins s σ H xs us Q I rx (i _ _ _ q)
theorem callR_or {f : Value} {r1 r2 : List V → Hp → VK → Prop} (h1 : CallR X f r1) (h2 : CallR X f r2) : CallR X f (fun xs H Q => r1 xs H Q ∨ r2 xs H Q) := fun pins s σ H xs us Q I rx q => q.elim (h1 pins s σ H xs us Q I rx) (h2 pins s σ H xs us Q I rx)
theorem cb3 {r : FC} : ∀ σ H Q, liftE G Wx (eCB r t) σ H Q → tCB (liftC G r) (liftA G Wx t) σ H Q := by
  rintro σ H Q ⟨g, env, ds, s, h⟩
  refine ⟨g, env, ds, s, ?_⟩
  unfold eCB at h
  cases e1 : t env with
  | stuck => rw [e1] at h; exact h.elim
  | exc c e2 => rw [e1] at h; exact h
  | ok evs e2 =>
    simp only [e1] at h
    intro g1 vs H1 k1 s1
    split at h
    · rename_i ev hr
      exact ⟨g1, e2, σ, evs, ev, s1, hr, fun g' v H' k' s' => h g' v H' (k1.trans k') s'⟩
    · exact h.elim
theorem se_callB {id : String} {r : FC} (hc : CallR X (.builtin id) (liftC G r)) (hg : Gl X x) (hm : X.mg x = none) (hv : bootBuiltins x = some (.builtin id)) (ha : SA G X Wx (e :: es) t) (hn : x ≠ "__name__" := by decide) (hdb : (x == ("__debug__" : Str)) = false := by decide)
    (he : starEach (e :: es) X.env = (false, eval e X.env) :: starEach es X.env := by rfl) (hpl : (backTo pos (starEach es X.env)).any (·.1) = false := by rfl) : SE G X Wx (.Call (.Name x p) (e :: es) [] pos) (eCB r t) :=
  pe_imp (pe_callB hc hg hm hv ha hn hdb he hpl) cb3
theorem se_callTy {T : String} {r : FC} (hc : CallR X (.type T) (liftC G r)) (hg : Gl X x) (hm : X.mg x = none) (hv : bootBuiltins x = some (.type T)) (ha : SA G X Wx (e :: es) t) (hn : x ≠ "__name__" := by decide) (hdb : (x == ("__debug__" : Str)) = false := by decide)
    (he : starEach (e :: es) X.env = (false, eval e X.env) :: starEach es X.env := by rfl) (hpl : (backTo pos (starEach es X.env)).any (·.1) = false := by rfl) : SE G X Wx (.Call (.Name x p) (e :: es) [] pos) (eCB r t) :=
  pe_imp (pe_callTy hc hg hm hv ha hn hdb he hpl) cb3
theorem SimA.tree1 {ev : EV} {xs : List V} (s : SimA G g env σ H [ev] xs) {x : T} (h : rd env ev = some x) : ∃ v d, xs = [v] ∧ RepT G g.Z H x v d := by
  obtain ⟨v, rfl⟩ := len1 (xs := xs) (by have := s.len; simp only [List.length_cons, List.length_nil] at this; omega)
  obtain ⟨d, r⟩ := s.hd.rd h
  exact ⟨v, d, rfl, r⟩
theorem len2 {α : Type} {xs : List α} (h : 2 = xs.length) : ∃ x y, xs = [x, y] := by
  match xs, h with
  | [x, y], _ => exact ⟨x, y, rfl⟩
theorem SimA.ints2 {i j : Int} {xs : List V} (s : SimA G g env σ H [.im (.int i), .im (.int j)] xs) : xs = [.int i, .int j] := by
  obtain ⟨v, u, rfl⟩ := len2 (xs := xs) (by have := s.len; simp only [List.length_cons, List.length_nil] at this; omega)
  rw [show v = V.int i from s.hd.imR, show u = V.int j from s.snd.imR]
theorem SimA.int1 {i : Int} {xs : List V} (s : SimA G g env σ H [.im (.int i)] xs) : xs = [.int i] := by
  obtain ⟨v, rfl⟩ := len1 (xs := xs) (by have := s.len; simp only [List.length_cons, List.length_nil] at this; omega)
  rw [show v = V.int i from s.hd.imR]
theorem seqW_rep {w : W} {v : V} {ws : List W} (h : seqW w = some ws) (r : Rep G Z H w v) : ∃ p vs, v = .ref p ∧ (SqL G.K H p vs ∨ SqT G.K H p vs) ∧ RepL G Z H ws vs := by
  cases w with
  | tup xs => cases h; obtain ⟨p, vs, rfl, h1, r1⟩ := r; exact ⟨p, vs, rfl, .inr (SqT.of h1), r1⟩
  | lst xs => cases h; obtain ⟨p, vs, rfl, _, h1, r1⟩ := r; exact ⟨p, vs, rfl, .inl (.inl (.inl h1)), r1⟩
  | scr xs => cases h; obtain ⟨p, vs, rfl, h1, r1⟩ := r; exact ⟨p, vs, rfl, .inl h1.seq, r1⟩
  | ktp xs => cases h; obtain ⟨p, vs, rfl, h1, r1⟩ := r; exact ⟨p, vs, rfl, .inr h1, r1⟩
  | _ => cases h
theorem seqT_rep {x : T} {v : V} {d : D} {xs : List T} (h : seqT x = some xs) (r : RepT G Z H x v d) : ∃ p vs dl, v = .ref p ∧ (SqL G.K H p vs ∨ SqT G.K H p vs) ∧ RepTL G Z H xs vs dl := by
  cases x with
  | ml ys => cases h; obtain ⟨p, vs, dl, rfl, _, h1, r1⟩ := r; exact ⟨p, vs, dl, rfl, .inl (.inl (.inl h1)), r1⟩
  | tp ys => cases h; obtain ⟨p, vs, dl, rfl, _, h1, r1⟩ := r; exact ⟨p, vs, dl, rfl, .inr (SqT.of h1), r1⟩
  | im w =>
    obtain ⟨ws, h1, rfl⟩ := Option.map_eq_some_iff.mp (show (seqW w).map (fun ws => ws.map T.im) = some xs from h)
    obtain ⟨p, vs, rfl, h2, r2⟩ := seqW_rep h1 r.2
    exact ⟨p, vs, _, rfl, h2, repTL_im r2⟩
  | _ => cases h
theorem allI_rep : ∀ {xs : List T} {vs : List V} {dl : List D} {ws : List W}, allI xs = some ws → RepTL G Z H xs vs dl → RepL G Z H ws vs
  | [], vs, dl, ws, h, r => by cases h; exact r.1
  | .im w :: xs, vs, dl, ws, h, ⟨v, rr, d, dr, e1, e2, a, b⟩ => by
    obtain ⟨ws', h1, rfl⟩ := Option.map_eq_some_iff.mp (show (allI xs).map (w :: ·) = some ws from h)
    exact ⟨v, rr, e1, a.2, allI_rep h1 b⟩
  | .ml _ :: _, _, _, _, h, _ => by cases h
  | .md _ :: _, _, _, _, h, _ => by cases h
  | .mt _ :: _, _, _, _, h, _ => by cases h
  | .mi _ _ :: _, _, _, _, h, _ => by cases h
  | .tp _ :: _, _, _, _, h, _ => by cases h
def lenT (x : T) : Option Nat := match x with
  | .im (.str s) => if s.length ≤ 10000000 then some s.length else none
  | x => (seqT x).map List.length
def rLen3 : FC := fun evs env => match evs with
  | [ev] => (rd env ev).bind fun x => (lenT x).map fun n : Nat => .im (.int (n : Int))
  | _ => none
theorem call_rLen (hK : X.K = G.K) : CallR X (.builtin "len") (liftC G rLen3) := by
  refine callR_imp (callR_or call_len_seq call_len_str) ?_
  rintro xs H Q ⟨g, env, σ, evs, ev, s, q, k⟩
  unfold rLen3 at q
  split at q
  · rename_i ev1
    obtain ⟨x, hx, q⟩ := Option.bind_eq_some_iff.mp q
    obtain ⟨n, hn, rfl⟩ := Option.map_eq_some_iff.mp q
    obtain ⟨v, d, rfl, r⟩ := s.tree1 hx
    obtain ⟨ds, _, sm, _⟩ := id s
    have fin := k g (.int n) H (Keep.refl g H) (sm.im rfl)
    unfold lenT at hn
    split at hn
    · rename_i z
      split at hn
      · rename_i hz
        cases hn
        exact .inr ⟨Str.ofString z, by rw [show v = _ from r.2], by rw [ofString_len]; exact big_size hz, by rw [ofString_len]; exact fin⟩
      · cases hn
    · obtain ⟨ys, h1, rfl⟩ := Option.map_eq_some_iff.mp hn
      obtain ⟨p, vs, dl, rfl, h2, r2⟩ := seqT_rep h1 r
      exact .inl ⟨p, vs, rfl, hK ▸ h2, by rw [r2.len.1]; exact fin⟩
  · cases q
def rI1 (f : Int → W) : FC := fun evs _ => match evs with
  | [.im (.int i)] => some (.im (f i))
  | _ => none
def rI2 (f : Int → Int → W) : FC := fun evs _ => match evs with
  | [.im (.int i), .im (.int j)] => some (.im (f i j))
  | _ => none
abbrev rAbs3 : FC := rI1 fun i => .int (if i < 0 then -i else i)
abbrev rMin3 : FC := rI2 fun i j => .int (if j < i then j else i)
instance {i j : Int} : Decidable (CDiv i j) := inferInstanceAs (Decidable (_ ∧ _))
theorem call_rAbs : CallR X (.builtin "abs") (liftC G rAbs3) := by
  refine callR_imp call_abs ?_
  rintro xs H Q ⟨g, env, σ, evs, ev, s, q, k⟩
  unfold rAbs3 rI1 at q
  split at q
  · cases q
    obtain ⟨ds, _, sm, _⟩ := id s
    rw [s.int1]
    exact ⟨_, rfl, k g _ H (Keep.refl g H) (sm.im rfl)⟩
  · cases q
theorem call_rMin (hc : X.calm = true) : CallR X (.builtin "min") (liftC G rMin3) := by
  refine callR_imp (call_min2 hc) ?_
  rintro xs H Q ⟨g, env, σ, evs, ev, s, q, k⟩
  unfold rMin3 rI2 at q
  split at q
  · cases q
    obtain ⟨ds, _, sm, _⟩ := id s
    rw [s.ints2]
    exact ⟨_, _, rfl, k g _ H (Keep.refl g H) (sm.im rfl)⟩
  · cases q
theorem se_abs (hg : Gl X "abs") (hm : X.mg "abs" = none) (ha : SA G X Wx (e :: es) t) (he : starEach (e :: es) X.env = (false, eval e X.env) :: starEach es X.env := by rfl) (hpl : (backTo pos (starEach es X.env)).any (·.1) = false := by rfl) :
    SE G X Wx (.Call (.Name "abs" p) (e :: es) [] pos) (eCB rAbs3 t) := se_callB call_rAbs hg hm (by decide +kernel) ha (by decide) (by decide) he hpl
theorem se_min2 (hg : Gl X "min") (hm : X.mg "min" = none) (ha : SA G X Wx (e :: es) t) (hc : X.calm = true := by rfl) (he : starEach (e :: es) X.env = (false, eval e X.env) :: starEach es X.env := by rfl) (hpl : (backTo pos (starEach es X.env)).any (·.1) = false := by rfl) :
    SE G X Wx (.Call (.Name "min" p) (e :: es) [] pos) (eCB rMin3 t) := se_callB (call_rMin hc) hg hm (by decide +kernel) ha (by decide) (by decide) he hpl
def flatT (x : T) : Option (List W) := (seqT x).bind allI
theorem flatT_rep {x : T} {v : V} {d : D} {ws : List W} (h : flatT x = some ws) (r : RepT G Z H x v d) : ∃ p vs, v = .ref p ∧ (SqL G.K H p vs ∨ SqT G.K H p vs) ∧ RepL G Z H ws vs := by
  obtain ⟨xs, h1, h2⟩ := Option.bind_eq_some_iff.mp h
  obtain ⟨p, vs, dl, e, h3, r1⟩ := seqT_rep h1 r
  exact ⟨p, vs, e, h3, allI_rep h2 r1⟩
def rList3 : FC := fun evs env => match evs with
  | [ev] => (rd env ev).bind fun x => (flatT x).map fun ws => .tmp (.ml (ws.map T.im))
  | _ => none
def rowL : T → Option (List W)
  | .ml xs => allI xs
  | .im (.lst ws) => some ws
  | .im (.scr ws) => some ws
  | _ => none
theorem rowL_rep {x : T} {v : V} {d : D} {ws : List W} (h : rowL x = some ws) (r : RepT G Z H x v d) : ∃ p vs, v = .ref p ∧ SqL G.K H p vs ∧ RepL G Z H ws vs := by
  cases x with
  | ml xs => obtain ⟨p, vs, dl, rfl, _, h1, r1⟩ := r; exact ⟨p, vs, rfl, .inl (.inl h1), allI_rep h r1⟩
  | im w =>
    cases w with
    | lst xs => cases h; obtain ⟨_, p, vs, rfl, _, h1, r1⟩ := r; exact ⟨p, vs, rfl, .inl (.inl h1), r1⟩
    | scr xs => cases h; obtain ⟨_, p, vs, rfl, h1, r1⟩ := r; exact ⟨p, vs, rfl, h1.seq, r1⟩
    | _ => cases h
  | _ => cases h
def tupOf (x : T) : Option (List W) := match x with
  | .im (.tup ws) => some ws
  | x => rowL x
theorem Sim.newL {ds : Nat → D} (s : Sim G g env σ H ds) {l : Addr} {vs : List V} {ws : List W} (hl : H l = none) (r : RepL G g.Z H ws vs) : Keep g H g (L2.upd H l (.lst vs)) ∧ SimE G g env σ (L2.upd H l (.lst vs)) (.tmp (.ml (ws.map T.im))) (.ref l) := by
  have kn := Keep.new (o := .lst vs) hl s
  have f := s.free hl
  refine ⟨kn, ds, .nd (some l) true (ws.map fun _ => D.z), s.new hl, ⟨l, vs, _, rfl, rfl, upd_same, repTL_im (r.keep kn.kz)⟩, rfl, ?_, fun q hq => ?_⟩
  · simp [fp, fps_z]
  · have : q = l := by simpa [fp, fps_z] using hq
    subst this
    exact f
theorem call_rList (hK : X.K = G.K) : CallR X (.type "list") (liftC G rList3) := by
  refine callR_imp call_list_of ?_
  rintro xs H Q ⟨g, env, σ, evs, ev, s, q, k⟩
  unfold rList3 at q
  split at q
  · rename_i ev1
    obtain ⟨x, hx, q⟩ := Option.bind_eq_some_iff.mp q
    obtain ⟨ws, hw, rfl⟩ := Option.map_eq_some_iff.mp q
    obtain ⟨v, d, rfl, r⟩ := s.tree1 hx
    obtain ⟨ds, _, sm, _⟩ := id s
    obtain ⟨p, vs, rfl, h1, r1⟩ := flatT_rep hw r
    refine ⟨p, vs, rfl, hK ▸ h1, fun l hl => ?_⟩
    obtain ⟨kn, sn⟩ := sm.newL hl r1
    exact k g _ _ kn sn
  · cases q
abbrev MO := Env3 → Out (Option Int)
def liftO (G : Gm) (Wx : WX) (f : MO) : TO := fun σ H Q => ∃ g env ds, Sim G g env σ H ds ∧ match f env with
  | .ok b env' => ∀ g' H', Keep g H g' H' → SimN G g' env' σ H' → Q b H'
  | .exc c env' => SatX G Wx g σ H c env'
  | .stuck => False
abbrev SO (G : Gm) (X : Cx) (Wx : WX) (e : Option Expr) (f : MO) : Prop := PO X e (liftO G Wx f)
def oNo : MO := fun env => .ok none env
def oPart (f : M3 EV) : MO := fun env => match f env with
  | .ok (.im (.int i)) e => .ok (some i) e
  | .exc c e => .exc c e
  | _ => .stuck
theorem po_imp {e : Option Expr} {t t' : TO} (h : PO X e t) (i : ∀ σ H Q, t' σ H Q → t σ H Q) : PO X e t' := ⟨fun pins s σ H Q I q => h.run pins s σ H Q I (i _ _ _ q)⟩
theorem so_none : SO G X Wx none oNo := by
  refine po_imp po_none ?_
  rintro σ H Q ⟨g, env, ds, s, h⟩
  exact h g H (Keep.refl g H) ⟨ds, s⟩
theorem so_some (h : SE G X Wx e fe) : SO G X Wx (some e) (oPart fe) := by
  refine po_imp (po_some h) ?_
  rintro σ H Q ⟨g, env, ds, s, h⟩
  refine ⟨g, env, ds, s, ?_⟩
  unfold oPart at h
  cases e1 : fe env with
  | stuck => simp only [e1] at h
  | exc c e2 => simp only [e1] at h; exact h
  | ok ev e2 =>
    intro g1 v H1 k1 s1
    cases ev with
    | tmp _ => simp only [e1] at h
    | ptr _ _ => simp only [e1] at h
    | im w =>
      cases w with
      | int i =>
        simp only [e1] at h
        exact ⟨i, s1.imR, h g1 H1 k1 s1.n⟩
      | _ => simp only [e1] at h
def cutA {α : Type} (xs : List α) (lo hi : Option Int) : List α := (xs.drop (HT.sIx xs.length 0 lo)).take (HT.sIx xs.length xs.length hi - HT.sIx xs.length 0 lo)
def cutT (s : String) (lo hi : Option Int) : String := String.ofList (cutA s.toList lo hi)
theorem RepL.drop : ∀ {n : Nat} {xs : List W} {vs : List V}, RepL G Z H xs vs → RepL G Z H (xs.drop n) (vs.drop n)
  | 0, _, _, r => r
  | n + 1, [], _, r => by rw [show _ = _ from r]; exact rfl
  | n + 1, x :: xs, _, ⟨v, r, e, a, b⟩ => by rw [e]; exact RepL.drop (n := n) b
theorem RepL.take : ∀ {n : Nat} {xs : List W} {vs : List V}, RepL G Z H xs vs → RepL G Z H (xs.take n) (vs.take n)
  | 0, _, _, r => rfl
  | n + 1, [], _, r => by rw [show _ = _ from r]; exact rfl
  | n + 1, x :: xs, _, ⟨v, r, e, a, b⟩ => by rw [e]; exact ⟨v, r.take n, rfl, a, RepL.take (n := n) b⟩
theorem cut_rep {xs : List W} {vs : List V} (r : RepL G Z H xs vs) (lo hi : Option Int) : RepL G Z H (cutA xs lo hi) (cutV vs lo hi) := by
  unfold cutA cutV
  rw [r.length]
  exact (RepL.drop r).take
theorem ofString_cut (s : String) (lo hi : Option Int) : cutS (Str.ofString s) lo hi = Str.ofString (cutT s lo hi) := by
  unfold cutS cutT cutA
  rw [Str.ofString_eq_toList (String.ofList _), ofString_cps, ofString_len]
  simp only [String.toList_ofList, List.map_take, List.map_drop, String.length_toList]
def cutX (x : T) (lo hi : Option Int) : Option EV := match x with
  | .im (.str s) => if s.length ≤ 10000000 then some (.im (.str (cutT s lo hi))) else none
  | .im (.tup ws) => some (.im (.tup (cutA ws lo hi)))
  | x => (rowL x).map fun ws => .tmp (.ml ((cutA ws lo hi).map T.im))
def eSl (fo : M3 EV) (fl fh : MO) : M3 EV := fun env => match fo env with
  | .ok o e1 => (match pendB o (fun e => match fl e with
      | .ok l e' => (match fh e' with
        | .ok h e'' => .ok (l, h) e''
        | .exc c e'' => .exc c e''
        | .stuck => .stuck)
      | .exc c e' => .exc c e'
      | .stuck => .stuck) e1 with
    | .ok (l, h) e2 => (match (rd e2 o).bind fun x => cutX x l h with
      | some ev => .ok ev e2
      | none => .stuck)
    | .exc c e2 => .exc c e2
    | .stuck => .stuck)
  | .exc c e1 => .exc c e1
  | .stuck => .stuck
def liftSl (G : Gm) : V → Option Int → Option Int → Hp → VK → Prop := fun x lo hi H Q => ∃ g env σ ob y ev, SimE G g env σ H ob x ∧ rd env ob = some y ∧ cutX y lo hi = some ev ∧ ∀ g' v H', Keep g H g' H' → SimE G g' env σ H' ev v → Q v H'
theorem slR_imp {r r' : V → Option Int → Option Int → Hp → VK → Prop} (h : L2.SlR X r) (i : ∀ x lo hi H Q, r' x lo hi H Q → r x lo hi H Q) : L2.SlR X r' := fun pins s σ H x v vl vu lo hi sl Q I rx hs pl pu q => h pins s σ H x v vl vu lo hi sl Q I rx hs pl pu (i _ _ _ _ _ q)
theorem sl_all (hK : X.K = G.K) : L2.SlR X (liftSl G) := by
  refine slR_imp ((sl_list (X := X)).or ((sl_tupA (X := X)).or sl_str)) ?_
  rintro x lo hi H Q ⟨g, env, σ, ob, y, ev, s, hy, hc, k⟩
  obtain ⟨d, r⟩ := s.rd hy
  obtain ⟨ds, sm⟩ := s.n
  unfold cutX at hc
  split at hc
  · rename_i z
    split at hc
    · rename_i hz
      cases hc
      exact .inr (.inr ⟨Str.ofString z, r.2, by rw [ofString_len]; exact big_size hz, by rw [ofString_cut]; exact k g _ H (Keep.refl g H) (sm.im rfl)⟩)
    · cases hc
  · rename_i ws
    cases hc
    obtain ⟨_, p, vs, rfl, h1, r1⟩ := r
    refine .inr (.inl ⟨p, vs, rfl, SqT.of h1, fun hw => ?_, fun hw l hl => ?_⟩)
    · have e : cutA ws lo hi = ws := by
        unfold cutA
        rw [← r1.length, hw.1, hw.2, r1.length]
        simp
      rw [e] at k
      exact k g _ H (Keep.refl g H) (sm.im ⟨p, vs, rfl, h1, r1⟩)
    · have kn := Keep.new (o := .tup (cutV vs lo hi)) hl sm
      exact k g _ _ kn ((sm.new hl).im ⟨l, _, rfl, upd_same, cut_rep (r1.keep kn.kz) lo hi⟩)
  · obtain ⟨ws, h1, rfl⟩ := Option.map_eq_some_iff.mp hc
    obtain ⟨p, vs, rfl, h2, r1⟩ := rowL_rep h1 r
    refine .inl ⟨p, vs, rfl, hK ▸ h2, fun l hl => ?_⟩
    obtain ⟨kn, sn⟩ := sm.newL hl (cut_rep r1 lo hi)
    exact k g _ _ kn sn
theorem se_sl {lo hi : Option Expr} {fl fh : MO} {p2 : Pos} (he : SE G X Wx e fo) (hl : SO G X Wx lo fl) (hu : SO G X Wx hi fh) (hK : X.K = G.K := by rfl) : SE G X Wx (.Subscript e (.Slice lo hi none p2) pos) (eSl fo fl fh) := by
  refine pe_imp (pe_slice (sl_all hK) he hl hu) ?_
  rintro σ H Q ⟨g, env, ds, s, h⟩
  refine ⟨g, env, ds, s, ?_⟩
  unfold eSl at h
  cases e1 : fo env with
  | stuck => rw [e1] at h; exact h.elim
  | exc c e2 => rw [e1] at h; exact h
  | ok ob e2 =>
    simp only [e1] at h
    intro g1 v H1 k1 s1
    obtain ⟨ds1, d1, s1', r1⟩ := id s1
    obtain ⟨g2, s2, hz, pk⟩ := s1'.pend r1
    refine ⟨g2, lockE ob e2, ds1, s2, ?_⟩
    unfold pendB at h
    cases e3 : fl (lockE ob e2) with
    | stuck => simp only [e3] at h; exact h.elim
    | exc c e4 =>
      simp only [e3] at h
      intro g3 H3 k3 ⟨ds3, s3⟩
      obtain ⟨g4, _, k4, s4, _⟩ := pk g3 e4 H3 σ ds3 k3 s3
      exact h g4 H3 (k1.trans k4) ⟨ds3, s4⟩
    | ok l e4 =>
      simp only [e3] at h
      intro g3 H3 k3 ⟨ds3, s3⟩
      refine ⟨g3, e4, ds3, s3, ?_⟩
      cases e5 : fh e4 with
      | stuck => simp only [e5] at h; exact h.elim
      | exc c e6 =>
        simp only [e5] at h
        intro g5 H5 k5 ⟨ds5, s5⟩
        obtain ⟨g6, _, k6, s6, _⟩ := pk g5 e6 H5 σ ds5 (k3.trans k5) s5
        exact h g6 H5 (k1.trans k6) ⟨ds5, s6⟩
      | ok hh e6 =>
        simp only [e5] at h
        intro g5 H5 k5 ⟨ds5, s5⟩
        obtain ⟨g6, _, k6, s6, r6, _⟩ := pk g5 e6 H5 σ ds5 (k3.trans k5) s5
        by_cases ok : okE ob e6 = true
        · simp only [ok, if_true] at h
          split at h
          · rename_i ev hr
            obtain ⟨y, hy, hc⟩ := Option.bind_eq_some_iff.mp hr
            exact ⟨g6, unlE ob e6, σ, ob, y, ev, ⟨ds5, d1, s6, r6 rfl ok⟩, hy, hc, fun g' v' H' k' s' => h g' v' H' ((k1.trans k6).trans k') s'⟩
          · exact h.elim
        · simp only [ok] at h; exact h.elim
end
end VL
namespace VL
open PySem L2 PyProof.Rows
def W.flat : W → Bool
  | .non => true
  | .bl _ => true
  | .int _ => true
  | .str _ => true
  | _ => false
section
variable {X : Cx} {G : Gm} {Wx : WX} {g g' : Gh} {env env' : Env3} {σ : L2.St} {H H' : Hp} {ds : Nat → D} {p pos apos cpos : Pos} {e o a b : Expr} {es : List Expr} {fa fb fe fo : M3 EV} {t : M3 (List EV)} {Z : Addr → Prop} {x : Str}
theorem toNat_inj {a b : Char} (h : a.toNat = b.toNat) : a = b := by
  apply Char.ext
  exact UInt32.toNat_inj.mp h
def lstW : W → Option (List W)
  | .lst ys => some ys
  | .scr ys => some ys
  | _ => none
def inT (x y : T) : Option Bool := match y with
  | .im (.str z) => match x with
    | .im (.str c) => match c.toList with
      | [d] => some (decide (d ∈ z.toList))
      | _ => none
    | _ => none
  | .im (.tup ys) => match x with
    | .im w => if w.flat = true ∧ ys.all W.flat = true then some (ys.any fun z => W.eqv z w) else none
    | _ => none
  | .im (.ktp ys) => match x with
    | .im w => if w.flat = true ∧ ys.all W.flat = true then some (ys.any fun z => W.eqv z w) else none
    | _ => none
  | y => x.toW.bind fun x' => (y.toW.bind lstW).bind fun ys => if okW 64 x' = true ∧ okWs 63 ys = true then some (ys.any fun z => W.eqv z x') else none
def fIn : F2 := fun x y => (inT x y).map fun b => .im (.bl b)
def tyT : T → Option String
  | .im .non => some "NoneType"
  | .im (.bl _) => some "bool"
  | .im (.int _) => some "int"
  | .im (.str _) => some "str"
  | .im (.tup _) => some "tuple"
  | .im (.lst _) => some "list"
  | .im (.scr _) => some "list"
  | .ml _ => some "list"
  | .tp _ => some "tuple"
  | _ => none
def isB (a b : String) : Bool := decide (a = b) || (decide (a = "bool") && decide (b = "int"))
theorem kitB_tab : ∀ a ∈ ["NoneType", "bool", "int", "str", "tuple", "list"], ∀ b ∈ ["int", "bool", "str", "list", "tuple"], kitB a b = some (isB a b) := by decide +kernel
theorem tyT_in {x : T} {a : String} (h : tyT x = some a) : a ∈ ["NoneType", "bool", "int", "str", "tuple", "list"] := by
  unfold tyT at h
  split at h <;> cases h <;> simp
theorem sqT_ty {K : PySem.W.Frag} {H : Hp} {p : Addr} {vs : List V} (h : SqT K H p vs) : TyX K H (.ref p) (.type "tuple") := by
  rcases h with (h | ⟨o, h⟩) | ⟨o, its, n, h1, h2, _⟩
  · exact .base (.tup h)
  · exact .fTuple h
  · exact .kTuple h1 h2
theorem tyT_rep {x : T} {v : V} {d : D} {a : String} (h : tyT x = some a) (r : RepT G Z H x v d) : TyX G.K H v (.type a) := by
  unfold tyT at h
  split at h <;> cases h
  · rw [show v = _ from r.2]; exact .base .non
  · rw [show v = _ from r.2]; exact .base (.bl _)
  · rw [show v = _ from r.2]; exact .base (.int _)
  · rw [show v = _ from r.2]; exact .base (.str _)
  · obtain ⟨_, p, vs, rfl, h1, _⟩ := r; exact sqT_ty (SqT.of h1)
  · obtain ⟨_, p, vs, rfl, _, h1, _⟩ := r; exact .base (.lst h1)
  · obtain ⟨_, p, vs, rfl, h1, _⟩ := r
    rcases h1 with ⟨o, h1⟩ | ⟨o, its, n, h1, h2, _⟩
    · exact .base (.frz h1)
    · exact .kList h1 h2
  · obtain ⟨p, vs, ds, rfl, _, h1, _⟩ := r; exact .base (.lst h1)
  · obtain ⟨p, vs, ds, rfl, _, h1, _⟩ := r; exact sqT_ty (SqT.of h1)
def isiE (r : T → Option Bool) (fe : M3 EV) : M3 EV := fun env => match fe env with
  | .ok ev e => (match (rd e ev).bind r with
    | some b => .ok (.im (.bl b)) e
    | none => .stuck)
  | .exc c e => .exc c e
  | .stuck => .stuck
abbrev eIsi (b : String) (fe : M3 EV) : M3 EV := isiE (fun x => (tyT x).map fun a => isB a b) fe
theorem isi_mid {r : T → Option Bool} {σ : L2.St} {H : Hp} {Q : VK} (h : liftE G Wx (isiE r fe) σ H Q) : liftE G Wx fe σ H fun v H1 => ∃ Z x d b, RepT G Z H1 x v d ∧ r x = some b ∧ Q (.bl b) H1 := by
  obtain ⟨g, env, ds, s, h⟩ := h
  refine ⟨g, env, ds, s, ?_⟩
  unfold isiE at h
  cases e1 : fe env with
  | stuck => rw [e1] at h; exact h.elim
  | exc c e2 => rw [e1] at h; exact h
  | ok ev e2 =>
    simp only [e1] at h
    intro g1 v H1 k1 s1
    split at h
    · rename_i b hb
      obtain ⟨x, hx, hr⟩ := Option.bind_eq_some_iff.mp hb
      obtain ⟨d, rx⟩ := s1.rd hx
      exact ⟨g1.Z, x, d, b, rx, hr, h g1 _ H1 k1 (s1.n.im rfl)⟩
    · exact h.elim
theorem se_isi {b : String} (hg : Gl X "isinstance") (hm : X.mg "isinstance" = none) (hgb : Gl X (Str.ofString b)) (hmb : X.mg (Str.ofString b) = none) (hv : bootBuiltins (Str.ofString b) = some (.type b)) (hb : b ∈ ["int", "bool", "str", "list", "tuple"]) (he : SE G X Wx e fe)
    {p2 : Pos} (hK : X.K = G.K := by rfl) (hn : (Str.ofString b) ≠ "__name__" := by decide) (hdb : ((Str.ofString b) == ("__debug__" : Str)) = false := by decide)
    (hst : starEach [e, .Name (Str.ofString b) p2] X.env = (false, eval e X.env) :: starEach [.Name (Str.ofString b) p2] X.env := by rfl) (hst2 : starEach [.Name (Str.ofString b) p2] X.env = (false, eval (.Name (Str.ofString b) p2) X.env) :: starEach [] X.env := by rfl)
    (hpl : (backTo pos (starEach [.Name (Str.ofString b) p2] X.env)).any (·.1) = false := by rfl) :
    SE G X Wx (.Call (.Name "isinstance" p) [e, .Name (Str.ofString b) p2] [] pos) (eIsi b fe) := by
  refine pe_imp (pe_callB call_isi hg hm (by decide +kernel) (pa_cons he (pa_cons (pe_bltn (v := .ty b) hgb hmb hv rfl hn hdb) pa_nil hst2) hst) (by decide) (by decide) hst hpl) ?_
  intro σ H Q h
  have h' := isi_mid h
  obtain ⟨g, env, ds, s, h'⟩ := h'
  refine ⟨g, env, ds, s, ?_⟩
  cases e1 : fe env with
  | stuck => rw [e1] at h'; exact h'
  | exc c e2 => rw [e1] at h'; exact h'
  | ok ev e2 =>
    rw [e1] at h'
    intro g1 v H1 k1 s1
    obtain ⟨Z, x, d, b', rx, hr, q⟩ := h' g1 v H1 k1 s1
    obtain ⟨a, ha, rfl⟩ := Option.map_eq_some_iff.mp hr
    exact ⟨v, .ty b, .type a, .type b, isB a b, rfl, .ty b, hK ▸ tyT_rep ha rx, kit_ty (kitB_tab a (tyT_in ha) b hb), q⟩
structure ExcS (X : Cx) (G : Gm) (C : String) : Prop where
  q : PySem.W.excIn X.K (G.cA C) He.veBase "ValueError.__new__" = true
  gC : X.mg (Str.ofString C) = some (.ref (G.cA C))
  kC : PySem.W.keepIn X.K (.ref (G.cA C)) = true
  bm : PySem.W.subIn X.K (.ref (G.cA C)) (.type "BaseException") = some true
  ty : PySem.W.typeIn X.K (.ref (G.cA C)) = some (.type "type")
def sRaise (C : String) : S3 := fun env => .ex C env
theorem ss_raise {C : String} {m : Str} {j : Nat} {p2 : Pos} (c : ExcS X G C) (hc : X.calm = true) (tk : Takes X Wx) (hg : Gl X (Str.ofString C)) (hdb : (Str.ofString C == ("__debug__" : Str)) = false := by decide) :
    SS G X Wx (.Raise (some (.Call (.Name (Str.ofString C) p) [.Constant (.str m) j p2] [] apos)) none pos) (sRaise C) := by
  refine ps_imp (ps_raise hc tk (pmk_own PySem.F.excBase_ValueError c.q c.gC c.kC (raises_own c.bm c.ty) hg hdb)) ?_
  rintro D σ H ⟨g, env, ds, s, h⟩
  exact h g σ H (Keep.refl g H) ⟨ds, s⟩
def itemsE (ob : EV) (xs : List T) : Option (List EV) := match ob with
  | .ptr k π => some (xs.mapIdx fun i c => kidEV (.ptr k π) (.idx i) c)
  | _ => (allI xs).map fun ws => ws.map EV.im
theorem hold_row {ob : EV} {v : V} {x : T} {xs : List T} {items : List EV} {g1 : Gh} {env0 : Env3} {H1 : Hp} (hx : rd env0 ob = some x) (hxs : seqT x = some xs) (hit : itemsE ob xs = some items) (h : HoldR G g1 env0 H1 ob v) :
    ∃ p vs, v = .ref p ∧ vs.length = items.length ∧ ((isList x = true ∧ SqL G.K H1 p vs) ∨ (isList x = false ∧ SqT G.K H1 p vs)) ∧
      ∀ g env σ H, KeepW g1 H1 g H → SimN G g env σ H → ((isList x = true ∧ SqL G.K H p vs) ∨ (isList x = false ∧ SqT G.K H p vs)) ∧ ∀ (i : Nat) it, items[i]? = some it → ∃ u, vs[i]? = some u ∧ (okI it env = true → SimE G g env σ H it u) := by
  have imCase : ∀ {p : Addr} {vs : List V} {ws : List W} {g : Gh} {env : Env3} {σ : L2.St} {H : Hp}, KeepW g1 H1 g H → SimN G g env σ H → RepL G g1.Z H1 ws vs → ∀ (i : Nat) it, (ws.map EV.im)[i]? = some it → ∃ u, vs[i]? = some u ∧ (okI it env = true → SimE G g env σ H it u) := fun k s r i it hi => by
    rw [List.getElem?_map] at hi
    obtain ⟨w, h1, rfl⟩ := Option.map_eq_some_iff.mp hi
    obtain ⟨u, h2, h3⟩ := r.get h1
    exact ⟨u, h2, fun _ => s.im (h3.keep k.kz)⟩
  cases ob with
  | im w =>
    cases hx
    obtain ⟨ws, h1, rfl⟩ := Option.map_eq_some_iff.mp (show (seqW w).map (fun ws => ws.map T.im) = some xs from hxs)
    obtain ⟨ws', h2, rfl⟩ := Option.map_eq_some_iff.mp (show (allI (ws.map T.im)).map (fun ws => ws.map EV.im) = some items from hit)
    have : ∀ zs : List W, allI (zs.map T.im) = some zs := fun zs => by
      induction zs with
      | nil => rfl
      | cons z r ih => simp only [List.map_cons, allI, ih, Option.map_some]
    rw [this] at h2; cases h2
    have h' : Rep G g1.Z H1 w v := h
    cases w with
    | tup zs =>
      cases h1
      obtain ⟨p, vs, rfl, q1, r1⟩ := h'
      exact ⟨p, vs, rfl, by rw [r1.length]; simp, .inr ⟨rfl, SqT.of q1⟩, fun g env σ H k s => ⟨.inr ⟨rfl, SqT.of (k.tups _ _ q1)⟩, imCase (p := p) k s r1⟩⟩
    | lst zs =>
      cases h1
      obtain ⟨p, vs, rfl, z1, q1, r1⟩ := h'
      exact ⟨p, vs, rfl, by rw [r1.length]; simp, .inl ⟨rfl, .inl (.inl q1)⟩, fun g env σ H k s => ⟨.inl ⟨rfl, .inl (.inl ((k.z p z1).2.trans q1))⟩, imCase (p := p) k s r1⟩⟩
    | scr zs =>
      cases h1
      obtain ⟨p, vs, rfl, q1, r1⟩ := h'
      exact ⟨p, vs, rfl, by rw [r1.length]; simp, .inl ⟨rfl, q1.seq⟩, fun g env σ H k s => ⟨.inl ⟨rfl, SqF.seq (q1.imp (fun ⟨o, q⟩ => ⟨o, k.frzs.f _ _ _ q⟩) id)⟩, imCase (p := p) k s r1⟩⟩
    | ktp zs =>
      cases h1
      obtain ⟨p, vs, rfl, q1, r1⟩ := h'
      exact ⟨p, vs, rfl, by rw [r1.length]; simp, .inr ⟨rfl, q1⟩, fun g env σ H k s => ⟨.inr ⟨rfl, sqT_keep k.kz q1⟩, imCase (p := p) k s r1⟩⟩
    | _ => cases h1
  | tmp t =>
    cases hx
    obtain ⟨ws, h2, rfl⟩ := Option.map_eq_some_iff.mp (show (allI xs).map (fun ws => ws.map EV.im) = some items from hit)
    obtain ⟨d, r, hp⟩ := h
    cases x with
    | ml ys =>
      cases hxs
      obtain ⟨p, vs, dl, rfl, rfl, q1, r1⟩ := r
      have r2 := allI_rep h2 r1
      exact ⟨p, vs, rfl, by rw [r2.length]; simp, .inl ⟨rfl, .inl (.inl q1)⟩, fun g env σ H k s => ⟨.inl ⟨rfl, .inl (.inl ((k.p p (hp p (by simp [fp]))).2.trans q1))⟩, imCase (p := p) k s r2⟩⟩
    | tp ys =>
      cases hxs
      obtain ⟨p, vs, dl, rfl, rfl, q1, r1⟩ := r
      have r2 := allI_rep h2 r1
      exact ⟨p, vs, rfl, by rw [r2.length]; simp, .inr ⟨rfl, SqT.of q1⟩, fun g env σ H k s => ⟨.inr ⟨rfl, SqT.of (k.tups _ _ q1)⟩, imCase (p := p) k s r2⟩⟩
    | im w =>
      obtain ⟨ws', h1, rfl⟩ := Option.map_eq_some_iff.mp (show (seqW w).map (fun ws => ws.map T.im) = some xs from hxs)
      have : ∀ zs : List W, allI (zs.map T.im) = some zs := fun zs => by
        induction zs with
        | nil => rfl
        | cons z r ih => simp only [List.map_cons, allI, ih, Option.map_some]
      rw [this] at h2; cases h2
      have h' : Rep G g1.Z H1 w v := r.2
      cases w with
      | tup zs =>
        cases h1
        obtain ⟨p, vs, rfl, q1, r1⟩ := h'
        exact ⟨p, vs, rfl, by rw [r1.length]; simp, .inr ⟨rfl, SqT.of q1⟩, fun g env σ H k s => ⟨.inr ⟨rfl, SqT.of (k.tups _ _ q1)⟩, imCase (p := p) k s r1⟩⟩
      | lst zs =>
        cases h1
        obtain ⟨p, vs, rfl, z1, q1, r1⟩ := h'
        exact ⟨p, vs, rfl, by rw [r1.length]; simp, .inl ⟨rfl, .inl (.inl q1)⟩, fun g env σ H k s => ⟨.inl ⟨rfl, .inl (.inl ((k.z p z1).2.trans q1))⟩, imCase (p := p) k s r1⟩⟩
      | scr zs =>
        cases h1
        obtain ⟨p, vs, rfl, q1, r1⟩ := h'
        exact ⟨p, vs, rfl, by rw [r1.length]; simp, .inl ⟨rfl, q1.seq⟩, fun g env σ H k s => ⟨.inl ⟨rfl, SqF.seq (q1.imp (fun ⟨o, q⟩ => ⟨o, k.frzs.f _ _ _ q⟩) id)⟩, imCase (p := p) k s r1⟩⟩
      | ktp zs =>
        cases h1
        obtain ⟨p, vs, rfl, q1, r1⟩ := h'
        exact ⟨p, vs, rfl, by rw [r1.length]; simp, .inr ⟨rfl, q1⟩, fun g env σ H k s => ⟨.inr ⟨rfl, sqT_keep k.kz q1⟩, imCase (p := p) k s r1⟩⟩
      | _ => cases h1
    | md _ => cases hxs
    | mt _ => cases hxs
    | mi _ _ => cases hxs
  | ptr k0 π =>
    obtain ⟨a, x0, e0, rfl, lk, hx0, r⟩ := h
    rw [hx] at hx0; cases hx0
    cases hit
    have kids : ∀ {us : List V} {dl : List D} {g : Gh} {env : Env3} {σ : L2.St} {H : Hp}, KeepW g1 H1 g H → SimN G g env σ H → RepTL G g1.Z H1 xs us dl → (∀ t c d, t.getP [] = some t → RepT G g.Z H t (.ref a) d → ∀ n, t.kid (.idx n) = some c → c.mut = true → ∃ u dc, us[n]? = some u ∧ RepT G g.Z H c u dc ∧ adr t d [.idx n] = adr c dc []) →
        ∀ (i : Nat) it, (xs.mapIdx fun i c => kidEV (.ptr k0 π) (.idx i) c)[i]? = some it → ∃ u, us[i]? = some u ∧ (okI it env = true → SimE G g env σ H it u) := fun {us dl g env σ H} k s r kid i it hi => by
      rw [List.getElem?_mapIdx] at hi
      obtain ⟨c, h1, rfl⟩ := Option.map_eq_some_iff.mp hi
      obtain ⟨u, dc, h2, h3, h4⟩ := r.get h1
      refine ⟨u, h2, fun ok => ?_⟩
      have isPtr : c.mut = true → SimE G g env σ H (.ptr k0 (π ++ [.idx i])) u := fun hm => by
        have ok' : okI (.ptr k0 (π ++ [.idx i])) env = true := by
          cases c with
          | im w => cases hm
          | _ => exact ok
        obtain ⟨ds, s⟩ := s
        unfold okI at ok'
        cases e : env[k0]? with
        | none => simp [VL.rd, e] at ok'
        | some oo =>
          cases oo with
          | none => simp [VL.rd, e] at ok'
          | some sv =>
            cases sv with
            | own p L t =>
              simp only [VL.rd, e] at ok'
              obtain ⟨v', o1, o2, o3, o4, o5, o6⟩ := s.own _ _ _ _ e
              have ha := o6 (π, a) (by rw [k.lk]; exact lk)
              obtain ⟨y, hy⟩ := getP_of_adr ha
              obtain ⟨uu, ey, out, r1, r2, r3, _⟩ := o2.lens hy
              have hr := r3 []
              rw [List.append_nil, ha] at hr
              rw [adr_val r1 hr.symm] at r1
              have gP : ∀ (ρ : Path) (t y : T), t.getP ρ = some y → t.getP (ρ ++ [.idx i]) = y.kid (.idx i) := fun ρ => by
                induction ρ with
                | nil => intro t y h; cases h; show (t.kid _).bind (fun c => c.getP []) = _; cases t.kid (.idx i) <;> rfl
                | cons st ρ ih =>
                  intro t y h
                  obtain ⟨c, c1, c2⟩ := Option.bind_eq_some_iff.mp (show (t.kid st).bind (fun c => c.getP ρ) = some y from h)
                  show (t.kid st).bind (fun c => c.getP (ρ ++ [.idx i])) = _
                  rw [c1]
                  exact ih c y c2
              rw [gP π t y hy] at ok'
              cases e2 : y.kid (.idx i) with
              | none => rw [e2] at ok'; cases ok'
              | some c2 =>
                rw [e2] at ok'
                obtain ⟨u2, dc2, w1, w2, w3⟩ := kid y c2 ey rfl r1 i e2 ok'
                rw [h2] at w1; cases w1
                obtain ⟨b, b1, b2⟩ := adr_root w2 ok'
                refine ⟨ds, .z, s, rfl, b, p, L, t, b2, e, ?_⟩
                rw [r3 [.idx i], w3]; exact b1
            | _ => simp [VL.rd, e] at ok'
      cases c with
      | im w => exact s.im (h4.2.keep k.kz)
      | _ => exact isPtr rfl
    cases x with
    | ml ys =>
      cases hxs
      obtain ⟨p, vs, dl, e, rfl, q1, r1⟩ := r
      cases e
      refine ⟨a, vs, rfl, by rw [r1.len.1]; simp, .inl ⟨rfl, .inl (.inl q1)⟩, fun g env σ H k s => ?_⟩
      have hH : H a = some (.lst vs) := (k.l k0 (π, a) lk).trans q1
      refine ⟨.inl ⟨rfl, .inl (.inl hH)⟩, kids k s r1 fun t c d _ rt n hk hm => ?_⟩
      cases t with
      | ml zs =>
        obtain ⟨p2, vs2, dl2, e2, rfl, q2, r2⟩ := rt
        cases e2
        rw [hH] at q2; cases q2
        have hk' : zs[n]? = some c := hk
        obtain ⟨u, dc, h2, h3, h4⟩ := r2.get hk'
        exact ⟨u, dc, h2, h4, by simp only [adr, T.pos, T.kids, Option.bind_some, hk', h3]⟩
      | tp zs =>
        obtain ⟨p2, vs2, dl2, e2, rfl, q2, r2⟩ := rt
        cases e2
        rw [hH] at q2; cases q2
      | im w => cases hk
      | md _ => cases hk
      | mt _ => cases hk
      | mi _ _ => cases hk
    | tp ys =>
      cases hxs
      obtain ⟨p, vs, dl, e, rfl, q1, r1⟩ := r
      cases e
      refine ⟨a, vs, rfl, by rw [r1.len.1]; simp, .inr ⟨rfl, SqT.of q1⟩, fun g env σ H k s => ?_⟩
      have hH : H a = some (.tup vs) := k.tups _ _ q1
      refine ⟨.inr ⟨rfl, SqT.of hH⟩, kids k s r1 fun t c d _ rt n hk hm => ?_⟩
      cases t with
      | ml zs =>
        obtain ⟨p2, vs2, dl2, e2, rfl, q2, r2⟩ := rt
        cases e2
        rw [hH] at q2; cases q2
      | tp zs =>
        obtain ⟨p2, vs2, dl2, e2, rfl, q2, r2⟩ := rt
        cases e2
        rw [hH] at q2; cases q2
        have hk' : zs[n]? = some c := hk
        obtain ⟨u, dc, h2, h3, h4⟩ := r2.get hk'
        exact ⟨u, dc, h2, h4, by simp only [adr, T.pos, T.kids, Option.bind_some, hk', h3]⟩
      | im w => cases hk
      | md _ => cases hk
      | mt _ => cases hk
      | mi _ _ => cases hk
    | im w =>
      obtain ⟨ws, h1, rfl⟩ := Option.map_eq_some_iff.mp (show (seqW w).map (fun ws => ws.map T.im) = some xs from hxs)
      have h' : Rep G g1.Z H1 w (.ref a) := r.2
      have noKid : ∀ {vs : List V} {g : Gh} {env : Env3} {σ : L2.St} {H : Hp}, KeepW g1 H1 g H → SimN G g env σ H → RepL G g1.Z H1 ws vs → ∀ (i : Nat) it, ((ws.map T.im).mapIdx fun i c => kidEV (.ptr k0 π) (.idx i) c)[i]? = some it → ∃ u, vs[i]? = some u ∧ (okI it env = true → SimE G g env σ H it u) := fun k s r i it hi => by
        rw [List.getElem?_mapIdx, List.getElem?_map] at hi
        obtain ⟨c, h1, rfl⟩ := Option.map_eq_some_iff.mp hi
        obtain ⟨w', h2, rfl⟩ := Option.map_eq_some_iff.mp h1
        obtain ⟨u, h3, h4⟩ := r.get h2
        exact ⟨u, h3, fun _ => s.im (h4.keep k.kz)⟩
      cases w with
      | tup zs =>
        cases h1
        obtain ⟨p, vs, e, q1, r1⟩ := h'
        cases e
        exact ⟨a, vs, rfl, by rw [r1.length]; simp, .inr ⟨rfl, SqT.of q1⟩, fun g env σ H k s => ⟨.inr ⟨rfl, SqT.of (k.tups _ _ q1)⟩, noKid k s r1⟩⟩
      | lst zs =>
        cases h1
        obtain ⟨p, vs, e, z1, q1, r1⟩ := h'
        cases e
        exact ⟨a, vs, rfl, by rw [r1.length]; simp, .inl ⟨rfl, .inl (.inl q1)⟩, fun g env σ H k s => ⟨.inl ⟨rfl, .inl (.inl ((k.z a z1).2.trans q1))⟩, noKid k s r1⟩⟩
      | scr zs =>
        cases h1
        obtain ⟨p, vs, e, q1, r1⟩ := h'
        cases e
        exact ⟨a, vs, rfl, by rw [r1.length]; simp, .inl ⟨rfl, q1.seq⟩, fun g env σ H k s => ⟨.inl ⟨rfl, SqF.seq (q1.imp (fun ⟨o, q⟩ => ⟨o, k.frzs.f _ _ _ q⟩) id)⟩, noKid k s r1⟩⟩
      | ktp zs =>
        cases h1
        obtain ⟨p, vs, e, q1, r1⟩ := h'
        cases e
        exact ⟨a, vs, rfl, by rw [r1.length]; simp, .inr ⟨rfl, q1⟩, fun g env σ H k s => ⟨.inr ⟨rfl, sqT_keep k.kz q1⟩, noKid k s r1⟩⟩
      | _ => cases h1
    | md _ => cases hxs
    | mt _ => cases hxs
    | mi _ _ => cases hxs
end
end VL
namespace VL
open PySem L2 PyProof.Rows
def iAnyH (K : PySem.W.Frag) (tl : TE) : TI := fun σ H R => tl σ H fun x H1 => (∃ a, x = .ref a ∧ (∃ ys, SqL K H1 a ys) ∧ R (Itl K a) H1) ∨ (∃ a, x = .ref a ∧ (∃ ys, SqT K H1 a ys) ∧ R (Itt K a) H1) ∨ ∃ z, x = .str z ∧ R (Its z) H1
theorem pi_any {X : Cx} {tg l : Expr} {tl : TE} (hl : PE X l tl) : PI X tg l (iAnyH X.K tl) := by
  refine ⟨fun pins s σ H R I h => ?_⟩
  refine thn (hl.run pins s σ H _ I h) fun u s2 ⟨x, H2, I2, ru, q1⟩ => ?_
  rcases q1 with ⟨c, e, ⟨ys, hq⟩, q⟩ | ⟨c, e, ⟨ys, hq⟩, q⟩ | ⟨z, ez, q⟩
  · subst e
    cases ru
    obtain ⟨its, rv, pl, hz⟩ := I2.list hq
    refine wpAny_pyIter_list pl.isList ?_
    refine ⟨s2.heap.objs.size, [s2.heap.objs.size], _, _, H2, rfl, I2.kept (t' := s2.toks) fun b o eo => Heap.get?_push_of_some _ eo, turn_list c _, ⟨_, Heap.get?_push_size _ rfl, rfl, rfl⟩, fun d hd => ?_, q⟩
    have ed : d = s2.heap.objs.size := by simpa using hd
    subst ed
    exact I2.fpOk (Nat.le_refl _) (I2.hok.fresh (Nat.le_refl _))
  · subst e
    cases ru
    obtain ⟨its, rv, pl, hz⟩ := I2.tuple hq
    refine wpAny_pyIter_tuple (show s2.heap.IsTuple c its.toArray from pl) ?_
    refine ⟨s2.heap.objs.size, [s2.heap.objs.size], _, _, H2, rfl, I2.kept (t' := s2.toks) fun b o eo => Heap.get?_push_of_some _ eo, turn_tuple c _, ⟨_, Heap.get?_push_size _ rfl, rfl, rfl⟩, fun d hd => ?_, q⟩
    have ed : d = s2.heap.objs.size := by simpa using hd
    subst ed
    exact I2.fpOk (Nat.le_refl _) (I2.hok.fresh (Nat.le_refl _))
  · subst ez
    obtain ⟨tk, rfl⟩ := ru
    cases hall : z.cps.all (· < 128)
    · exact wpAny_pyIter_wide hall (pi_one (tk := s2.toks) I2 _ (turn_str _ z tk "str_iterator" (.inr rfl)) ⟨_, Heap.get?_push_size _ rfl, rfl, rfl⟩ q)
    · exact wpAny_pyIter_ascii hall (pi_one (tk := s2.toks) I2 _ (turn_str _ z tk "str_ascii_iterator" (.inl rfl)) ⟨_, Heap.get?_push_size _ rfl, rfl, rfl⟩ q)
section
variable {X : Cx} {G : Gm} {Wx : WX} {g g' : Gh} {env env' : Env3} {σ : L2.St} {H H' : Hp} {ds : Nat → D} {p pos apos cpos : Pos} {e o a b : Expr} {es : List Expr} {fa fb fe fo : M3 EV} {t : M3 (List EV)} {Z : Addr → Prop} {x : Str}
theorem itR_str {g0 : Gh} {H0 : Hp} {z : String} : ItR G (Its (Str.ofString z)) g0 H0 (z.toList.map fun c => EV.im (.str (String.singleton c))) := by
  intro g env σ H k s
  have hs : (Str.ofString z).cps.size = z.toList.length := by
    rw [← Array.length_toList, ofString_cps, List.length_map]
  refine ⟨by show (Str.ofString z).cps.size ≤ _; rw [hs]; simp, fun i x hx => ?_⟩
  rw [List.getElem?_map] at hx
  obtain ⟨c, hc, rfl⟩ := Option.map_eq_some_iff.mp hx
  refine ⟨by show i < (Str.ofString z).cps.size; rw [hs]; exact (List.getElem?_eq_some_iff.mp hc).1, fun v H' y => ?_⟩
  obtain ⟨rfl, n, hn, rfl⟩ := y
  refine ⟨g, Keep.refl _ _, s, fun _ => s.im ?_⟩
  show V.str _ = V.str _
  rw [ofString_single]
  rw [← Array.getElem?_toList, ofString_cps, List.getElem?_map, hc] at hn
  cases hn
  rfl
def rowI (o : EV) (env : Env3) : Option IV := (rd env o).bind fun x => match x with
  | .im (.str z) => some ⟨z.toList.map fun c => EV.im (.str (String.singleton c)), []⟩
  | x => (seqT x).bind fun xs => (itemsE o xs).map fun is => ⟨is, [o]⟩
def iRow (fo : M3 EV) : M3 IV := fun env => match fo env with
  | .ok o e => (match rowI o e with
    | some iv => .ok iv e
    | none => .stuck)
  | .exc c e => .exc c e
  | .stuck => .stuck
theorem tupV {x : T} {v : V} {d : D} {xs : List T} (h : isList x = false) (hs : seqT x = some xs) (r : RepT G Z H x v d) : ∃ p vs, v = .ref p ∧ SqT G.K H p vs := by
  cases x with
  | ml _ => cases h
  | tp ys => obtain ⟨p, vs, dl, rfl, _, q, _⟩ := r; exact ⟨p, vs, rfl, SqT.of q⟩
  | im w =>
    cases w with
    | tup ws => obtain ⟨_, p, vs, rfl, q, _⟩ := r; exact ⟨p, vs, rfl, SqT.of q⟩
    | ktp ws => obtain ⟨_, p, vs, rfl, q, _⟩ := r; exact ⟨p, vs, rfl, q⟩
    | lst _ => cases h
    | scr _ => cases h
    | _ => cases hs
  | _ => cases hs
theorem row_sat {o : EV} {v : V} {iv : IV} {R : It → Hp → Prop} (hK : X.K = G.K) (s : SimE G g env σ H o v) (h : rowI o env = some iv) (k : ∀ g' vs H' J, Keep g H g' H' → SimA G g' env σ H' iv.hold vs → (∀ g1, g1.Z = g'.Z → HoldL G g1 env H' iv.hold vs → ItR G J g1 H' iv.items) → R J H') :
    (∃ a, v = .ref a ∧ (∃ ys, SqL X.K H a ys) ∧ R (Itl X.K a) H) ∨ (∃ a, v = .ref a ∧ (∃ ys, SqT X.K H a ys) ∧ R (Itt X.K a) H) ∨ ∃ z, v = .str z ∧ R (Its z) H := by
  unfold rowI at h
  obtain ⟨x, hx, h⟩ := Option.bind_eq_some_iff.mp h
  split at h
  · cases h
    obtain ⟨d, r⟩ := s.rd hx
    exact .inr (.inr ⟨_, r.2, k g [] H _ (Keep.refl g H) (SimA.nil_of s.n) fun _ _ _ => itR_str⟩)
  · obtain ⟨xs, h1, h⟩ := Option.bind_eq_some_iff.mp h
    obtain ⟨is, h2, rfl⟩ := Option.map_eq_some_iff.mp h
    obtain ⟨d, r⟩ := s.rd hx
    obtain ⟨p, us, dl, rfl, hs, _⟩ := seqT_rep h1 r
    by_cases hl : isList x = true
    · obtain ⟨p', ys, e, h3⟩ := listV hl r
      cases e
      refine .inl ⟨p, rfl, ⟨ys, hK ▸ h3⟩, k g [.ref p] H _ (Keep.refl g H) (SimA.one s) fun g1 hz hh => ?_⟩
      obtain ⟨v', vr, e, hh, _⟩ := hh
      cases e
      obtain ⟨q, vs, e1, e2, _, e4⟩ := hold_row hx h1 h2 hh
      cases e1
      intro g2 env2 σ2 H2 k2 s2
      obtain ⟨m1, m2⟩ := e4 g2 env2 σ2 H2 k2 s2
      have m1 : SqL X.K H2 p vs := by
        rcases m1 with ⟨_, m1⟩ | ⟨m1, _⟩
        · exact hK ▸ m1
        · rw [hl] at m1; cases m1
      refine ⟨⟨vs, m1, by rw [e2]; exact Nat.le_refl _⟩, fun i it hi => ?_⟩
      obtain ⟨u, w1, w2⟩ := m2 i it hi
      refine ⟨⟨vs, u, m1, w1⟩, fun v' H' y => ?_⟩
      obtain ⟨rfl, y⟩ := y
      have := y vs m1
      rw [w1] at this; cases this
      exact ⟨g2, Keep.refl _ _, s2, w2⟩
    · have hl' : isList x = false := by cases q : isList x <;> simp_all
      obtain ⟨p', ys, e, h3⟩ := tupV hl' h1 r
      cases e
      refine .inr (.inl ⟨p, rfl, ⟨ys, hK ▸ h3⟩, k g [.ref p] H _ (Keep.refl g H) (SimA.one s) fun g1 hz hh => ?_⟩)
      obtain ⟨v', vr, e, hh, _⟩ := hh
      cases e
      obtain ⟨q, vs, e1, e2, _, e4⟩ := hold_row hx h1 h2 hh
      cases e1
      intro g2 env2 σ2 H2 k2 s2
      obtain ⟨m1, m2⟩ := e4 g2 env2 σ2 H2 k2 s2
      have m1 : SqT X.K H2 p vs := by
        rcases m1 with ⟨m1, _⟩ | ⟨_, m1⟩
        · rw [hl'] at m1; cases m1
        · exact hK ▸ m1
      refine ⟨⟨vs, m1, by rw [e2]; exact Nat.le_refl _⟩, fun i it hi => ?_⟩
      obtain ⟨u, w1, w2⟩ := m2 i it hi
      refine ⟨⟨vs, u, m1, w1⟩, fun v' H' y => ?_⟩
      obtain ⟨rfl, y⟩ := y
      have := y vs m1
      rw [w1] at this; cases this
      exact ⟨g2, Keep.refl _ _, s2, w2⟩
theorem si_row {tg : Expr} (he : SE G X Wx e fe) (hK : X.K = G.K := by rfl) : SI G X Wx tg e (iRow fe) := by
  refine ⟨fun pins s0 σ H R I h => (pi_any (tg := tg) he).run pins s0 σ H R I ?_⟩
  obtain ⟨g, env, ds, s, h⟩ := h
  refine ⟨g, env, ds, s, ?_⟩
  unfold iRow at h
  cases e1 : fe env with
  | stuck => rw [e1] at h; exact h.elim
  | exc c e2 => rw [e1] at h; exact h
  | ok ob e2 =>
    simp only [e1] at h
    intro g1 v H1 k1 s1
    split at h
    · rename_i iv hv
      exact row_sat hK s1 hv fun g' vs H' J k' s' hI => h g' vs H' J (k1.trans k') s' hI
    · exact h.elim
def intsE (lo : Int) (n : Nat) : List EV := (List.range n).map fun i : Nat => EV.im (.int (lo + i))
theorem itR_range {g0 : Gh} {H0 : Hp} {lo : Int} {n : Nat} : ItR G (Itr lo n) g0 H0 (intsE lo n) := by
  intro g env σ H k s
  refine ⟨by show n ≤ (intsE lo n).length; simp [intsE], fun i x hx => ?_⟩
  unfold intsE at hx
  rw [List.getElem?_map] at hx
  obtain ⟨j, hj, rfl⟩ := Option.map_eq_some_iff.mp hx
  have hi : i < n := by have := get_lt hj; simpa using this
  rw [List.getElem?_range hi] at hj
  cases hj
  refine ⟨hi, fun v H' y => ?_⟩
  obtain ⟨rfl, rfl⟩ := y
  exact ⟨g, Keep.refl _ _, s, fun _ => s.im rfl⟩
def iRng1 (t : M3 (List EV)) : M3 IV := fun env => match t env with
  | .ok [.im (.int j)] e => if -1000000000 ≤ j ∧ j ≤ 1000000000 then .ok ⟨intsE 0 j.toNat, []⟩ e else .stuck
  | .exc c e => .exc c e
  | _ => .stuck
theorem si_range1 {tg : Expr} (hg : Gl X "range") (hm : X.mg "range" = none) (ha : SA G X Wx [a] t) (hs : starEach [a] X.env = [(false, eval a X.env)] := by rfl) : SI G X Wx tg (.Call (.Name "range" p) [a] [] pos) (iRng1 t) := by
  refine ⟨fun pins s0 σ H R I h => (pi_range1 (tg := tg) hg hm ha hs).run pins s0 σ H R I ?_⟩
  obtain ⟨g, env, ds, s, h⟩ := h
  refine ⟨g, env, ds, s, ?_⟩
  unfold iRng1 at h
  split at h
  · rename_i j e e1
    rw [e1]
    intro g1 vs H1 k1 s1
    split at h
    · rename_i hj
      rw [s1.int1]
      exact ⟨j, rfl, by omega, by omega, h g1 [] H1 _ k1 (SimA.nil_of s1.n) fun _ _ _ => itR_range⟩
    · exact h.elim
  · rename_i c e e1
    rw [e1]; exact h
  · exact h.elim
theorem flat_items {ob : EV} {xs : List T} {ws : List W} (h : allI xs = some ws) : itemsE ob xs = some (ws.map EV.im) := by
  cases ob with
  | im w => simp only [itemsE, h, Option.map_some]
  | tmp t => simp only [itemsE, h, Option.map_some]
  | ptr k π =>
    simp only [itemsE]
    congr 1
    have : ∀ {xs : List T} {ws : List W}, allI xs = some ws → xs = ws.map T.im := fun {xs} => by
      induction xs with
      | nil => intro ws h; cases h; rfl
      | cons x r ih =>
        intro ws h
        cases x with
        | im w =>
          obtain ⟨ws', h1, rfl⟩ := Option.map_eq_some_iff.mp (show (allI r).map (w :: ·) = some ws from h)
          rw [ih h1]; rfl
        | _ => cases h
    rw [this h]
    refine List.ext_getElem? fun i => ?_
    rw [List.getElem?_mapIdx, List.getElem?_map, List.getElem?_map]
    cases ws[i]? <;> rfl
theorem rowL_seq {x : T} {ws : List W} (h : rowL x = some ws) : isList x = true ∧ ∃ xs, seqT x = some xs ∧ allI xs = some ws := by
  have im : ∀ zs : List W, allI (zs.map T.im) = some zs := fun zs => by
    induction zs with
    | nil => rfl
    | cons z r ih => simp only [List.map_cons, allI, ih, Option.map_some]
  cases x with
  | ml xs => exact ⟨rfl, xs, rfl, h⟩
  | im w =>
    cases w with
    | lst ys => cases h; exact ⟨rfl, _, rfl, im _⟩
    | scr ys => cases h; exact ⟨rfl, _, rfl, im _⟩
    | _ => cases h
  | _ => cases h
theorem hold_list {ob : EV} {v : V} {x : T} {ws : List W} {g1 : Gh} {env0 : Env3} {H1 : Hp} (hx : rd env0 ob = some x) (hw : rowL x = some ws) (h : HoldR G g1 env0 H1 ob v) :
    ∃ p vs, v = .ref p ∧ vs.length = ws.length ∧ ∀ g env σ H, KeepW g1 H1 g H → SimN G g env σ H → SqL G.K H p vs ∧ ∀ (i : Nat) w, ws[i]? = some w → ∃ u, vs[i]? = some u ∧ Rep G g.Z H w u := by
  obtain ⟨hl, xs, h1, h2⟩ := rowL_seq hw
  obtain ⟨p, vs, e1, e2, _, e4⟩ := hold_row hx h1 (flat_items h2) h
  refine ⟨p, vs, e1, by rw [e2]; simp, fun g env σ H k s => ?_⟩
  obtain ⟨m1, m2⟩ := e4 g env σ H k s
  refine ⟨?_, fun i w hi => ?_⟩
  · rcases m1 with ⟨_, m1⟩ | ⟨m1, _⟩
    · exact m1
    · rw [hl] at m1; cases m1
  · obtain ⟨u, w1, w2⟩ := m2 i (.im w) (by rw [List.getElem?_map, hi]; rfl)
    exact ⟨u, w1, (w2 rfl).imR⟩
def iRev (fo : M3 EV) : M3 IV := fun env => match fo env with
  | .ok o e => (match (rd e o).bind fun x => tupOf x with
    | some ws => .ok ⟨ws.reverse.map EV.im, [o]⟩ e
    | none => .stuck)
  | .exc c e => .exc c e
  | .stuck => .stuck
def enumE (ws : List W) : List EV := ws.mapIdx fun i w => .im (.tup [.int (i : Int), w])
def iEnum3 (t : M3 (List EV)) : M3 IV := fun env => match t env with
  | .ok [o] e => (match (rd e o).bind rowL with
    | some ws => .ok ⟨enumE ws, [o]⟩ e
    | none => .stuck)
  | .exc c e => .exc c e
  | _ => .stuck
theorem pair_sim (s : SimN G g env σ H) {T : Addr} {x y : W} {v u : V} (hT : H T = none) (rx : Rep G g.Z H x v) (ry : Rep G g.Z H y u) :
    Keep g H g (L2.upd H T (.tup [v, u])) ∧ SimE G g env σ (L2.upd H T (.tup [v, u])) (.im (.tup [x, y])) (.ref T) ∧ SimN G g env σ (L2.upd H T (.tup [v, u])) := by
  obtain ⟨ds, s⟩ := s
  have kn := Keep.new (o := .tup [v, u]) hT s
  have s2 := s.new (o := .tup [v, u]) hT
  exact ⟨kn, s2.im ⟨T, _, rfl, upd_same, v, _, rfl, rx.keep kn.kz, u, _, rfl, ry.keep kn.kz, rfl⟩, ds, s2⟩
theorem si_enumerate {elts : List Expr} {kk : Nat} {tpos : Pos} (hg : Gl X "enumerate") (hm : X.mg "enumerate" = none) (ha : SA G X Wx [e] t) (hK : X.K = G.K := by rfl) (hs : starEach [e] X.env = [(false, eval e X.env)] := by rfl) :
    SI G X Wx (.Tuple elts kk tpos) (.Call (.Name "enumerate" p) [e] [] pos) (iEnum3 t) := by
  refine ⟨fun pins s0 σ H R I h => (pi_enum hg hm ha hs).run pins s0 σ H R I ?_⟩
  obtain ⟨g, env, ds, s, h⟩ := h
  refine ⟨g, env, ds, s, ?_⟩
  unfold iEnum3 at h
  split at h
  · rename_i ob e2 e1
    rw [e1]
    intro g1 us H1 k1 s1
    split at h
    · rename_i ws hw
      obtain ⟨x, hx, hf⟩ := Option.bind_eq_some_iff.mp hw
      obtain ⟨v, d, rfl, r⟩ := s1.tree1 hx
      obtain ⟨q, ys, rfl, h2, r2⟩ := rowL_rep hf r
      refine ⟨q, ys, rfl, hK ▸ h2, h g1 [.ref q] H1 _ k1 s1 fun g2 hz hh => ?_⟩
      obtain ⟨v', vr, e, hh, _⟩ := hh
      cases e
      obtain ⟨q2, vs, e3, e4, e5⟩ := hold_list hx hf hh
      cases e3
      intro g3 env3 σ3 H3 k3 s3
      obtain ⟨m1, m2⟩ := e5 g3 env3 σ3 H3 k3 s3
      refine ⟨⟨vs, hK ▸ m1, by rw [e4]; simp [enumE]⟩, fun i it hi => ?_⟩
      simp only [enumE, List.getElem?_mapIdx] at hi
      obtain ⟨w, w1, rfl⟩ := Option.map_eq_some_iff.mp hi
      obtain ⟨u, w2, w3⟩ := m2 _ w w1
      refine ⟨⟨vs, u, hK ▸ m1, w2⟩, fun v' H' y => ?_⟩
      obtain ⟨T, z, rfl, hT, rfl, y⟩ := y
      have := y vs (hK ▸ m1)
      rw [w2] at this; cases this
      obtain ⟨p1, p2, p3⟩ := pair_sim s3 (x := .int (i : Int)) (v := .int (i : Nat)) hT rfl w3
      exact ⟨g3, p1, p3, fun _ => p2⟩
    · exact h.elim
  · rename_i c e2 e1
    rw [e1]; exact h
  · exact h.elim
end
end VL
namespace VL
open PySem L2 PyProof.Rows
section
variable {X : Cx} {G : Gm} {Wx : WX} {g g' : Gh} {env env' : Env3} {σ : L2.St} {H H' : Hp} {ds : Nat → D} {Z : Addr → Prop}
def wipeE : List Nat → Env3 → Option Env3
  | [], env => some env
  | v :: vs, env => match env[v]? with
    | some (some (SV.own _ _ _)) => none
    | _ => wipeE vs (env.set v none)
def restE (env0 : Env3) : List Nat → Env3 → Env3
  | [], env => env
  | v :: vs, env => match env0[v]?, env[v]? with
    | some (some (SV.val w)), some none => restE env0 vs (env.set v (some (SV.val w)))
    | _, _ => restE env0 vs env
theorem Sim.unset (s : Sim G g env σ H ds) {i : Nat} (hn : ∀ p L t, env[i]? ≠ some (some (SV.own p L t))) (x : Option V) : Sim G g (env.set i none) (σ.set i x) H ds := by
  have un : ∀ (j : Nat) y, (env.set i none)[j]? = some (some y) → j ≠ i ∧ env[j]? = some (some y) := fun j y e => by
    by_cases hj : j = i
    · subst hj
      rw [List.getElem?_set] at e
      simp only [if_true] at e
      split at e <;> cases e
    · rw [List.getElem?_set_ne (Ne.symm hj)] at e
      exact ⟨hj, e⟩
  have gn : ∀ j, j ≠ i → (σ.set i x)[j]? = σ[j]? := fun j h => List.getElem?_set_ne (Ne.symm h)
  refine ⟨by simp [s.len], fun j w e => ?_, fun j p L t e => ?_, fun j k π e => ?_, fun j c e => ?_, fun j e => ?_, s.nd, s.dj, s.no, s.zt, s.pt⟩
  · obtain ⟨hj, e⟩ := un j _ e
    rw [gn j hj]; exact s.val j w e
  · obtain ⟨hj, e⟩ := un j _ e
    rw [gn j hj]; exact s.own j p L t e
  · obtain ⟨hj, e⟩ := un j _ e
    rw [gn j hj]
    obtain ⟨a, p, L, t, h1, h2, h3⟩ := s.ptr j k π e
    have hk : k ≠ i := fun z => by subst z; exact hn _ _ _ h2
    exact ⟨a, p, L, t, h1, by rw [List.getElem?_set_ne (Ne.symm hk)]; exact h2, h3⟩
  · obtain ⟨hj, e⟩ := un j _ e
    rw [gn j hj]; exact s.exc j c e
  · by_cases hj : j = i
    · subst hj; exact s.non j hn
    · exact s.non j fun p L t z => e p L t (by rw [List.getElem?_set_ne (Ne.symm hj)]; exact z)
theorem Sim.wipe : ∀ {vs : List Nat} {env env' : Env3} {σ : L2.St}, Sim G g env σ H ds → wipeE vs env = some env' → Sim G g env' (L2.wipe σ vs) H ds
  | [], env, env', σ, s, h => by cases h; exact s
  | v :: vs, env, env', σ, s, h => by
    have hn : (∀ p L t, env[v]? ≠ some (some (SV.own p L t))) ∧ wipeE vs (env.set v none) = some env' := by
      have h' : (match env[v]? with | some (some (SV.own _ _ _)) => none | _ => wipeE vs (env.set v none)) = some env' := h
      split at h'
      · cases h'
      · rename_i hx
        exact ⟨fun p L t z => hx p L t z, h'⟩
    have := (s.unset hn.1 none).wipe hn.2
    have e : L2.wipe (σ.set v none) vs = L2.wipe σ (v :: vs) := by
      have : ∀ (us : List Nat) (τ : L2.St), L2.wipe (τ.set v none) us = (L2.wipe τ us).set v none := fun us => by
        induction us with
        | nil => intro τ; rfl
        | cons u us ih =>
          intro τ
          show (L2.wipe (τ.set v none) us).set u none = ((L2.wipe τ us).set u none).set v none
          rw [ih τ]
          by_cases e : u = v
          · subst e; rfl
          · rw [List.set_comm _ _ (Ne.symm e)]
      exact this vs σ
    rw [e] at this; exact this
theorem wipe_set {σ : L2.St} {i : Nat} {x : Option V} : ∀ {vs : List Nat}, i ∈ vs → L2.wipe (σ.set i x) vs = L2.wipe σ vs
  | v :: vs, h => by
    have gen : ∀ vs : List Nat, L2.wipe (σ.set i x) vs = (L2.wipe σ vs).set i (if i ∈ vs then none else x) ∨ L2.wipe (σ.set i x) vs = L2.wipe σ vs := fun vs => by
      induction vs with
      | nil => left; rfl
      | cons u us ih =>
        show (L2.wipe (σ.set i x) us).set u none = ((L2.wipe σ us).set u none).set i _ ∨ (L2.wipe (σ.set i x) us).set u none = (L2.wipe σ us).set u none
        rcases ih with ih | ih
        · by_cases e : u = i
          · subst e
            right
            rw [ih, List.set_set]
          · left
            rw [ih, List.set_comm _ _ e]
            have : (i ∈ u :: us) = (i ∈ us) := by simp [Ne.symm e]
            simp only [this]
        · right; rw [ih]
    show (L2.wipe (σ.set i x) vs).set v none = (L2.wipe σ vs).set v none
    by_cases e : v = i
    · subst e
      rcases gen vs with h1 | h1
      · rw [h1, List.set_set]
      · rw [h1]
    · have hi : i ∈ vs := by rcases List.mem_cons.mp h with z | z; exact absurd z.symm e; exact z
      rw [wipe_set hi]
theorem wipe_wipe {σ : L2.St} {vs : List Nat} : ∀ us : List Nat, (∀ u ∈ us, u ∈ vs) → L2.wipe (L2.wipe σ us) vs = L2.wipe σ vs
  | [], _ => rfl
  | u :: us, h => (wipe_set (h u (List.mem_cons_self ..))).trans (wipe_wipe us fun v hv => h v (List.mem_cons_of_mem _ hv))
theorem Sim.rest {env0 : Env3} {σ : L2.St} (hv : ∀ (i : Nat) w, env0[i]? = some (some (SV.val w)) → ∃ v, σ[i]? = some (some v) ∧ Rep G g.Z H w v) : ∀ {vs us : List Nat} {env : Env3} {τ : L2.St}, Sim G g env τ H ds → τ.length = σ.length → (∀ i : Nat, τ[i]? = σ[i]? ∨ env[i]? = some none ∨ env[i]? = none) → Sim G g (restE env0 vs env) σ H ds
  | [], us, env, τ, s, hl, h => by
    have st : ∀ (i : Nat) x, env[i]? = some (some x) → σ[i]? = τ[i]? := fun i x e => by
      rcases h i with z | z | z
      · exact z.symm
      · rw [e] at z; cases z
      · rw [e] at z; cases z
    refine ⟨s.len.trans hl, fun i w e => ?_, fun i p L t e => ?_, fun i k π e => ?_, fun i c e => ?_, s.non, s.nd, s.dj, s.no, s.zt, s.pt⟩
    · rw [st i _ e]; exact s.val i w e
    · rw [st i _ e]; exact s.own i p L t e
    · rw [st i _ e]; exact s.ptr i k π e
    · rw [st i _ e]; exact s.exc i c e
  | v :: vs, us, env, τ, s, hl, h => by
    unfold restE
    split
    · rename_i w e1 e2
      obtain ⟨u, h1, h2⟩ := hv v w e1
      have hlt : v < env.length := get_lt e2
      have s2 := s.setA (ev := .im w) (d := .z) ⟨rfl, h2⟩ hlt (fun p L t z => by rw [e2] at z; cases z)
      have s3 : Sim G g (env.set v (some (SV.val w))) (τ.set v (some u)) H ds := Sim.congr (fun i => by
        by_cases hi : i = v
        · subst hi
          simp only [if_true]
          exact ((s.non i fun p L t z => by rw [e2] at z; cases z).1).symm
        · simp [hi]) s2
      refine Sim.rest hv (us := us) s3 (by simpa using hl) fun i => ?_
      by_cases hi : i = v
      · subst hi
        left
        rw [List.getElem?_set_self (by rw [← s.len]; exact hlt), h1]
      · rw [List.getElem?_set_ne (Ne.symm hi), List.getElem?_set_ne (Ne.symm hi)]
        exact h i
    · exact Sim.rest hv (us := us) s hl h
theorem wipe_get {σ : L2.St} : ∀ {vs : List Nat} {i : Nat}, i ∉ vs → (L2.wipe σ vs)[i]? = σ[i]?
  | [], _, _ => rfl
  | v :: vs, i, h => by
    show ((L2.wipe σ vs).set v none)[i]? = σ[i]?
    rw [List.getElem?_set_ne (fun e => h (by rw [e]; exact List.mem_cons_self ..))]
    exact wipe_get fun z => h (List.mem_cons_of_mem _ z)
theorem wipeE_none : ∀ {vs : List Nat} {env env' : Env3}, wipeE vs env = some env' → (∀ i : Nat, (env[i]? = some none ∨ env[i]? = none) → (env'[i]? = some none ∨ env'[i]? = none)) ∧ ∀ i ∈ vs, env'[i]? = some none ∨ env'[i]? = none
  | [], env, env', h => by cases h; exact ⟨fun i z => z, fun i z => by cases z⟩
  | v :: vs, env, env', h => by
    have h2 : wipeE vs (env.set v none) = some env' := by
      have h' : (match env[v]? with | some (some (SV.own _ _ _)) => none | _ => wipeE vs (env.set v none)) = some env' := h
      split at h'
      · cases h'
      · exact h'
    obtain ⟨q1, q2⟩ := wipeE_none h2
    have sv : (env.set v none)[v]? = some none ∨ (env.set v none)[v]? = none := by
      by_cases hv : v < env.length
      · left; exact List.getElem?_set_self hv
      · right; rw [List.getElem?_eq_none_iff]; simpa using hv
    refine ⟨fun i z => q1 i ?_, fun i hi => ?_⟩
    · by_cases e : v = i
      · subst e; exact sv
      · rw [List.getElem?_set_ne e]; exact z
    · rcases List.mem_cons.mp hi with e | hi
      · subst e; exact q1 i sv
      · exact q2 i hi
def NT3 (G : Gm) (gt : TG) (g3 : TG3) (vs : List Nat) : Prop := ∀ (g : Gh) (env : Env3) (σ : L2.St) (H : Hp) (ev : EV) (v : V) (env' : Env3) (Q : L2.St → Hp → Prop), SimE G g env σ H ev v → g3 ev env = some env' → (∀ σ', SimN G g env' σ' H → L2.wipe σ' vs = L2.wipe σ vs → Q σ' H) → gt v σ H Q
theorem nt_name {i : Nat} : NT3 G (L2.gName i) (gName i) [i] := fun g env σ H ev v env' Q s h k => k _ (s.setS h) (wipe_set (by simp))
def lcF (tg : TG3) (tt : M3 Bool) (te : M3 EV) (vs : List Nat) : List EV → List T → Env3 → Option (List T × Env3)
  | [], acc, env => some (acc, env)
  | x :: r, acc, env => if okI x env = true then (tg x env).bind fun e1 => match tt e1 with
    | .ok true e2 => (match te e2 with
      | .ok ev e3 => if acc.length < 10000000 then (toT ev).bind fun t => (wipeE vs e3).bind fun e4 => lcF tg tt te vs r (acc ++ [t]) e4 else none
      | _ => none)
    | .ok false e2 => (wipeE vs e2).bind fun e4 => lcF tg tt te vs r acc e4
    | _ => none
    else none
def eLc (it : M3 IV) (tg : TG3) (tt : M3 Bool) (te : M3 EV) (vs : List Nat) : M3 EV := fun env => match it env with
  | .ok iv e => (match (wipeE vs (lockHs iv.hold e)).bind fun e0 => lcF tg tt te vs iv.items [] e0 with
    | some (acc, e1) => .ok (.tmp (.ml acc)) (unlHs iv.hold (restE e vs e1))
    | none => .stuck)
  | .exc c e => .exc c e
  | .stuck => .stuck
def bYes : M3 Bool := fun env => .ok true env
abbrev never : WX := fun _ _ _ _ => False
abbrev STs (G : Gm) (X : Cx) (ifs : List Expr) (t : M3 Bool) : Prop := PTs X ifs (liftT G never t)
theorem sts_nil : STs G X [] bYes := ⟨fun pins s σ H Q I ⟨g, env, ds, sm, h⟩ => pts_nil.run pins s σ H Q I (h g H (Keep.refl g H) ⟨ds, sm⟩)⟩
variable {wi : M3 IV} {gt : TG} {g3 : TG3} {tt : M3 Bool} {te : M3 EV} {vs : List Nat}
theorem lc_sound (nt : NT3 G gt g3 vs) : ∀ σ H Q, liftE G Wx (eLc wi g3 tt te vs) σ H Q → tLc (liftI G Wx wi) gt (liftT G never tt) (liftE G never te) vs σ H Q := by
  rintro σ H Q ⟨g0, env, ds0, s0, h⟩
  refine ⟨g0, env, ds0, s0, ?_⟩
  unfold eLc at h
  cases e1 : wi env with
  | stuck => rw [e1] at h; exact h.elim
  | exc c e2 => rw [e1] at h; exact h
  | ok iv e =>
    simp only [e1] at h
    intro g1 vh H1 J k1 s1 hI
    split at h
    rotate_left
    · exact h.elim
    rename_i accF eF hF
    obtain ⟨eW, hw, hF⟩ := Option.bind_eq_some_iff.mp hF
    obtain ⟨gl, sl, hz, hPl, hll, hold, back⟩ := Sim.holds s1
    have ij := hI gl hz hold
    obtain ⟨dsl, sl⟩ := sl
    have sw := sl.wipe hw
    intro D hD
    have fD := sw.free hD
    have ok0 : ∀ (i : Nat) w, e[i]? = some (some (SV.val w)) → ∃ v, σ[i]? = some (some v) ∧ Rep G gl.Z H1 w v := fun i w hi => by
      obtain ⟨ds1, es1, q1, _⟩ := s1
      rw [hz]; exact q1.val i w hi
    have lenσ : (L2.wipe σ vs).length = σ.length := L2.wipe_length σ vs
    let St : Gh → Env3 → Hp → List T → Prop := fun g env H acc => ∃ vacc dacc ds, Sim G g env (L2.wipe σ vs) H ds ∧ (∀ p, g.P p ↔ gl.P p ∨ p = D ∨ p ∈ fps dacc) ∧ H D = some (.lst vacc) ∧ RepTL G g.Z H acc vacc dacc ∧ (fps dacc).Nodup ∧ D ∉ fps dacc ∧ (∀ p ∈ fps dacc, ¬ gl.P p ∧ ¬ g.Z p ∧ ∀ i, p ∉ fp (ds i)) ∧ (¬ g.Z D ∧ ∀ i, D ∉ fp (ds i)) ∧ Keep gl H1 { g with P := gl.P } H
    have hn0 : ∀ i ∈ vs, eW[i]? = some none ∨ eW[i]? = none := (wipeE_none hw).2
    refine ⟨fun i m H => ∃ g env acc, i ≤ iv.items.length ∧ m = iv.items.length - i ∧ St g env H acc ∧ (∀ i ∈ vs, env[i]? = some none ∨ env[i]? = none) ∧ lcF g3 tt te vs (iv.items.drop i) acc env = some (accF, eF), ⟨iv.items.length, ?_⟩, ?_⟩
    · have kn := Keep.new (o := .lst []) hD sw
      have s2 := sw.new (o := .lst []) hD
      have s3 := s2.moreP (A := fun p => p = D) fun p hp => by
        subst hp
        exact ⟨fD.1, fD.2.2, _, upd_same, fun ps q => by cases q⟩
      refine ⟨_, eW, [], Nat.zero_le _, rfl, ⟨[], [], dsl, s3, fun p => ?_, upd_same, ⟨rfl, rfl⟩, List.nodup_nil, fun z => (by cases z), fun p z => (by cases z), ⟨fD.1, fD.2.2⟩, ⟨kn.z, kn.p, fun _ z => z, kn.tups, kn.frzs, rfl, rfl, rfl, kn.l⟩⟩, hn0, hF⟩
      constructor
      · rintro (z | z); exact .inl z; exact .inr (.inl z)
      · rintro (z | z | z); exact .inl z; exact .inr z; cases z
    rintro i m H ⟨g, env, acc, hi, rfl, ⟨vacc, dacc, ds, s, gP, hDH, ra, na, nDa, fa, fDz, kk⟩, hns, q⟩
    have hpD : g.P D := (gP D).mpr (.inr (.inl rfl))
    have kw : KeepW gl H1 g H := ⟨kk.z, fun p z => ⟨(gP p).mpr (.inl z), (kk.p p z).2⟩, kk.tups, kk.frzs, kk.lk, kk.l⟩
    by_cases hlt : i < iv.items.length
    · right
      have hx : iv.items[i]? = some iv.items[i] := by simp [hlt]
      rw [List.drop_eq_getElem_cons hlt] at q
      simp only [lcF] at q
      split at q
      rotate_left
      · cases q
      rename_i hok
      obtain ⟨env1, q1, q⟩ := Option.bind_eq_some_iff.mp q
      obtain ⟨go, yld⟩ := (ij g env (L2.wipe σ vs) H kw ⟨ds, s⟩).2 i _ hx
      refine ⟨go, fun H' => ∃ g env acc, St g env H' acc ∧ (∀ i ∈ vs, env[i]? = some none ∨ env[i]? = none) ∧ lcF g3 tt te vs (iv.items.drop (i + 1)) acc env = some (accF, eF), ?_, ?_⟩
      · rintro H' ⟨g', env', acc', a1, a2, a3⟩
        exact ⟨iv.items.length - (i + 1), by omega, g', env', acc', hlt, rfl, a1, a2, a3⟩
      · intro v H' y
        obtain ⟨g', k', s', r'⟩ := yld v H' y
        -- what is kept of the row that grows
        have pk : ∀ {g2 : Gh} {H2 : Hp} {env2 : Env3} {τ : L2.St} {ds2 : Nat → VL.D}, Keep g H g2 H2 → Sim G g2 env2 τ H2 ds2 → (∀ p, g2.P p ↔ gl.P p ∨ p = D ∨ p ∈ fps dacc) ∧ H2 D = some (.lst vacc) ∧ RepTL G g2.Z H2 acc vacc dacc ∧ (∀ p ∈ fps dacc, ¬ gl.P p ∧ ¬ g2.Z p ∧ ∀ i, p ∉ fp (ds2 i)) ∧ (¬ g2.Z D ∧ ∀ i, D ∉ fp (ds2 i)) ∧ Keep gl H1 { g2 with P := gl.P } H2 := fun {g2 H2 env2 τ ds2} k2 s2 => by
          have pin : ∀ p, g.P p → g2.P p ∧ H2 p = H p ∧ ¬ g2.Z p ∧ ∀ i, p ∉ fp (ds2 i) := fun p z => ⟨(k2.p p z).1, (k2.p p z).2, fun y => (s2.zt p y).1 (k2.p p z).1, fun i y => (s2.no i p y).2 (k2.p p z).1⟩
          refine ⟨fun p => ⟨fun z => (gP p).mp (k2.q p z), fun z => (k2.p p ((gP p).mpr z)).1⟩, (pin D hpD).2.1.trans hDH, ra.keep k2.kz fun p hp => (pin p ((gP p).mpr (.inr (.inr hp)))).2.1, fun p hp => ⟨(fa p hp).1, (pin p ((gP p).mpr (.inr (.inr hp)))).2.2⟩, (pin D hpD).2.2, ?_⟩
          exact ⟨fun p z => ⟨(k2.z p (kk.z p z).1).1, ((k2.z p (kk.z p z).1).2).trans (kk.z p z).2⟩, fun p z => ⟨z, (pin p ((gP p).mpr (.inl z))).2.1.trans (kk.p p z).2⟩, fun _ z => z, fun b ys e => k2.tups b ys (kk.tups b ys e), kk.frzs.trans k2.frzs, k2.rt.trans kk.rt, k2.lk.trans kk.lk, k2.xa.trans kk.xa, fun j q hq => (k2.l j q (by have := kk.lk; show q ∈ g.lk j; rw [show g.lk = gl.lk from this]; exact hq)).trans (kk.l j q hq)⟩
        refine nt g' env (L2.wipe σ vs) H' _ v env1 _ (r' hok) q1 fun σ2 s2 hw2 => ⟨hw2.trans (wipe_wipe vs fun _ h => h), ?_⟩
        have hw2 : L2.wipe σ2 vs = L2.wipe σ vs := hw2.trans (wipe_wipe vs fun _ h => h)
        obtain ⟨ds2, s2⟩ := s2
        refine ⟨g', env1, ds2, s2, ?_⟩
        cases et : tt env1 with
        | stuck => rw [et] at q; cases q
        | exc c e3 => rw [et] at q; cases q
        | ok b env3 =>
          intro g3' H3 k3 s3
          have kk3 := k'.trans k3
          cases b with
          | true =>
            rw [et] at q
            simp only at q
            obtain ⟨ds3, s3⟩ := s3
            refine ⟨g3', env3, ds3, s3, ?_⟩
            cases ee : te env3 with
            | stuck => rw [ee] at q; cases q
            | exc c e5 => rw [ee] at q; cases q
            | ok ev env4 =>
              rw [ee] at q
              simp only at q
              split at q
              rotate_left
              · cases q
              rename_i hln
              obtain ⟨t, q3, q⟩ := Option.bind_eq_some_iff.mp q
              obtain ⟨env5, q4, q⟩ := Option.bind_eq_some_iff.mp q
              intro g4 u H4 k4 s4
              have kk4 := kk3.trans k4
              obtain ⟨ds4, d4, s4, r4⟩ := s4
              obtain ⟨p1, p2, p3, p4, p5, p6⟩ := pk kk4 s4
              have tr : RepT G g4.Z H4 t u d4 ∧ (fp d4).Nodup ∧ ∀ p ∈ fp d4, ¬ g4.Z p ∧ ¬ g4.P p ∧ ∀ i, p ∉ fp (ds4 i) := by
                cases ev with
                | im w => cases q3; rw [r4.1]; exact ⟨⟨rfl, r4.2⟩, by rw [fp_z]; exact List.nodup_nil, fun p hp => by rw [fp_z] at hp; cases hp⟩
                | tmp t' => cases q3; exact ⟨r4.1, r4.2.2.1, r4.2.2.2⟩
                | ptr _ _ => cases q3
              obtain ⟨t1, t2, t3⟩ := tr
              have DP : g4.P D := (p1 D).mpr (.inr (.inl rfl))
              have dD : ∀ p ∈ fp d4, p ≠ D ∧ p ∉ fps dacc ∧ ¬ gl.P p := fun p hp => ⟨fun e => (t3 p hp).2.1 (by rw [e]; exact DP), fun z => (t3 p hp).2.1 ((p1 p).mpr (.inr (.inr z))), fun z => (t3 p hp).2.1 ((p1 p).mpr (.inl z))⟩
              refine ⟨vacc, p2, by rw [ra.len.1]; exact big_lt hln, ?_⟩
              let o' : HO := .lst (vacc ++ [u])
              have nlst : ∀ (p : Addr) x, H4 p = some x → (∀ ys, x ≠ .lst ys) → p ≠ D := fun p x h1 h2 e => by subst e; rw [p2] at h1; cases h1; exact h2 _ rfl
              have hup : ∀ p, p ≠ D → upd H4 D o' p = H4 p := fun p e => upd_ne e
              have kzz : KeepZ g4.Z H4 g4.Z (upd H4 D o') := ⟨fun p z => ⟨z, hup p fun e => p5.1 (by rw [← e]; exact z)⟩, fun b ys e => by rw [hup b (nlst b _ e fun _ z => by cases z)]; exact e, FK.mut p2 trivial⟩
              have lkD : ∀ j q, q ∈ g4.lk j → q.2 ≠ D := fun j q hq e => by
                by_cases ei : ∃ p L t, env4[j]? = some (some (SV.own p L t))
                · obtain ⟨p', L', t', ei⟩ := ei
                  obtain ⟨v', o1, o2, o3, o4, o5, o6⟩ := s4.own _ _ _ _ ei
                  rcases o2.adr_in (o6 q hq) with z | ⟨xs, z⟩
                  · rw [e] at z; exact p5.2 j z
                  · rw [e, p2] at z; cases z
                · have := (s4.non j fun q L t z => ei ⟨q, L, t, z⟩).2
                  rw [this] at hq; cases hq
              have glD : ¬ gl.P D := fD.2.1
              have sb := s4.lessP (A := gl.P) fun p z => (p1 p).mpr (.inl z)
              have kD : Keep { g4 with P := gl.P } H4 { g4 with P := gl.P } (upd H4 D o') := ⟨kzz.z, fun p z => ⟨z, hup p fun e => glD (by rw [← e]; exact z)⟩, fun _ z => z, kzz.tups, kzz.frzs, rfl, rfl, rfl, fun j q hq => hup _ (lkD j q hq)⟩
              have s5 := sb.grow kD (fun j p hp => ⟨hup p fun e => p5.2 j (by rw [← e]; exact hp), (s4.no j p hp).1⟩) (fun p z => ⟨(sb.zt p z).1, upd_st (sb.zt p z).2 fun e => p5.1 (by rw [← e]; exact z)⟩) (fun p z => upd_st (sb.pt.1 p z) fun e => glD (by rw [← e]; exact z))
              have s6 := s5.wipe q4
              rw [hw2] at s6
              have f4 : fps (dacc ++ [d4]) = fps dacc ++ fp d4 := by rw [fps_app]; simp [fps]
              have inn : ∀ p, (p = D ∨ p ∈ fps (dacc ++ [d4])) → ¬ g4.Z p ∧ (∀ i, p ∉ fp (ds4 i)) ∧ Ob (upd H4 D o') p := fun p hp => by
                rcases hp with e | hp
                · subst e; exact ⟨p5.1, p5.2, _, upd_same, fun ps q => nomatch (show HO.lst (vacc ++ [u]) = .tbl ps from q)⟩
                · rw [f4] at hp
                  rcases List.mem_append.mp hp with z | z
                  · exact ⟨(p4 p z).2.1, (p4 p z).2.2, upd_st (let ⟨o, e, m⟩ := p3.there p z; Ob.mut e m) fun e => nDa (by rw [← e]; exact z)⟩
                  · exact ⟨(t3 p z).1, (t3 p z).2.2, upd_st (let ⟨o, e, m⟩ := t1.there p z; Ob.mut e m) (dD p z).1⟩
              have s7 := s6.moreP (A := fun p => p = D ∨ p ∈ fps (dacc ++ [d4])) inn
              refine ⟨_, env5, acc ++ [t], ⟨vacc ++ [u], dacc ++ [d4], ds4, s7, fun p => Iff.rfl, upd_same, ?_, ?_, ?_, fun p hp => ?_, p5, p6.trans kD⟩, (wipeE_none q4).2, q⟩
              · refine repTL_app (p3.keep kzz fun p hp => hup p fun e => nDa (by rw [← e]; exact hp)) ⟨u, [], d4, [], rfl, rfl, t1.keep kzz fun p hp => hup p (dD p hp).1, rfl, rfl⟩
              · rw [f4]; exact List.nodup_append.mpr ⟨na, t2, fun p hp q hq e => by subst e; exact (dD p hq).2.1 hp⟩
              · rw [f4]; intro z
                rcases List.mem_append.mp z with z | z
                · exact nDa z
                · exact (dD D z).1 rfl
              · have := inn p (.inr hp)
                refine ⟨?_, this.1, this.2.1⟩
                rw [f4] at hp
                rcases List.mem_append.mp hp with z | z
                · exact (p4 p z).1
                · exact (dD p z).2.2
          | false =>
            rw [et] at q
            simp only at q
            obtain ⟨env5, q4, q⟩ := Option.bind_eq_some_iff.mp q
            obtain ⟨ds3, s3⟩ := s3
            obtain ⟨p1, p2, p3, p4, p5, p6⟩ := pk kk3 s3
            have s6 := s3.wipe q4
            rw [hw2] at s6
            exact ⟨g3', env5, acc, ⟨vacc, dacc, ds3, s6, p1, p2, p3, na, nDa, p4, p5, p6⟩, (wipeE_none q4).2, q⟩
    · left
      have e0 : i = iv.items.length := by omega
      subst e0
      rw [List.drop_eq_nil_of_le (Nat.le_refl _)] at q
      cases q
      refine ⟨(ij g eF (L2.wipe σ vs) H kw ⟨ds, s⟩).1, ?_⟩
      have sb := s.lessP (A := gl.P) fun p z => (gP p).mpr (.inl z)
      have sr := Sim.rest (σ := σ) (env0 := e) (fun i w hi => let ⟨v, h1, h2⟩ := ok0 i w hi; ⟨v, h1, h2.keep kk.kz⟩) (vs := vs) (us := []) sb lenσ fun i => by
        by_cases hi : i ∈ vs
        · exact .inr (hns i hi)
        · exact .inl (wipe_get hi)
      have sE : SimE G { g with P := gl.P } (restE e vs eF) σ H (.tmp (.ml accF)) (.ref D) := by
        refine ⟨ds, .nd (some D) true dacc, sr, ⟨D, vacc, dacc, rfl, rfl, hDH, ra⟩, rfl, ?_, fun p hp => ?_⟩
        · simp only [fp, if_true, Option.toList_some, List.singleton_append]
          exact List.nodup_cons.mpr ⟨nDa, na⟩
        · simp only [fp, if_true, Option.toList_some, List.singleton_append, List.mem_cons] at hp
          rcases hp with e | hp
          · subst e; exact ⟨fDz.1, fD.2.1, fDz.2⟩
          · exact ⟨(fa p hp).2.1, (fa p hp).1, (fa p hp).2.2⟩
      obtain ⟨g9, _, k9, s9⟩ := back _ _ _ _ _ _ kk (SimA.one sE)
      exact h g9 _ H (k1.trans k9) s9.hd
variable {elt tg iter : Expr} {ifs : List Expr} {scope : Scope} {own : List (Str × Nat)} {pos : Pos}
variable {i : Nat} {y : Str} {py spos : Pos}
theorem asg_sound {fe : M3 EV} {t : TE} {i : Nat} (h : ∀ σ H Q, liftE G Wx fe σ H Q → t σ H Q) : ∀ D σ H, liftS G Wx (sAsg fe (gName i)) D σ H → tAsg t (L2.gName i) D σ H := by
  rintro D σ H ⟨g, env, ds, s, hh⟩
  refine h σ H _ ?_
  obtain ⟨g', env', ds', s', h'⟩ := sAsg_mid hh s
  refine ⟨g', env', ds', s', ?_⟩
  cases e1 : fe env' with
  | stuck => rw [e1] at h'; exact h'
  | exc c e2 => rw [e1] at h'; exact h'
  | ok ev e2 =>
    rw [e1] at h'
    intro g1 v H1 k1 s1
    obtain ⟨g2, e3, ev2, e4, q1, q2, q3⟩ := h' g1 v H1 k1 s1
    exact q3 g2 _ H1 (Keep.refl _ _) (q1.setS q2)
end
end VL
namespace VL
open PySem L2 PyProof.Rows
abbrev ClsTab := List (String × List String)
structure IsiT (K : PySem.W.Frag) (G : Gm) (tab : ClsTab) : Prop where
  cl : ∀ p ∈ tab, Cls K (G.cA p.1) ∧ PySem.W.findIn K (.ref (G.cA p.1)) "__class__" = some (some (.builtin "object.__class__")) ∧ PySem.W.mroIn K (G.cA p.1) (.type "object") = some true
  hn : PySem.W.specialIn K (.builtin "object.__class__") "__get__" = some (some (.builtin "getset_descriptor.__get__"))
  ht : PySem.W.takesIn K (.builtin "object.__class__") = some true
  oo : ∀ p ∈ tab, ∀ q ∈ tab, PySem.W.kitOne K (.ref (G.cA p.1)) (.ref (G.cA q.1)) = some (decide (q.1 ∈ p.2))
  bo : ∀ T ∈ ["NoneType", "bool", "int", "str", "tuple", "list"], ∀ q ∈ tab, PySem.W.kitOne K (.type T) (.ref (G.cA q.1)) = some false
section
variable {X : Cx} {G : Gm} {Wx : WX} {g g' : Gh} {env env' : Env3} {σ : L2.St} {H H' : Hp} {ds : Nat → D} {p pos apos cpos : Pos} {e o a b : Expr} {es : List Expr} {fa fb fe fo : M3 EV} {t : M3 (List EV)} {Z : Addr → Prop} {x : Str}
def isx (c D : String) : Bool := c == D || D == "WardenError"
structure XTab (K : PySem.W.Frag) (G : Gm) (ns : List String) : Prop where
  ec : ∀ c ∈ ns, ExcC K (G.cA c)
  ki : ∀ c ∈ ns, ∀ D ∈ ns, PySem.W.kitOne K (.ref (G.cA c)) (.ref (G.cA D)) = some (isx c D)
  kv : ∀ c ∈ ns, PySem.W.kitOne K (.ref (G.cA c)) (.type "ValueError") = some true
  xm : ∀ c ∈ ns, ∀ D ∈ ns, PySem.W.exmOne K (.ref (G.cA c)) (.ref (G.cA D)) = some (isx c D)
def Gm.at (G : Gm) (a : Addr) (c : String) : Gm := { G with xa := some (a, c) }
section
variable {y : Option (Addr × String)}
mutual
theorem rep_gx : ∀ {w : W} {v : V}, Rep { G with xa := y } Z H w v ↔ Rep G Z H w v
  | .non, _ => Iff.rfl
  | .bl _, _ => Iff.rfl
  | .int _, _ => Iff.rfl
  | .str _, _ => Iff.rfl
  | .tup xs, _ => by simp only [Rep, repL_gx]
  | .lst xs, _ => by simp only [Rep, repL_gx]
  | .scr xs, _ => by simp only [Rep, repL_gx]
  | .ktp xs, _ => by simp only [Rep, repL_gx]
  | .ins C fs, _ => by simp only [Rep, repF_gx]
theorem repL_gx : ∀ {xs : List W} {vs : List V}, RepL { G with xa := y } Z H xs vs ↔ RepL G Z H xs vs
  | [], _ => Iff.rfl
  | x :: xs, _ => by simp only [RepL, rep_gx, repL_gx]
theorem repF_gx : ∀ {xs : List (String × W)} {vs : List (Str × V)}, RepF { G with xa := y } Z H xs vs ↔ RepF G Z H xs vs
  | [], _ => Iff.rfl
  | (f, x) :: xs, _ => by simp only [RepF, rep_gx, repF_gx]
end
theorem entK_gx : ∀ {ks : List Ky} {us : List V} {es : List DictEntry}, EntK { G with xa := y } ks us es ↔ EntK G ks us es
  | [], _, _ => Iff.rfl
  | k :: ks, _, _ => by simp only [EntK, entK_gx]
theorem entT_gx : ∀ {xs : List (W × W)} {es : List DictEntry}, EntT { G with xa := y } Z H xs es ↔ EntT G Z H xs es
  | [], _ => Iff.rfl
  | (k, x) :: xs, _ => by simp only [EntT, rep_gx, entT_gx]
mutual
theorem repT_gx : ∀ {t : T} {v : V} {d : D}, RepT { G with xa := y } Z H t v d ↔ RepT G Z H t v d
  | .im w, _, _ => by simp only [RepT, rep_gx]
  | .ml xs, _, _ => by simp only [RepT, repTL_gx]
  | .tp xs, _, _ => by simp only [RepT, repTL_gx]
  | .md xs, _, _ => by simp only [RepT, repTK_gx, entK_gx]
  | .mt xs, _, _ => by simp only [RepT, entT_gx]
  | .mi C xs, _, _ => by simp only [RepT, repTF_gx]
theorem repTL_gx : ∀ {xs : List T} {vs : List V} {ds : List D}, RepTL { G with xa := y } Z H xs vs ds ↔ RepTL G Z H xs vs ds
  | [], _, _ => Iff.rfl
  | x :: xs, _, _ => by simp only [RepTL, repT_gx, repTL_gx]
theorem repTK_gx : ∀ {xs : List (Ky × T)} {vs : List V} {ds : List D}, RepTK { G with xa := y } Z H xs vs ds ↔ RepTK G Z H xs vs ds
  | [], _, _ => Iff.rfl
  | (k, x) :: xs, _, _ => by simp only [RepTK, repT_gx, repTK_gx]
theorem repTF_gx : ∀ {xs : List (String × T)} {vs : List (Str × V)} {ds : List D}, RepTF { G with xa := y } Z H xs vs ds ↔ RepTF G Z H xs vs ds
  | [], _, _ => Iff.rfl
  | (k, x) :: xs, _, _ => by simp only [RepTF, repT_gx, repTF_gx]
end
end
end
end VL
namespace VL
open PySem L2 PyProof.Rows
section
variable {X : Cx} {G : Gm} {Wx : WX} {g g' : Gh} {env env' : Env3} {σ : L2.St} {H H' : Hp} {ds : Nat → D} {p pos : Pos} {e o a b c : Expr} {fa fb fc fe : M3 EV} {Z : Addr → Prop}
theorem sb_lt (ha : SE G X Wx a fa) (hb : SE G X Wx b fb) : SB G X Wx (.Compare a [.Lt] [b] pos) (bVal (eOp fLt fa fb)) := sb_cmp (opR_imp op_lt fIntB_lift) ha hb (nobehind _ (by decide) (by decide))
theorem sb_gt (ha : SE G X Wx a fa) (hb : SE G X Wx b fb) : SB G X Wx (.Compare a [.Gt] [b] pos) (bVal (eOp fGt fa fb)) := sb_cmp (opR_imp op_gt fIntB_lift) ha hb (nobehind _ (by decide) (by decide))
theorem sb_eq (hu : X.A.units + 64 < cLine) (ha : SE G X Wx a fa) (hb : SE G X Wx b fb) (hK : X.K = G.K := by rfl) : SB G X Wx (.Compare a [.Eq] [b] pos) (bVal (eOp fEq fa fb)) := sb_cmp (op_fEq hK hu) ha hb (nobehind _ (by decide) (by decide))
theorem sb_ne (hu : X.A.units + 64 < cLine) (ha : SE G X Wx a fa) (hb : SE G X Wx b fb) (hK : X.K = G.K := by rfl) : SB G X Wx (.Compare a [.NotEq] [b] pos) (bVal (eOp fNe fa fb)) := sb_cmp (op_fNe hK hu) ha hb (nobehind _ (by decide) (by decide))
theorem sb_is (ha : SE G X Wx a fa) (hb : SE G X Wx b fb) : SB G X Wx (.Compare a [.Is] [b] pos) (bVal (eOp fIs fa fb)) := sb_cmp op_fIs ha hb (nobehind _ (by decide) (by decide))
theorem Room.units65 {k : Nat} {A : Around} (r : Room k A) : A.units + 65 < cLine := by have := r.un; omega
structure GlobS (K : PySem.W.Frag) (mg : Str → Option Value) (G : Gm) (x : String) (w : W) : Prop where
  ex : ∃ (v : V) (u : Value), mg (Str.ofString x) = some u ∧ RelV v u ∧ ∀ Z H, Rep G Z H w v
end
abbrev GKT (P : Program) (w : World) (K : PySem.W.Frag) (tb : Option Addr) : Gm := ⟨P, w, K, cAK K, none, tb⟩
abbrev GK (P : Program) (w : World) (K : PySem.W.Frag) : Gm := GKT P w K none
structure ExcK (K : PySem.W.Frag) (mg : Str → Option Value) (C : String) : Prop where
  q : PySem.W.excIn K (cAK K C) He.veBase "ValueError.__new__" = true
  gC : mg (Str.ofString C) = some (.ref (cAK K C))
  kC : PySem.W.keepIn K (.ref (cAK K C)) = true
  bm : PySem.W.subIn K (.ref (cAK K C)) (.type "BaseException") = some true
  ty : PySem.W.typeIn K (.ref (cAK K C)) = some (.type "type")
theorem ExcK.at {K : PySem.W.Frag} {mg : Str → Option Value} {C : String} (e : ExcK K mg C) {X : Cx} (hK : X.K = K := by rfl) (hm : X.mg = mg := by rfl) {tb : Option Addr} : ExcS X (GKT X.prog X.w K tb) C := by
  subst hK hm
  exact ⟨e.q, e.gC, e.kC, e.bm, e.ty⟩
def gh0 : Gh := ⟨fun _ => False, fun _ => False, fun _ => none, fun _ => [], none⟩
theorem repL_ints {G : Gm} {Z : Addr → Prop} {H : Hp} : ∀ ns : List Int, RepL G Z H (ns.map W.int) (ns.map V.int)
  | [] => rfl
  | n :: ns => ⟨_, _, rfl, rfl, repL_ints ns⟩
theorem sqF_of {K : PySem.W.Frag} {H : Hp} {a : Addr} {xs : List V} (o : Only H) (h : SqL K H a xs) : SqF K H a xs := by
  rcases h with (h | h) | h
  · rcases o a with e | ⟨ob, ys, e⟩
    · rw [h] at e; cases e
    · rw [h] at e; cases e
  · exact .inl h
  · exact .inr h
theorem walk_ofX {l : PySem.W.OpenLaw} {n k : Nat} {q : Program} {loose : List Str} {XP : (Str → Option Value) → Heap → Prop} {YP : World → Heap → Prop} {d : DefRec} {x : Str}
    (hn : l.most = some n) (hn2 : n ≤ sizeLine) (hdf : d.params.defaults = []) (hr : Room k callerA)
    (F : ∀ (w : World) (mg : Str → Option Value) (fa : Addr) (h : Heap), YP w h → h.Ns mainGlobals mg → mg d.name = some (.ref fa) →
      ∃ (K : PySem.W.Frag) (fd : FuncData) (sp : Fn), K.In h ∧ (∀ (s : Shared) (u : Value), BindsTo s fd ⟨[u], []⟩ [(x, u)]) ∧
        (∀ (ns : List Int), ns.length ≤ n → ∃ ts, sp [.im (.scr (ns.map W.int))] = .ok (.im (.bl true)) ts) ∧
        ∀ base : Heap, K.In base → base.Ns mainGlobals mg → FnOk l.prog w K mg base (L2.CX l.prog w) k fa fd [x] (spOf (GK l.prog w K) 1 sp)) :
    PySem.W.WalkO q loose XP YP l.row.toRowW d [] (fun f vs => PySem.call f vs) := by
  refine Att.attach_call hn hdf fun w s₀ s₁ mg mb fa o pm cd doc a vs ns G Y ho hd hcd hmg hobj hints hlen hg => ?_
  obtain ⟨K, fd, sp, KX, hb, hsp, hF⟩ := F w mg fa _ Y G.T.g hmg
  refine law_call KX G.T.g G.T.b G.T.builtins G.T.nolimit hg hobj hints (Nat.le_trans hlen hn2) hr hF hb (fun H hO hS => ?_) fun H e s' h => ?_
  · obtain ⟨ts, hts⟩ := hsp ns hlen
    refine ⟨rfl, gh0, [.im (.scr (ns.map W.int))], [.z], ⟨rfl, fun p z => z.elim, fun p z => z.elim, fun P e => by cases e⟩, ⟨⟨_, [], _, [], rfl, rfl, ⟨rfl, a, _, rfl, sqF_of hO hS, repL_ints ns⟩, rfl, rfl⟩, by simp [fps, fp_z], fun p hp => by simp [fps, fp_z] at hp⟩, ?_⟩
    rw [hts]
    exact fun g' v H' es' _ _ _ _ fr => fr
  · obtain ⟨_, _, _, _, _, _, _, _, _, _, _, _, z⟩ := h
    exact z
section
variable {P : Program} {w : World} {K : PySem.W.Frag} {mg : Str → Option Value} {base : Heap}
theorem clsB_ok {tb : Option Addr} {C m : String} {k n : Nat} {s : Fn} {fd : FuncData} {ps : List Str} (h : clsB K C m = true) (hm : mg (Str.ofString C) = some (.ref (cAK K C)))
    (F : FnOk P w K mg base (L2.CX P w) k (He.fAd K (Str.ofString C, some (Str.ofString m))) fd ps (spOf (GKT P w K tb) n s)) (hb : Binds K fd ps []) (kp : PySem.W.keepIn K (.ref (He.fAd K (Str.ofString C, some (Str.ofString m)))) = true) :
    ClsS P w K mg base (GKT P w K tb) C m k n s := by
  unfold clsB at h
  simp only [Bool.and_eq_true] at h
  obtain ⟨h1, h2, h3⟩ := h
  split at h3
  · rename_i a e
    have ea := of_decide_eq_true h3
    subst ea
    exact ⟨hm, h1, He.eqO_ok h2, _, fd, ps, e, kp, F, hb⟩
  · cases h3
theorem sameB_ok {C D m : String} (h : sameB K C D m = true) : He.ma K (cAK K C) (Str.ofString m) = He.ma K (cAK K D) (Str.ofString m) := of_decide_eq_true h
end
theorem bn0 {K : PySem.W.Frag} {fd : FuncData} {ps : List Str} (h : Binds K fd ps []) : ∃ ds, Vals [] ds ∧ Binds K fd ps ds := ⟨[], .nil, h⟩
theorem mk_to {K : PySem.W.Frag} {C f g : Addr} (h : Mk K C f) (e : f = g) : Mk K C g := e ▸ h
theorem meth_to {K : PySem.W.Frag} {C f g : Addr} {m : Str} (h : Meth K C m f) (e : f = g) : Meth K C m g := e ▸ h
theorem obsY_eq {n : Nat} {fa : List He.Fa} {fn : List He.DefD} {ex : PySem.W.Frag → Bool} {g : Addr → Option Obj} {s : Shared} (h : ∀ a, g a = s.heap.get? a) : obsY n fa fn ex g = (hookY n fa fn ex).obs s := by
  have e : g = s.heap.get? := funext h
  rw [e] <;> rfl
section
variable {P : Program} {w : World} {K : PySem.W.Frag} {mg : Str → Option Value} {base : Heap}
end
end VL
namespace VL
open PySem L2 PyProof.Rows
def eTake (i : Nat) : M3 EV := fun env => match env[i]? with
  | some (some (SV.own _ _ _)) => eMove i env
  | _ => eVar i env
def frzL : T → Option W
  | .ml xs => (allI xs).map .lst
  | _ => none
def eFrzL (f : M3 EV) : M3 EV := fun env => match f env with
  | .ok (.tmp t) e => (match frzL t with
    | some w => .ok (.im w) e
    | none => .ok (.tmp t) e)
  | o => o
section
variable {X : Cx} {G : Gm} {Wx : WX} {g g' : Gh} {env env' : Env3} {σ : L2.St} {H H' : Hp} {ds : Nat → D} {e : Expr} {fe : M3 EV}
theorem se_take {i : Nat} {x : Str} {pos : Pos} (hN : X.N[i]? = some x) (hv : Vis X.env.scope x) (hd : (x == ("__debug__" : Str)) = false := by decide) (hcd : (x == ("__classdict__" : Str)) = false := by decide) : SE G X Wx (.Name x pos) (eTake i) := by
  refine ⟨fun pins s0 σ H Q I h => ?_⟩
  obtain ⟨g, env, ds, s, h⟩ := h
  unfold eTake at h
  split at h
  · exact (se_move (G := G) (Wx := Wx) hN hv hd hcd).run pins s0 σ H Q I ⟨g, env, ds, s, h⟩
  · exact (se_var (G := G) (Wx := Wx) hN hv hd hcd).run pins s0 σ H Q I ⟨g, env, ds, s, h⟩
theorem allI_frz : ∀ {xs : List T} {ws : List W}, allI xs = some ws → frzTs xs = some ws
  | [], ws, h => h
  | .im w :: xs, ws, h => by
    obtain ⟨ws', h1, rfl⟩ := Option.map_eq_some_iff.mp (show (allI xs).map (w :: ·) = some ws from h)
    simp only [frzTs, frzT, allI_frz h1, Option.bind_some, Option.map_some]
  | .ml _ :: _, _, h => by cases h
  | .md _ :: _, _, h => by cases h
  | .mt _ :: _, _, h => by cases h
  | .mi _ _ :: _, _, h => by cases h
  | .tp _ :: _, _, h => by cases h
theorem frzL_frz {t : T} {w : W} (h : frzL t = some w) : frzT t = some w := by
  cases t with
  | ml xs =>
    obtain ⟨ws, h1, rfl⟩ := Option.map_eq_some_iff.mp (show (allI xs).map W.lst = some w from h)
    simp only [frzT, allI_frz h1, Option.map_some]
  | _ => cases h
theorem frzL_sound {t : TE} (h : ∀ σ H Q, liftE G Wx fe σ H Q → t σ H Q) : ∀ σ H Q, liftE G Wx (eFrzL fe) σ H Q → t σ H Q := by
  rintro σ H Q ⟨g, env, ds, s, hh⟩
  refine h σ H Q ⟨g, env, ds, s, ?_⟩
  unfold eFrzL at hh
  cases e1 : fe env with
  | stuck => rw [e1] at hh; exact hh.elim
  | exc c e2 => rw [e1] at hh; exact hh
  | ok ev e2 =>
    rw [e1] at hh
    cases ev with
    | ptr _ _ => exact hh
    | im w => exact hh
    | tmp u =>
      intro g1 v H1 k1 s1
      simp only at hh
      split at hh
      · rename_i w hw
        obtain ⟨g2, k2, s2⟩ := s1.frz (frzL_frz hw)
        exact hh g2 v H1 (k1.trans k2) s2
      · exact hh g1 v H1 k1 s1
theorem se_frzL (h : SE G X Wx e fe) : SE G X Wx e (eFrzL fe) := pe_imp h (frzL_sound fun _ _ _ h => h)
variable {wi : M3 IV} {gt : TG} {g3 : TG3} {tt : M3 Bool} {te : M3 EV} {elt tg iter : Expr} {ifs : List Expr} {scope : Scope} {own : List (Str × Nat)} {pos spos py : Pos} {i : Nat} {y : Str}
theorem ss_setlcL (hc : X.calm = true) (hN : X.N.Nodup) (hy : X.N[i]? = some y) (hyl : X.env.scope.names.lookup y = some .local)
    (hsw : swapsWith (.ListComp elt [⟨tg, iter, ifs, 0⟩] scope pos) (some (.Name y py)) spos.line X.env = pure true) (hi : SI G X Wx tg iter wi) (ok : BlkOk X.N X.env.scope scope own) (nt : NT3 G gt g3 (own.map (·.2)))
    (hg : ∀ (s : Shared) (H : Hp) (C : Addr) (cl : List (Str × Addr)) (fp : List Addr), PG (X.blk s H scope (compEnvC scope cl C X.env) fp) tg gt) (ht : ∀ (s : Shared) (H : Hp) (C : Addr) (cl : List (Str × Addr)) (fp : List Addr), STs G (X.blk s H scope (compEnvC scope cl C X.env) fp) ifs tt)
    (he : ∀ (s : Shared) (H : Hp) (C : Addr) (cl : List (Str × Addr)) (fp : List Addr), SE G (X.blk s H scope (compEnvC scope cl C X.env) fp) never elt te) (hs : ∀ x, foldedSetIterable iter X.env x = pure x := by intro _; rfl) :
    SS G X Wx (.Assign [.Name y py] (.ListComp elt [⟨tg, iter, ifs, 0⟩] scope pos) spos) (sAsg (eFrzL (eLc wi g3 tt te (own.map (·.2)))) (gName i)) :=
  ps_imp (ps_setLc hc hN hy hyl hsw hi ok hg ht he hs) (asg_sound (frzL_sound (lc_sound nt)))
end
end VL
namespace VL
open PySem L2 PyProof.Rows
section
variable {X : Cx} {G : Gm} {Wx : WX} {pos pos' : Pos} {value o i : Expr} {fo fi fv : M3 EV}
end
end VL
namespace VL
open PySem L2 PyProof.Rows
def kyK : Ky → L2.Key
  | .i n => .inl n
  | .s x => .inr (Str.ofString x)
theorem keyV_kV (k : Ky) : keyV k = kV (kyK k) := by cases k <;> rfl
theorem kyK_inj {a b : Ky} (h : kyK a = kyK b) : a = b := by
  cases a <;> cases b <;> simp only [kyK, Sum.inl.injEq, Sum.inr.injEq, reduceCtorEq] at h
  · rw [h]
  · rw [ofString_inj h]
theorem leaf_hash {P : Program} {w : World} (k : Ky) : (leafKind P w).hash (keyL k) = (mixKind P w).hash (kyK k) := by cases k <;> rfl
def kvL : List Ky → List V → List (L2.Key × V)
  | k :: ks, u :: us => (kyK k, u) :: kvL ks us
  | _, _ => []
theorem EntK.len {G : Gm} : ∀ {ks : List Ky} {us : List V} {es : List DictEntry}, EntK G ks us es → us.length = ks.length ∧ es.length = ks.length
  | [], _, _, ⟨e, e2⟩ => by simp [e, e2]
  | k :: ks, _, _, ⟨u, r, e, er, e1, e2, a, b, c, d⟩ => by subst e1 e2; simp [d.len.1, d.len.2]
theorem kvL_keys : ∀ {ks : List Ky} {us : List V}, us.length = ks.length → (kvL ks us).map (·.1) = ks.map kyK
  | [], [], _ => rfl
  | k :: ks, u :: us, h => by simp [kvL, kvL_keys (by simpa using h)]
theorem kvL_len : ∀ {ks : List Ky} {us : List V}, us.length = ks.length → (kvL ks us).length = ks.length
  | [], [], _ => rfl
  | k :: ks, u :: us, h => by simp [kvL, kvL_len (by simpa using h)]
theorem entK_pairs {G : Gm} : ∀ {ks : List Ky} {us : List V} {es : List DictEntry}, EntK G ks us es → ∃ vs, KV (kvL ks us) vs ∧ Pairs (mixKind G.P G.w) es vs ∧ vs.map (·.1) = ks.map kyK ∧ ∀ e ∈ es, ∃ k, (mixKind G.P G.w).is k e.key = true ∧ e.hash = (mixKind G.P G.w).hash k
  | [], _, _, ⟨e, e2⟩ => by subst e e2; exact ⟨[], .nil, .nil, rfl, fun _ h => nomatch h⟩
  | k :: ks, _, _, ⟨u, r, e, er, e1, e2, a, b, c, d⟩ => by
    subst e1 e2
    obtain ⟨vs, h1, h2, h3, h4⟩ := entK_pairs d
    have hk : (mixKind G.P G.w).is (kyK k) e.key = true := kV_is (by rw [← keyV_kV]; exact a)
    refine ⟨(kyK k, e.val) :: vs, .cons ⟨rfl, c⟩ h1, .cons hk rfl h2, by simp [h3], fun x hx => ?_⟩
    rcases List.mem_cons.mp hx with rfl | hx
    · exact ⟨kyK k, hk, by rw [b, leaf_hash]⟩
    · exact h4 x hx
theorem pairs_entK {G : Gm} : ∀ {ks : List Ky} {us : List V} {vs : List (L2.Key × Value)} {es : List DictEntry}, us.length = ks.length → KV (kvL ks us) vs → Pairs (mixKind G.P G.w) es vs → (∀ e ∈ es, ∃ k, (mixKind G.P G.w).is k e.key = true ∧ e.hash = (mixKind G.P G.w).hash k) → EntK G ks us es
  | [], [], _, _, _, .nil, .nil, _ => ⟨rfl, rfl⟩
  | k :: ks, u :: us, _, _, hl, .cons ⟨p1, p2⟩ h, .cons q1 q2 q3, hh => by
    rename_i q vs e es
    refine ⟨u, us, e, es, rfl, rfl, ?_, ?_, ?_, pairs_entK (by simpa using hl) h q3 fun x hx => hh x (List.mem_cons_of_mem _ hx)⟩
    · have p1' : kyK k = q.1 := p1
      rw [← p1'] at q1
      rcases keyIs_shape q1 with ⟨i, t, e1, e2⟩ | ⟨x, t, e1, e2⟩
      · cases k with
        | i n => cases e1; exact ⟨t, e2⟩
        | s y => cases e1
      · cases k with
        | i n => cases e1
        | s y => cases e1; exact ⟨t, e2⟩
    · obtain ⟨k', h1, h2⟩ := hh e (List.mem_cons_self)
      have p1' : kyK k = q.1 := p1
      rw [← p1'] at q1
      rw [h2, leaf_hash, (mixKind G.P G.w).inj _ _ _ h1 q1]
    · rw [q2]; exact p2
structure DictK (G : Gm) (h : Heap) (p : Addr) (ks : List Ky) (us : List V) : Prop where
  ex : ∃ vs, KV (kvL ks us) vs ∧ h.DictOf (mixKind G.P G.w) p vs
  ln : us.length = ks.length
  nd : ks.Nodup
  low : (p == sysModules) = false
  le : ks.length ≤ sizeLine
theorem dictK_of {G : Gm} {h : Heap} {p : Addr} {ob : Obj} {es : List DictEntry} {ks : List Ky} {us : List V} (hp : h.get? p = some ob) (i : IsDict p ob es) (e : EntK G ks us es) (n : ks.Nodup) : DictK G h p ks us := by
  obtain ⟨vs, h1, h2, h3, h4⟩ := entK_pairs e
  obtain ⟨ep, hd⟩ := i.da
  refine ⟨⟨vs, h1, ob, es.toArray, ep, hp, i.ex, hd, fun x hx => h4 x (by simpa using hx), by simpa using h2, ?_⟩, e.len.1, n, i.low, by rw [← e.len.2]; exact i.le⟩
  rw [h3]
  exact n.map (f := kyK) fun a b hab hk => hab (kyK_inj hk)
theorem DictK.back {G : Gm} {h : Heap} {p : Addr} {ks : List Ky} {us : List V} (d : DictK G h p ks us) : ∃ ob es, h.get? p = some ob ∧ IsDict p ob es ∧ EntK G ks us es := by
  obtain ⟨vs, h1, ob, es, ep, g1, g2, g3, g4, g5, g6⟩ := d.ex
  have e := pairs_entK d.ln h1 g5 fun x hx => g4 x (by simpa using hx)
  refine ⟨ob, es.toList, g1, ⟨d.low, g2, ⟨ep, by rw [g3]⟩, ?_⟩, e⟩
  rw [e.len.2]; exact d.le
theorem kvL_val : ∀ {ks : List Ky} {us : List V} {k : Ky}, us.length = ks.length → (valV (kvL ks us) (kyK k)) = (ks.findIdx? fun q => decide (q = k)).bind fun i => us[i]?
  | [], [], _, _ => rfl
  | q :: ks, u :: us, k, h => by
    by_cases e : q = k
    · rw [show kvL (q :: ks) (u :: us) = (kyK q, u) :: kvL ks us from rfl, valV_pos (by rw [e])]
      simp [List.findIdx?_cons, e]
    · rw [show kvL (q :: ks) (u :: us) = (kyK q, u) :: kvL ks us from rfl, valV_neg (fun z => e (kyK_inj z)), kvL_val (by simpa using h)]
      simp only [List.findIdx?_cons, e, decide_false, Bool.false_eq_true, if_false]
      cases (ks.findIdx? fun q => decide (q = k)) <;> simp
theorem kvL_some {ks : List Ky} {us : List V} {k : Ky} (h : us.length = ks.length) : (valV (kvL ks us) (kyK k)).isSome = decide (k ∈ ks) := by
  rw [kvL_val h]
  cases hf : ks.findIdx? fun q => decide (q = k) with
  | none =>
    have : k ∉ ks := fun hk => by
      have := List.findIdx?_eq_none_iff.mp hf k hk
      simp at this
    simp [this]
  | some i =>
    obtain ⟨l1, l2, _⟩ := List.findIdx?_eq_some_iff_getElem.mp hf
    have hk : k ∈ ks := by rw [← of_decide_eq_true l2]; exact List.getElem_mem l1
    have hl : i < us.length := by omega
    simp [hk, hl]
section
variable {X : Cx} {G : Gm}
def DatK (G : Gm) (H : Hp) (a : Addr) (ks : List Ky) (us : List V) : Prop := ∃ ob es, H a = some (dO a ob) ∧ IsDict a ob es ∧ EntK G ks us es ∧ ks.Nodup
theorem DatK.at {pins : List (Addr × Obj)} {σ : L2.St} {H : Hp} {s : Shared} {a : Addr} {ks : List Ky} {us : List V} (I : Inv X pins σ H s) (d : DatK G H a ks us) : DictK G s.heap a ks us := by
  obtain ⟨ob, es, h1, h2, h3, h4⟩ := d
  have x : ObjOk X.prog X.w H s.heap a (dO a ob) := I.hok a _ h1
  exact dictK_of x.1 h2 h3 h4
def rIxK (G : Gm) : R2 := fun x y H Q => ∃ a ks us k i u, x = .ref a ∧ DatK G H a ks us ∧ y = keyV k ∧ (ks.findIdx? fun q => decide (q = k)) = some i ∧ us[i]? = some u ∧ Q u H
theorem ix_K (hP : X.prog = G.P) (hW : X.w = G.w) : IxR X (rIxK G) := by
  intro value slice pins s σ H x y v u Q I rx ry h hs
  obtain ⟨a, ks, us, k, i, z, rfl, d, rfl, h1, h2, q⟩ := h
  obtain rfl : v = Value.ref a := rx
  have dk := d.at I
  obtain ⟨vs, r, dd⟩ := dk.ex
  rw [← hP, ← hW] at dd
  have hv : valV (kvL ks us) (kyK k) = some z := by rw [kvL_val dk.ln, h1]; exact h2
  obtain ⟨w', hw, rw'⟩ := RelO.some_of (v := z) (o := valueAt vs (kyK k)) (by rw [← hv]; exact r.val _)
  exact tail_any dd.typeIs PySem.slot_dict_getitem.lookup (wpAny_getItem_of (kV_is (by rw [← keyV_kV]; exact ry)) dd.mapOf hw ⟨z, H, I.tok _, rw', q⟩) hs
theorem kvL_put_new : ∀ {ks : List Ky} {us : List V} {k : Ky} {v : V}, us.length = ks.length → k ∉ ks → putK (kvL ks us) (kyK k) v = kvL (ks ++ [k]) (us ++ [v]) := by
  intro ks us k v hl hk
  rw [putK_new v (by
    have := kvL_some (k := k) hl
    rw [decide_eq_false hk] at this
    simpa using this)]
  induction ks generalizing us with
  | nil => cases us with
    | nil => rfl
    | cons _ _ => simp at hl
  | cons q ks ih => cases us with
    | nil => simp at hl
    | cons u us =>
      simp only [List.mem_cons, not_or] at hk
      show (kyK q, u) :: (kvL ks us ++ _) = _
      rw [ih (by simpa using hl) hk.2]; rfl
theorem kvL_put_old : ∀ {ks : List Ky} {us : List V} {k : Ky} {v : V} {i : Nat}, us.length = ks.length → ks.Nodup → (ks.findIdx? fun q => decide (q = k)) = some i → putK (kvL ks us) (kyK k) v = kvL ks (us.set i v) := by
  intro ks us k v i hl hn hi
  have hk : k ∈ ks := by
    obtain ⟨l1, l2, _⟩ := List.findIdx?_eq_some_iff_getElem.mp hi
    rw [← of_decide_eq_true l2]; exact List.getElem_mem l1
  have e : putK (kvL ks us) (kyK k) v = (kvL ks us).map (fun kv => if kv.1 = kyK k then (kv.1, v) else kv) := by
    unfold putK
    rw [if_pos]
    rw [valV_any, kvL_some hl]; exact decide_eq_true hk
  rw [e]
  clear e
  induction ks generalizing us i with
  | nil => cases hk
  | cons q ks ih => cases us with
    | nil => simp at hl
    | cons u us =>
      have hn2 := List.nodup_cons.mp hn
      show (if kyK q = kyK k then (kyK q, v) else (kyK q, u)) :: (kvL ks us).map _ = _
      by_cases eq : q = k
      · subst eq
        have : i = 0 := by simpa [List.findIdx?_cons] using hi.symm
        subst this
        rw [if_pos rfl]
        show _ = (kyK q, v) :: kvL ks us
        congr 1
        have : ∀ x ∈ kvL ks us, (if x.1 = kyK q then (x.1, v) else x) = x := fun x hx => by
          rw [if_neg]
          intro hx1
          have : x.1 ∈ (kvL ks us).map (·.1) := List.mem_map_of_mem hx
          rw [kvL_keys (by simpa using hl), hx1] at this
          obtain ⟨q', h1, h2⟩ := List.mem_map.mp this
          exact hn2.1 (kyK_inj h2 ▸ h1)
        rw [List.map_congr_left this, List.map_id']
      · rw [if_neg fun z => eq (kyK_inj z)]
        have hi' : ∃ j, i = j + 1 ∧ (ks.findIdx? fun q => decide (q = k)) = some j := by
          simp only [List.findIdx?_cons, eq, decide_false, Bool.false_eq_true, if_false] at hi
          obtain ⟨j, hj, rfl⟩ := Option.map_eq_some_iff.mp hi
          exact ⟨j, rfl, hj⟩
        obtain ⟨j, rfl, hj⟩ := hi'
        rw [ih (by simpa using hl) hn2.2 hj ((List.mem_cons.mp hk).resolve_left fun z => eq z.symm)]
        rfl
def putKU (ks : List Ky) (us : List V) (k : Ky) (v : V) : List Ky × List V := match ks.findIdx? fun q => decide (q = k) with
  | some i => (ks, us.set i v)
  | none => (ks ++ [k], us ++ [v])
theorem find_none {ks : List Ky} {k : Ky} (h : (ks.findIdx? fun q => decide (q = k)) = none) : k ∉ ks := fun hk => by
  have := List.findIdx?_eq_none_iff.mp h k hk
  simp at this
theorem DictK.put {h h' : Heap} {a : Addr} {ks : List Ky} {us : List V} {k : Ky} {v : V} {r : Value} (d : DictK G h a ks us) (vs : List (L2.Key × Value)) (hr : KV (kvL ks us) vs) (rv : RelV v r) (dd : h'.DictOf (mixKind G.P G.w) a (stored vs (kyK k) r)) (hl : ks.length < sizeLine) : DictK G h' a (putKU ks us k v).1 (putKU ks us k v).2 := by
  unfold putKU
  cases hf : ks.findIdx? fun q => decide (q = k) with
  | some i => exact ⟨⟨_, by rw [← kvL_put_old d.ln d.nd hf]; exact hr.put _ rv, dd⟩, by simp [d.ln], d.nd, d.low, d.le⟩
  | none =>
    have hk := find_none hf
    refine ⟨⟨_, by rw [← kvL_put_new d.ln hk]; exact hr.put _ rv, dd⟩, by simp [d.ln], ?_, d.low, by simp; omega⟩
    exact List.nodup_append.mpr ⟨d.nd, by simp, fun x hx y hy => by simp at hy; subst hy; exact fun e => hk (e ▸ hx)⟩
theorem Inv.dict {pins : List (Addr × Obj)} {σ : L2.St} {H : Hp} {s : Shared} {a : Addr} {h' : Heap} {t' : Nat} {ks' : List Ky} {us' : List V} (I : Inv X pins σ H s) (mu : Mut (H a)) (hs : Heap.SameBut a s.heap h') (d : DictK G h' a ks' us') : ∃ ob es, IsDict a ob es ∧ EntK G ks' us' es ∧ Inv X pins σ (L2.upd H a (dO a ob)) { s with heap := h', toks := t' } := by
  obtain ⟨ob, es, h1, h2, h3⟩ := d.back
  exact ⟨ob, es, h2, h3, d_write I mu hs ⟨ob, h1⟩ ⟨h1, ⟨ob, h1⟩, fun _ _ p e => e _ p⟩⟩
def rSetK (G : Gm) : TSet := fun o i v H Q => ∃ a ks us k, o = .ref a ∧ DatK G H a ks us ∧ Mut (H a) ∧ i = keyV k ∧ ks.length < 10000000 ∧ ∀ ob es, IsDict a ob es → EntK G (putKU ks us k v).1 (putKU ks us k v).2 es → Q (L2.upd H a (dO a ob))
theorem set_K (hP : X.prog = G.P) (hW : X.w = G.w) : PSet X (rSetK G) := by
  intro pins s σ H o i v ov iv u Q I ro ri rv h
  obtain ⟨a, ks, us, k, rfl, d, mu, rfl, hl, q⟩ := h
  cases ro
  have dk := d.at I
  obtain ⟨vs, r, dd⟩ := dk.ex
  have hz : vs.length ≤ sizeLine := by rw [← r.length, kvL_len dk.ln]; exact dk.le
  have hl2 : ks.length < sizeLine := by rw [sizeLine_eq]; omega
  have dd2 := dd
  rw [← hP, ← hW] at dd2
  refine wpAny_setItem_pairs (hsz := hz) (kV_is (by rw [← keyV_kV]; exact ri)) dd2 fun h' dd' hs => ?_
  rw [hP, hW] at dd'
  obtain ⟨ob, es, e1, e2, I'⟩ := Inv.dict (t' := s.toks + 1) I mu hs (dk.put vs r rv dd' hl2)
  exact ⟨_, I', q ob es e1 e2⟩
end
def keyT : T → Option Ky
  | .im (.int n) => some (.i n)
  | .im (.str s) => some (.s s)
  | _ => none
def keyE : EV → Option Ky
  | .im (.int n) => some (.i n)
  | .im (.str s) => some (.s s)
  | _ => none
theorem keyE_sim {G : Gm} {g : Gh} {env : Env3} {σ : L2.St} {H : Hp} {e : EV} {k : Ky} {v : V} (h : keyE e = some k) (r : SimE G g env σ H e v) : v = keyV k := by
  unfold keyE at h
  split at h
  · cases h; exact r.imR
  · cases h; exact r.imR
  · cases h
def kfind (k : Ky) (kvs : List (Ky × T)) : Option Nat := kvs.findIdx? fun q => decide (q.1 = k)
theorem kfind_keys (k : Ky) (kvs : List (Ky × T)) : ((kvs.map (·.1)).findIdx? fun q => decide (q = k)) = kfind k kvs := by
  unfold kfind; rw [List.findIdx?_map]; rfl
def khas (k : Ky) (kvs : List (Ky × T)) : Bool := decide (k ∈ kvs.map (·.1))
def kput (k : Ky) (x : T) (kvs : List (Ky × T)) : List (Ky × T) := match kfind k kvs with
  | some i => setV i x kvs
  | none => kvs ++ [(k, x)]
section
variable {X : Cx} {G : Gm} {Wx : WX} {g : Gh} {env env' : Env3} {σ : L2.St} {H : Hp}
theorem repMd {Z : Addr → Prop} {kvs : List (Ky × T)} {v : V} {d : D} (r : RepT G Z H (.md kvs) v d) : ∃ a us ds, v = .ref a ∧ d = .nd (some a) true ds ∧ DatK G H a (kvs.map (·.1)) us ∧ RepTL G Z H (kvs.map (·.2)) us ds := by
  obtain ⟨p, ob, es, us, ds, e1, e2, q, ⟨a1, a2, a3⟩, r⟩ := r
  exact ⟨p, us, ds, e1, e2, ⟨ob, es, q, a1, a2, a3⟩, repTK_iff.mp r⟩
def fInM (neg : Bool) : F2 := fun x y => match y with
  | .md kvs => (keyT x).map fun k => .im (.bl (khas k kvs != neg))
  | _ => none
def ixM : EV → EV → Env3 → Option EV := fun ob iv env => match rd env ob with
  | some (.md kvs) => (keyE iv).bind fun k => ((T.md kvs).kid (.key k)).map (kidEV ob (.key k))
  | _ => none
end
section
variable {X : Cx} {G : Gm} {Wx : WX} {g : Gh} {env env' : Env3} {σ : L2.St} {H : Hp}
theorem SimA.wrD {kp : Bool} {ob : EV} {evs : List EV} {v : V} {vs : List V} (s : SimA G g env σ H (ob :: evs) (v :: vs)) {kvs kvs' : List (Ky × T)} (hx : rd env ob = some (.md kvs)) (hw : putE kp ob (.md kvs') env = some env') :
    ∃ a us dk es, v = .ref a ∧ DatK G H a (kvs.map (·.1)) us ∧ Mut (H a) ∧ us.length = kvs.length ∧ RepTL G g.Z H (kvs.map (·.2)) us dk ∧ (∀ ts, toTs evs = some ts → RepTL G g.Z H ts vs es) ∧ (∀ ws, allW evs = some ws → RepL G g.Z H ws vs) ∧ (fps dk).Nodup ∧ (fps es).Nodup ∧ (∀ p ∈ fps dk, p ∉ fps es) ∧
      ∀ ob' es' us' dk' (w' : T) u' d', IsDict a ob' es' → EntK G (kvs'.map (·.1)) us' es' → (kvs'.map (·.1)).Nodup → RepTL G g.Z H (kvs'.map (·.2)) us' dk' → RepT G g.Z H w' u' d' → (fps dk' ++ fp d').Nodup → (∀ q ∈ fps dk' ++ fp d', q ∈ fps dk ∨ q ∈ fps es) →
        (kp = true → ∀ π' b, adr (.md kvs) (.nd (some a) true dk) π' = some b → adr (.md kvs') (.nd (some a) true dk') π' = some b) →
        Keep g H g (L2.upd H a (dO a ob')) ∧ SimE G g env' σ (L2.upd H a (dO a ob')) (evOf w') u' := by
  obtain ⟨k, ρ, rfl, hw'⟩ := simA_ptr hw
  clear hw
  have hw := hw'
  clear hw'
  obtain ⟨a, us, dk, es, rfl, sh, rl, rt, rW, n1, n2, n3, n4, kz, mu, W⟩ := s.wr hx rfl (wrS_lock hw)
  obtain ⟨a', ob0, es0, e1, e2, _, hl, i1, i2, i3⟩ := sh
  cases e2
  refine ⟨a, us, dk, es, rfl, ⟨ob0, es0, hl, i1, i2, i3⟩, mu, by rw [rl.len.1]; simp [T.kids], rl, rt, rW, n1, n2, n4, fun ob' es' us' dk' w' u' d' j1 j2 j3 r1 r2 m1 m2 m3 => ?_⟩
  obtain ⟨env2, w1, w2, w3⟩ := W (dO a ob') (.md kvs') us' dk' w' u' d' kp ⟨a, ob', es', rfl, rfl, rfl, upd_same, j1, j2, j3⟩ r1 rfl r2 m1 m2 m3
  rw [hw] at w1; cases w1
  exact ⟨w2, w3⟩
def setM : FS := fun o i y env => match rd env o with
  | some (.md kvs) => (keyE i).bind fun k => (toT y).bind fun x => if kvs.length < 10000000 then putE false o (.md (kput k x kvs)) env else none
  | _ => none
theorem kput_keys (k : Ky) (x : T) (kvs : List (Ky × T)) (us : List V) (v : V) : (kput k x kvs).map (·.1) = (putKU (kvs.map (·.1)) us k v).1 := by
  unfold kput putKU
  rw [kfind_keys]
  cases kfind k kvs with
  | some i => exact setV_keys
  | none => simp
theorem set_M (hP : X.prog = G.P) (hW : X.w = G.w) : PSet X (liftSet G setM) := by
  refine pset_imp (set_K hP hW) ?_
  rintro o i v H Q ⟨g, env, σ, ob, iv, y, env', s, q, k⟩
  unfold setM at q
  split at q
  · rename_i kvs hx
    obtain ⟨ky, hk, q⟩ := Option.bind_eq_some_iff.mp q
    obtain ⟨x, hy, q⟩ := Option.bind_eq_some_iff.mp q
    split at q
    · rename_i hl
      have si : i = keyV ky := keyE_sim hk s.swap.tl.snd
      obtain ⟨a, us, dk, es, rfl, d, mu, ll, rl, rt, rW, n1, n2, n4, W⟩ := s.wrD hx q
      have hiv : ∃ w, iv = .im w ∧ toT iv = some (.im w) := by
        unfold keyE at hk
        split at hk
        · exact ⟨_, rfl, rfl⟩
        · exact ⟨_, rfl, rfl⟩
        · cases hk
      obtain ⟨wk, rfl, hwk⟩ := hiv
      obtain ⟨v', r', d1, er, q1, q2, q3, q4⟩ := rt [x, .im wk] (by unfold toTs; rw [hy]; rfl)
      cases q1; subst q2
      have ez : fps er = [] := by
        obtain ⟨_, _, d2, e2, _, e3, e4, e5⟩ := q4
        rw [e3, e4.1, e5.2]; simp [fps, fp_z]
      have n2' : (fp d1).Nodup := by simpa [fps, ez] using n2
      have n4' : ∀ q ∈ fps dk, q ∉ fp d1 := fun q hq => by have := n4 q hq; simpa [fps, ez] using this
      refine ⟨a, kvs.map (·.1), us, ky, rfl, d, mu, si, by simpa using hl, fun ob es' i1 i2 => ?_⟩
      have hn : ((kput ky x kvs).map (·.1)).Nodup := by
        rw [kput_keys ky x kvs us v]
        obtain ⟨_, _, _, _, _, nd⟩ := d
        unfold putKU
        cases hf : (kvs.map (·.1)).findIdx? fun q => decide (q = ky) with
        | some i => exact nd
        | none => exact List.nodup_append.mpr ⟨nd, by simp, fun x hx y hy => by simp at hy; subst hy; exact fun e => find_none hf (e ▸ hx)⟩
      have i2' : EntK G ((kput ky x kvs).map (·.1)) (putKU (kvs.map (·.1)) us ky v).2 es' := by rw [kput_keys ky x kvs us v]; exact i2
      have fin : ∃ dk', RepTL G g.Z H ((kput ky x kvs).map (·.2)) (putKU (kvs.map (·.1)) us ky v).2 dk' ∧ (fps dk').Nodup ∧ ∀ q ∈ fps dk', q ∈ fps dk ∨ q ∈ fp d1 := by
        unfold kput putKU
        rw [kfind_keys]
        cases kfind ky kvs with
        | some j =>
          obtain ⟨f1, f2⟩ := fps_set (d := d1) (ds := dk) (j := j)
          refine ⟨dk.set j d1, ?_, f2 n1 n2' n4', f1⟩
          rw [setV_map]
          exact repTL_set rl q3
        | none =>
          refine ⟨dk ++ [d1], ?_, ?_, ?_⟩
          · rw [List.map_append]
            exact repTL_app rl ⟨v, [], d1, [], rfl, rfl, q3, rfl, rfl⟩
          · rw [fps_app]
            exact List.nodup_append.mpr ⟨n1, by simpa [fps] using n2', fun p hp q hq e => by subst e; exact n4' p hp (by simpa [fps] using hq)⟩
          · intro q hq
            rw [fps_app] at hq
            exact (List.mem_append.mp hq).imp id fun z => by simpa [fps] using z
      obtain ⟨dk', f1, f2, f3⟩ := fin
      obtain ⟨w2, w3⟩ := W ob es' _ dk' (.im .non) .non .z i1 i2' hn f1 rep_non (by rw [fp_z, List.append_nil]; exact f2)
        (fun q hq => by rw [fp_z, List.append_nil] at hq; exact (f3 q hq).imp id fun z => by simpa [fps, ez] using z) (fun z => by cases z)
      exact k g _ w2 w3.n
    · cases q
  · cases q
end
end VL
namespace VL
open PySem L2 PyProof.Rows
section
variable {X : Cx} {G : Gm} {Wx : WX} {g : Gh} {env env' : Env3} {σ : L2.St} {H : Hp}
theorem SimE.dat {ob : EV} {v : V} {kvs : List (Ky × T)} (s : SimE G g env σ H ob v) (hx : VL.rd env ob = some (.md kvs)) : ∃ a us, v = .ref a ∧ DatK G H a (kvs.map (·.1)) us := by
  obtain ⟨d, r⟩ := s.rd hx
  obtain ⟨a, us, ds, e, _, h, _⟩ := repMd r
  exact ⟨a, us, e, h⟩
theorem DatK.inj {a : Addr} {ks : List Ky} {us us' : List V} {ob : Obj} {es : List DictEntry} (h : H a = some (dO a ob)) (i : IsDict a ob es) (e : EntK G ks us es) (n : ks.Nodup) : DatK G H a ks us := ⟨ob, es, h, i, e, n⟩
theorem ix_M (hP : X.prog = G.P) (hW : X.w = G.w) : IxR X (lift2 G ixM) := by
  refine ixR_imp (ix_K hP hW) ?_
  rintro x y H Q ⟨g, env, σ, ob, iv, ev, s, q, k⟩
  unfold ixM at q
  split at q
  · rename_i kvs hx
    obtain ⟨ky, hk, q⟩ := Option.bind_eq_some_iff.mp q
    obtain ⟨c, h3, rfl⟩ := Option.map_eq_some_iff.mp q
    obtain ⟨n, a, ow, us, u, q1, q2, q3, q4, q5⟩ := s.hd.kid hx h3
    obtain ⟨p, ob', es, rfl, _, _, hp, i1, i2, i3⟩ := q2
    have hy : y = keyV ky := keyE_sim hk s.snd
    refine ⟨p, _, us, ky, n, u, rfl, ⟨ob', es, hp, i1, i2, i3⟩, hy, ?_, q3, k g u H (Keep.refl g H) q5⟩
    rw [kfind_keys]; exact q1
  · cases q
def rGetK (G : Gm) : V → List V → Hp → VK → Prop := fun x xs H Q => ∃ a ks us k y, x = .ref a ∧ xs = [keyV k, y] ∧ DatK G H a ks us ∧ Q (((ks.findIdx? fun q => decide (q = k)).bind fun i => us[i]?).getD y) H
theorem mt_getK (hP : X.prog = G.P) (hW : X.w = G.w) : MtR X "dict.get" (rGetK G) := by
  intro pins s σ H x xs v us' Q I rx rxs h
  obtain ⟨a, ks, us, k, y, rfl, rfl, d, q⟩ := h
  obtain rfl : v = Value.ref a := rx
  obtain ⟨u, u2, rfl, ry, ry2⟩ := vals2 rxs
  have dk := d.at I
  obtain ⟨vs, r, dd⟩ := dk.ex
  rw [← hP, ← hW] at dd
  have rk : RelV (kV (kyK k)) u := by rw [← keyV_kV]; exact ry
  refine call_meetsIn PySem.F.slot_dict_get dd.typeIs PySem.F.entry_dict_get (PySem.F.args_dict_get_3 _ _ _) (meets_dict_get_default (mixKind X.prog X.w) a (kV_is rk) dk.low u2) ⟨_, dd.mapOf, ?_⟩
  refine ⟨_, H, I.tok _, ?_, q⟩
  rw [← kvL_val dk.ln]
  exact (r.val (kyK k)).getD ry2
def rLenK (G : Gm) : List V → Hp → VK → Prop := fun xs H Q => ∃ a ks us, xs = [.ref a] ∧ DatK G H a ks us ∧ ks.length ≤ 10000000 ∧ Q (.int ks.length) H
theorem call_lenK (hP : X.prog = G.P) (hW : X.w = G.w) : CallR X (.builtin "len") (rLenK G) := by
  intro pins s σ H xs us' Q I rxs h
  obtain ⟨a, ks, us, rfl, d, hl, q⟩ := h
  obtain ⟨u, rfl, rx⟩ := vals1 rxs
  obtain rfl : u = Value.ref a := rx
  have dk := d.at I
  obtain ⟨vs, r, dd⟩ := dk.ex
  rw [← hP, ← hW] at dd
  have hv : vs.length = ks.length := by rw [← r.length, kvL_len dk.ln]
  refine call_len_dict dk.low dd (by rw [hv]; omega) ?_
  rw [hv]
  exact ⟨.int ks.length, H, I.tok _, ⟨_, rfl⟩, q⟩
end
def isDct : T → Bool
  | .md _ => true
  | .mt _ => true
  | _ => false
section
variable {X : Cx} {G : Gm} {Wx : WX} {g : Gh} {env env' : Env3} {σ : L2.St} {H : Hp}
theorem isTy_dict {Z : Addr → Prop} {x : T} {v : V} {d : D} (h : isDct x = true) (r : RepT G Z H x v d) : isTy X "dict" v H := fun pins s σ u I rv => by
  have key : ∃ p ob es, v = .ref p ∧ H p = some (dO p ob) ∧ IsDict p ob es := by
    cases x with
    | md _ => obtain ⟨p, ob, es, us, ds, e, _, q, ⟨a1, _⟩, _⟩ := r; exact ⟨p, ob, es, e, q, a1⟩
    | mt _ => obtain ⟨p, ob, es, e, _, q, a1, _⟩ := r; exact ⟨p, ob, es, e, q, a1⟩
    | _ => cases h
  obtain ⟨p, ob, es, rfl, q, i⟩ := key
  obtain rfl : u = Value.ref p := rv
  have x0 : ObjOk X.prog X.w H s.heap p (dO p ob) := I.hok p _ q
  have hp : s.heap.get? p = some ob := x0.1
  refine ⟨?_, fun a e => by cases e; exact ⟨ob, hp, i.ex.2.1⟩⟩
  exact ⟨ob, hp, i.ex.1⟩
def rPopM : FM := fun ob evs env => match evs with
  | [ev] => match rd env ob with
    | some (.md kvs) => (keyE ev).bind fun k => (kfind k kvs).bind fun i => (kvs[i]?).bind fun q => (putE false ob (.md (kvs.eraseIdx i)) env).map fun e => (evOf q.2, e)
    | _ => none
  | _ => none
def rGetM : FM := fun ob evs env => match evs with
  | [ev, .im w] => match rd env ob with
    | some (.md kvs) => (keyE ev).bind fun k => match kfind k kvs with
      | some i => (kvs[i]?).bind fun q => some (kidEV ob (.key k) q.2, env)
      | none => some (.im w, env)
    | _ => none
  | _ => none
theorem len2' {α : Type} {xs : List α} (h : 2 = xs.length) : ∃ x y, xs = [x, y] := by
  match xs, h with
  | [x, y], _ => exact ⟨x, y, rfl⟩
theorem mt_getM (hP : X.prog = G.P) (hW : X.w = G.w) : MtR X "dict.get" (liftM G rGetM) := by
  refine mtR_imp (mt_getK hP hW) ?_
  rintro x xs H Q ⟨g, env, σ, ob, evs, ev, env', s, q, k⟩
  unfold rGetM at q
  split at q
  · rename_i e1 w
    split at q
    · rename_i kvs hx
      obtain ⟨ky, hk, q⟩ := Option.bind_eq_some_iff.mp q
      obtain ⟨v1, v2, rfl⟩ := len2' (xs := xs) (by have := s.len; simp only [List.length_cons, List.length_nil] at this; omega)
      have hv : v1 = keyV ky := keyE_sim hk s.tl.hd
      cases hi : kfind ky kvs with
      | some i =>
        rw [hi] at q
        obtain ⟨⟨k0, t0⟩, hq, q⟩ := Option.bind_eq_some_iff.mp q
        cases q
        have hkid : (T.md kvs).kid (.key ky) = some t0 := by
          show ((kvs.findIdx? fun q => decide (q.1 = ky)).bind fun i => (kvs.map (·.2))[i]?) = some t0
          rw [show (kvs.findIdx? fun q => decide (q.1 = ky)) = some i from hi]
          simp [hq]
        obtain ⟨n, a', ow, us', u, q1, q2, q3, q4, q5⟩ := s.hd.kid hx hkid
        have hn : n = i := by
          have e : (T.md kvs).pos (.key ky) = some i := hi
          rw [e] at q1; cases q1; rfl
        subst hn
        obtain ⟨p, ob', es', rfl, _, _, hp, i1, i2, i3⟩ := q2
        refine ⟨p, _, us', ky, v2, rfl, by rw [hv], ⟨ob', es', hp, i1, i2, i3⟩, ?_⟩
        rw [kfind_keys, hi]
        show Q ((us'[n]?).getD v2) H
        rw [q3]
        exact k g _ _ (Keep.refl g H) q5
      | none =>
        rw [hi] at q
        cases q
        obtain ⟨a, us, rfl, d⟩ := s.hd.dat hx
        refine ⟨a, _, us, ky, v2, rfl, by rw [hv], d, ?_⟩
        rw [kfind_keys, hi]
        exact k g _ _ (Keep.refl g H) s.tl.snd
    · cases q
  · cases q
end
end VL
namespace VL
open PySem L2 PyProof.Rows
def fInD : F2 := fun x y => match y with
  | .md kvs => fInM false x (.md kvs)
  | y => fIn x y
def ixD : EV → EV → Env3 → Option EV := fun ob iv env => match rd env ob with
  | some (.md _) => ixM ob iv env
  | _ => ixE ob iv env
def eIxD (fo fi : M3 EV) : M3 EV := fun env => match ePair fo fi env with
  | .ok (x, y) e1 => (match ixD x y e1 with
    | some ev => .ok ev e1
    | none => .stuck)
  | .exc c e1 => .exc c e1
  | .stuck => .stuck
def lenD (x : T) : Option Nat := match x with
  | .md kvs => if kvs.length ≤ 10000000 then some kvs.length else none
  | x => lenT x
def rLenD : FC := fun evs env => match evs with
  | [ev] => (rd env ev).bind fun x => (lenD x).map fun n : Nat => .im (.int (n : Int))
  | _ => none
def setA3 : FS := fun o i y env => match rd env o with
  | some (.md _) => setM o i y env
  | _ => setL3 o i y env
def keyW : Ky → W
  | .i n => .int n
  | .s x => .str x
def rListD : FC := fun evs env => match evs with
  | [ev] => match rd env ev with
    | some (.md kvs) => some (.tmp (.ml ((kvs.map fun q => keyW q.1).map T.im)))
    | _ => rList3 evs env
  | _ => none
def eDict0 : M3 EV := fun env => .ok (.tmp (.md [])) env
section
variable {X : Cx} {G : Gm} {Wx : WX} {g g' : Gh} {env env' : Env3} {σ : L2.St} {H H' : Hp} {p pos pos' apos cpos : Pos} {e o a b i value : Expr} {es : List Expr} {fa fb fe fo fi fv : M3 EV} {t : M3 (List EV)}
theorem md_or (y : T) : (∃ kvs, y = .md kvs) ∨ ∀ kvs, y ≠ .md kvs := by
  cases y with
  | md kvs => exact .inl ⟨kvs, rfl⟩
  | _ => exact .inr fun _ h => nomatch h
theorem ix_D (hK : X.K = G.K) (hP : X.prog = G.P) (hW : X.w = G.w) : IxR X (lift2 G ixD) := by
  refine ixR_imp (ixR_or (ix_M hP hW) (ix_all hK)) ?_
  rintro x y H Q ⟨g, env, σ, ob, iv, ev, s, q, k⟩
  unfold ixD at q
  split at q
  · exact .inl ⟨g, env, σ, ob, iv, ev, s, q, k⟩
  · exact .inr ⟨g, env, σ, ob, iv, ev, s, q, k⟩
theorem se_ixD (hu : X.A.units + 65 < cLine) (ha : SE G X Wx a fa) (hb : SE G X Wx b fb) (hs : PlainIx b := by exact fun _ _ => rfl) (hK : X.K = G.K := by rfl) (hP : X.prog = G.P := by rfl) (hW : X.w = G.w := by rfl) : SE G X Wx (.Subscript a b pos) (eIxD fa fb) := pe_imp (pe_ix (ix_D hK hP hW) ha hb hs) fun σ H Q h => eIx_mid h
theorem call_rLenM (hP : X.prog = G.P) (hW : X.w = G.w) (hK : X.K = G.K) : CallR X (.builtin "len") (liftC G rLenD) := by
  refine callR_imp (callR_or (call_lenK hP hW) (call_rLen hK)) ?_
  rintro xs H Q ⟨g, env, σ, evs, ev, s, q, k⟩
  unfold rLenD at q
  split at q
  · rename_i ev1
    obtain ⟨x, hx, q⟩ := Option.bind_eq_some_iff.mp q
    rcases md_or x with ⟨kvs, rfl⟩ | hn
    · obtain ⟨n, hl, rfl⟩ := Option.map_eq_some_iff.mp q
      unfold lenD at hl
      dsimp only at hl
      split at hl
      · rename_i hz
        cases hl
        obtain ⟨v, d, rfl, r⟩ := s.tree1 hx
        obtain ⟨a, us, ds2, rfl, _, dat, _⟩ := repMd r
        obtain ⟨ds, _, sm, _⟩ := id s
        refine .inl ⟨a, _, us, rfl, dat, by simpa using hz, ?_⟩
        rw [List.length_map]
        exact k g _ H (Keep.refl g H) (sm.im rfl)
      · cases hl
    · refine .inr ⟨g, env, σ, [ev1], ev, s, ?_, k⟩
      have e : lenD x = lenT x := by
        unfold lenD
        cases x with
        | md kvs => exact (hn kvs rfl).elim
        | _ => rfl
      rw [e] at q
      show ((rd env ev1).bind fun x => (lenT x).map fun n : Nat => EV.im (.int (n : Int))) = some ev
      rw [hx]; exact q
  · cases q
theorem se_lenD (hg : Gl X "len") (hm : X.mg "len" = none) (ha : SA G X Wx (e :: es) t) (hK : X.K = G.K := by rfl) (hP : X.prog = G.P := by rfl) (hW : X.w = G.w := by rfl) (he : starEach (e :: es) X.env = (false, eval e X.env) :: starEach es X.env := by rfl) (hpl : (backTo pos (starEach es X.env)).any (·.1) = false := by rfl) :
    SE G X Wx (.Call (.Name "len" p) (e :: es) [] pos) (eCB rLenD t) := se_callB (call_rLenM hP hW hK) hg hm PySem.boot_len ha (by decide) (by decide) he hpl
theorem set_A3 (hP : X.prog = G.P) (hW : X.w = G.w) : PSet X (liftSet G setA3) := by
  refine pset_imp (pset_or (set_M hP hW) (set_L3 (G := G))) ?_
  rintro o i v H Q ⟨g, env, σ, ob, iv, y, env', s, q, k⟩
  unfold setA3 at q
  split at q
  · exact .inl ⟨g, env, σ, ob, iv, y, env', s, q, k⟩
  · exact .inr ⟨g, env, σ, ob, iv, y, env', s, q, k⟩
theorem ss_setix (hu : X.A.units + 65 < cLine) (ho : SE G X Wx o fo) (hi : SE G X Wx i fi) (hv : SE G X Wx value fv) (hs : swapsWithSole [.Subscript o i pos'] value pos.line X.env = pure false := by rfl) (hw : swappedStores [.Subscript o i pos'] value X.env = pure none := by rfl)
    (h1 : (assignEach [.Subscript o i pos'] X.env).map (·.2) = [assign (.Subscript o i pos') X.env] := by rfl)
    (ha : ∀ v, assign (.Subscript o i pos') X.env v = (do
      let bv ← holding [v] (eval o X.env)
      let jv ← holding [v, bv] (eval i X.env)
      standAt pos'
      holding [v, bv, jv] (setItem bv jv v)
      release [v, bv, jv] []) := by intro _; rfl) (hP : X.prog = G.P := by rfl) (hW : X.w = G.w := by rfl) : SS G X Wx (.Assign [.Subscript o i pos'] value pos) (sSetIx setA3 fo fi fv) :=
  ss_setix' (set_A3 hP hW) ho hi hv hs hw h1 ha
abbrev eGetD (fo : M3 EV) (t : M3 (List EV)) : M3 EV := eBM isDct rGetM fo t
theorem se_getD (hu : X.A.units + 65 < cLine) (ho : SE G X Wx o fo) (ha : SA G X Wx (e :: es) t) (hP : X.prog = G.P := by rfl) (hW : X.w = G.w := by rfl) (hb : attributeBase o "get" X.env (eval o X.env) = eval o X.env := by rfl)
    (hf : ((backTo cpos (starEach (e :: es) X.env)).all (fun y => !y.1) && (backToKw cpos (keywordEach [] X.env)).all (fun y => y.1.isSome) && decide ((e :: es).length + ([] : List Keyword).length + (if ([] : List Keyword).isEmpty then 0 else 1) < 30)) = true := by rfl)
    (hl : (apos.endLine == cpos.line) = true := by rfl) (hst : starEach (e :: es) X.env = (false, eval e X.env) :: starEach es X.env := by rfl) (hpl : (backTo cpos (starEach es X.env)).any (·.1) = false := by rfl) :
    SE G X Wx (.Call (.Attribute o "get" apos) (e :: es) [] cpos) (eGetD fo t) := se_bmT (fun g H x v d h r => isTy_dict h r) PySem.F.plainAttrs_dict PySem.F.slot_dict_get PySem.F.type_dict_get (mt_getM hP hW) ho ha hb hf hl hst hpl
def newDict0 : Obj := { cls := .type "dict", data := .dict #[] }
def tDNew0 : TE := fun _ H Q => ∀ p, H p = none → (p == sysModules) = false → Q (.ref p) (L2.upd H p (dO p newDict0))
theorem pe_dnew0 : PE X (.Dict [] [] pos) tDNew0 := ⟨fun pins s σ H Q I h =>
  wpAny_Dict_empty ⟨.ref s.heap.objs.size, _, I.laid (a := s.heap.objs.size) (o := dO s.heap.objs.size newDict0) (t' := s.toks) (fun _ _ q => Heap.get?_push_of_some _ q) (Nat.le_refl _)
    ⟨Heap.get?_push_size _ rfl, ⟨_, Heap.get?_push_size _ rfl⟩, fun _ _ p e => e _ p⟩, rfl, h _ (I.hok.fresh (Nat.le_refl _)) (beq_eq_false_iff_ne.mpr (Ne.symm (Nat.ne_of_lt I.big)))⟩⟩
theorem isDict0 {p : Addr} (h : (p == sysModules) = false) : IsDict p newDict0 [] := ⟨h, ⟨rfl, rfl, rfl⟩, ⟨0, rfl⟩, Nat.zero_le _⟩
theorem se_dict0 : SE G X Wx (.Dict [] [] pos) eDict0 := by
  refine pe_imp pe_dnew0 ?_
  rintro σ H Q ⟨g, env, ds, s, h⟩
  intro p hp hs
  have kn := Keep.new (o := dO p newDict0) hp s
  have f := s.free hp
  refine h g _ _ kn ⟨ds, .nd (some p) true [], s.new hp, ⟨p, newDict0, [], [], [], rfl, rfl, upd_same, ⟨isDict0 hs, ⟨rfl, rfl⟩, List.nodup_nil⟩, rfl, rfl⟩, rfl, ?_, fun q hq => ?_⟩
  · simp [fp, fps]
  · have : q = p := by simpa [fp, fps] using hq
    subst this
    exact f
theorem keyW_rep {Z : Addr → Prop} (k : Ky) : Rep G Z H (keyW k) (keyV k) := by cases k <;> rfl
theorem keysW_rep {Z : Addr → Prop} : ∀ ks : List Ky, RepL G Z H (ks.map keyW) (ks.map keyV)
  | [] => rfl
  | k :: ks => ⟨keyV k, ks.map keyV, rfl, keyW_rep k, keysW_rep ks⟩
def rListK (G : Gm) : List V → Hp → VK → Prop := fun xs H Q => ∃ a ks us, xs = [.ref a] ∧ DatK G H a ks us ∧ ∀ l, H l = none → Q (.ref l) (L2.upd H l (.lst (ks.map keyV)))
theorem vals_ofAt : ∀ {xs : List V} {us : List Value}, xs.length = us.length → (∀ (j : Nat) (x : V) (u : Value), xs[j]? = some x → us[j]? = some u → RelV x u) → Vals xs us
  | [], [], _, _ => .nil
  | [], _ :: _, h, _ => nomatch h
  | _ :: _, [], h, _ => nomatch h
  | x :: xs, u :: us, h, f => .cons (f 0 x u rfl rfl) (vals_ofAt (Nat.succ.inj h) fun j y w h1 h2 => f (j + 1) y w h1 h2)
theorem call_listK (hc : X.calm = true) (hP : X.prog = G.P) (hW : X.w = G.w) : CallR X (.type "list") (rListK G) := by
  intro pins s σ H xs us' Q I rxs h
  obtain ⟨a, ks, us, rfl, d, q⟩ := h
  obtain ⟨u, rfl, rx⟩ := vals1 rxs
  obtain rfl : u = Value.ref a := rx
  have dk := d.at I
  obtain ⟨vs, r, dd⟩ := dk.ex
  rw [← hP, ← hW] at dd
  have hv : vs.length = ks.length := by rw [← r.length, kvL_len dk.ln]
  obtain ⟨ep, hat⟩ := dd.dictAt
  refine PySem.W.kdl_call (PySem.W.kdl_dict (knd := mixKind X.prog X.w) (kvs := vs) (ep := ep) dk.low) (I.ok.hd hc) hat (by rw [hv]; exact dk.le) fun h' tk acc' c' hkeep hS hacc => ?_
  refine ⟨.ref s.heap.objs.size, L2.upd H s.heap.objs.size (.lst (ks.map keyV)), I.laid hkeep (Nat.le_refl _) (show ObjOk X.prog X.w _ _ _ (.lst (ks.map keyV)) from ⟨?_, acc'.toList, c', ?_, ?_⟩), rfl, q _ (I.hok.fresh (Nat.le_refl _))⟩
  · rw [List.length_map]; exact dk.le
  · have el : acc'.toList.length = acc'.size := by simp
    refine vals_ofAt (by rw [List.length_map, el, hacc.1, hv]) fun j x w h1 h2 => ?_
    obtain ⟨k, y, hky, hi⟩ := hacc.2 j w (by rw [← Array.getElem?_toList]; exact h2)
    have e1 : (ks.map kyK)[j]? = some k := by
      rw [← kvL_keys dk.ln, KV.keys r, List.getElem?_map, hky] <;> rfl
    have e2 : (ks.map keyV)[j]? = some (kV k) := by
      have e3 : ks.map keyV = (ks.map kyK).map kV := by
        rw [List.map_map]
        exact List.map_congr_left fun q _ => keyV_kV q
      rw [e3, List.getElem?_map, e1] <;> rfl
    rw [e2] at h1
    cases h1
    exact relV_key (show keyIs k w = true from hi)
  · rw [Array.toArray_toList]; exact hS
theorem call_rListD (hc : X.calm = true) (hK : X.K = G.K) (hP : X.prog = G.P) (hW : X.w = G.w) : CallR X (.type "list") (liftC G rListD) := by
  refine callR_imp (callR_or (call_listK hc hP hW) (call_rList hK)) ?_
  rintro xs H Q ⟨g, env, σ, evs, ev, s, q, k⟩
  unfold rListD at q
  split at q
  · rename_i ev1
    split at q
    · rename_i kvs hx
      cases q
      obtain ⟨v, d, rfl, r⟩ := s.tree1 hx
      obtain ⟨a, us, ds2, rfl, _, dat, _⟩ := repMd r
      obtain ⟨ds, _, sm, _⟩ := id s
      refine .inl ⟨a, _, us, rfl, dat, fun l hl => ?_⟩
      have e : (kvs.map fun q => keyW q.1) = (kvs.map (·.1)).map keyW := by rw [List.map_map]; rfl
      obtain ⟨kn, sn⟩ := sm.newL hl (keysW_rep (G := G) (H := H) (Z := g.Z) (kvs.map (·.1)))
      rw [e] at k
      exact k g _ _ kn sn
    · exact .inr ⟨g, env, σ, [ev1], ev, s, q, k⟩
  · cases q
theorem se_listD (hg : Gl X "list") (hm : X.mg "list" = none) (ha : SA G X Wx (e :: es) t) (hc : X.calm = true := by rfl) (hK : X.K = G.K := by rfl) (hP : X.prog = G.P := by rfl) (hW : X.w = G.w := by rfl) (he : starEach (e :: es) X.env = (false, eval e X.env) :: starEach es X.env := by rfl) (hpl : (backTo pos (starEach es X.env)).any (·.1) = false := by rfl) :
    SE G X Wx (.Call (.Name "list" p) (e :: es) [] pos) (eCB rListD t) := se_callTy (call_rListD hc hK hP hW) hg hm (by decide +kernel) ha (by decide) (by decide) he hpl
end
end VL
namespace VL
open PySem L2 PyProof.Rows
section
variable {X : Cx} {G : Gm} {Wx : WX} {g g' : Gh} {env env' : Env3} {σ : L2.St} {H H' : Hp} {p pos pos' apos cpos : Pos} {e o a b i value : Expr} {es : List Expr} {fa fb fe fo fi fv : M3 EV} {t : M3 (List EV)} {Z : Addr → Prop}
end
end VL
namespace VL
open PySem PySem.Spec L2 PyProof.Rows
def cpsS (s : String) : List Nat := s.toList.map Char.toNat
section
variable {X : Cx} {G : Gm} {Wx : WX} {g g' : Gh} {env env' : Env3} {σ : L2.St} {H H' : Hp} {p pos pos' apos cpos : Pos} {e o a b i value : Expr} {es : List Expr} {t : M3 (List EV)} {Z : Addr → Prop}
end
end VL
namespace VL
open PySem L2 PyProof.Rows
section
variable {X : Cx} {G : Gm} {Wx : WX} {g g' : Gh} {env env' : Env3} {σ : L2.St} {H H' : Hp} {Z : Addr → Prop}
mutual
theorem nestedIs_of {pins : List (Addr × Obj)} {s : Shared} (I : Inv X pins σ H s) (hK : X.K = G.K) : ∀ {w : W} {v : V} {u : Value}, w.kp = true → Rep G Z H w v → RelV v u → NestedIs s.heap (W.nk w) u
  | .non, v, u, _, r, q => by cases r; obtain rfl : u = Value.none := q; exact .none
  | .bl b, v, u, _, r, q => by cases r; obtain rfl : u = Value.bool b := q; exact .bool rfl
  | .int i, v, u, _, r, q => by cases r; obtain ⟨t, rfl⟩ : ∃ t, u = Value.int i t := q; exact .int i t
  | .str x, v, u, _, r, q => by cases r; obtain ⟨t, rfl⟩ : ∃ t, u = Value.str (Str.ofString x) t := q; exact .text _ t
  | .tup xs, v, u, h, r, q => by
    obtain ⟨p, vs, rfl, hp, rl⟩ := r
    obtain rfl : u = Value.ref p := q
    have x := I.hok p _ hp
    obtain ⟨_, its, hv, o, ho, hc, n, hd⟩ := x
    exact .tup ho hc hd (nestedAll_of I hK h rl (by simpa using hv))
  | .lst _, _, _, h, _, _ => by cases h
  | .scr _, _, _, h, _, _ => by cases h
  | .ktp _, _, _, h, _, _ => by cases h
  | .ins _ _, _, _, h, _, _ => by cases h
theorem nestedAll_of {pins : List (Addr × Obj)} {s : Shared} (I : Inv X pins σ H s) (hK : X.K = G.K) : ∀ {ws : List W} {vs : List V} {us : List Value}, W.kps ws = true → RepL G Z H ws vs → Vals vs us → NestedAll s.heap (W.nks ws) us
  | [], vs, us, _, r, q => by cases r; cases q; exact .nil
  | w :: ws, vs, us, h, r, q => by
    obtain ⟨v, r', rfl, ra, rb⟩ := r
    cases q with
    | cons q1 q2 =>
      have h2 : (w.kp && W.kps ws) = true := h
      simp only [Bool.and_eq_true] at h2
      exact .cons (nestedIs_of I hK h2.1 ra q1) (nestedAll_of I hK h2.2 rb q2)
end
theorem hkW_is {pins : List (Addr × Obj)} {s : Shared} (I : Inv X pins σ H s) (hK : X.K = G.K) {k : W} {b : Addr} (h : hkW k = true) (r : Rep G Z H k (.ref b)) : (nestedKind X.prog X.w).is s.heap (W.nk k) b := by
  cases k with
  | tup xs =>
    have h2 : (W.kps xs && decide ((W.nk (.tup xs)).depth ≤ 8)) = true := h
    simp only [Bool.and_eq_true, decide_eq_true_eq] at h2
    exact ⟨nestedIs_of I hK h2.1 r rfl, h2.2⟩
  | _ => cases h
def XsT (G : Gm) (Z : Addr → Prop) (H : Hp) : List (W × W) → List (NestedKey × Addr × Value) → Prop
  | [], ys => ys = []
  | (k, x) :: r, ys => ∃ b val u yr, ys = (W.nk k, b, val) :: yr ∧ Rep G Z H k (.ref b) ∧ hkW k = true ∧ RelV u val ∧ Rep G Z H x u ∧ XsT G Z H r yr
theorem entT_xs {P : Program} {w : World} (hP : P = G.P) (hW : w = G.w) : ∀ {kvs : List (W × W)} {es : List DictEntry}, EntT G Z H kvs es → ∃ ys, XsT G Z H kvs ys ∧ es = ys.map (entryOfKey (nestedKind P w))
  | [], es, h => ⟨[], rfl, h⟩
  | (k, x) :: r, es, ⟨b, u, e, er, h1, h2, h3, h4, h5, h6, h7, h8⟩ => by
    obtain ⟨ys, q1, q2⟩ := entT_xs hP hW h8
    refine ⟨(W.nk k, b, e.val) :: ys, ⟨b, e.val, u, ys, rfl, h3, h4, h6, h7, q1⟩, ?_⟩
    rw [h1, q2, List.map_cons]
    congr 1
    obtain ⟨eh, ek, ev⟩ := e
    subst hP hW
    simp only at h2 h5
    subst h2 h5
    rfl
theorem xs_entT {P : Program} {w : World} (hP : P = G.P) (hW : w = G.w) : ∀ {kvs : List (W × W)} {ys : List (NestedKey × Addr × Value)}, XsT G Z H kvs ys → EntT G Z H kvs (ys.map (entryOfKey (nestedKind P w)))
  | [], ys, h => by cases h; rfl
  | (k, x) :: r, ys, ⟨b, val, u, yr, h1, h2, h3, h4, h5, h6⟩ => by
    subst h1 hP hW
    exact ⟨b, u, _, _, rfl, rfl, h2, h3, rfl, h4, h5, xs_entT rfl rfl h6⟩
theorem XsT.keys : ∀ {kvs : List (W × W)} {ys : List (NestedKey × Addr × Value)}, XsT G Z H kvs ys → ys.map (·.1) = kvs.map fun q => W.nk q.1
  | [], ys, h => by cases h; rfl
  | (k, x) :: r, ys, ⟨b, val, u, yr, h1, h2, h3, h4, h5, h6⟩ => by subst h1; simp [XsT.keys h6]
theorem XsT.len {kvs : List (W × W)} {ys : List (NestedKey × Addr × Value)} (h : XsT G Z H kvs ys) : ys.length = kvs.length := by
  have := congrArg List.length h.keys; simpa using this
theorem XsT.is {pins : List (Addr × Obj)} {s : Shared} (I : Inv X pins σ H s) (hK : X.K = G.K) : ∀ {kvs : List (W × W)} {ys : List (NestedKey × Addr × Value)}, XsT G Z H kvs ys → ∀ y ∈ ys, (nestedKind X.prog X.w).is s.heap y.1 y.2.1
  | [], ys, h, y, hy => by cases h; cases hy
  | (k, x) :: r, ys, ⟨b, val, u, yr, h1, h2, h3, h4, h5, h6⟩, y, hy => by
    subst h1
    rcases List.mem_cons.mp hy with rfl | hy
    · exact hkW_is I hK h3 h2
    · exact XsT.is I hK h6 y hy
def tfind (k : W) (kvs : List (W × W)) : Option Nat := kvs.findIdx? fun q => decide (W.nk q.1 = W.nk k)
def tput (k x : W) (kvs : List (W × W)) : List (W × W) := match tfind k kvs with
  | some i => setV i x kvs
  | none => kvs ++ [(k, x)]
theorem tfind_cons (k : W) (q : W × W) (r : List (W × W)) : tfind k (q :: r) = if W.nk q.1 = W.nk k then some 0 else (tfind k r).map (· + 1) := by
  unfold tfind
  rw [List.findIdx?_cons]
  by_cases h : W.nk q.1 = W.nk k <;> simp [h]
theorem XsT.at {k : W} : ∀ {kvs : List (W × W)} {ys : List (NestedKey × Addr × Value)}, XsT G Z H kvs ys → match tfind k kvs with
    | some i => ∃ q b val u, kvs[i]? = some q ∧ atKey ys (W.nk k) = some (b, val) ∧ RelV u val ∧ Rep G Z H q.2 u
    | none => atKey ys (W.nk k) = none
  | [], ys, h => by cases h; rfl
  | (k0, x0) :: r, ys, ⟨b, val, u, yr, h1, h2, h3, h4, h5, h6⟩ => by
    subst h1
    rw [tfind_cons]
    by_cases e : W.nk k0 = W.nk k
    · rw [if_pos e]
      exact ⟨(k0, x0), b, val, u, rfl, by simp [atKey, e], h4, h5⟩
    · rw [if_neg e]
      have ih := XsT.at (k := k) h6
      have ea : atKey ((W.nk k0, b, val) :: yr) (W.nk k) = atKey yr (W.nk k) := by simp [atKey, e]
      rw [ea]
      cases hf : tfind k r with
      | none => rw [hf] at ih; exact ih
      | some i => rw [hf] at ih; obtain ⟨q, b', v', u', i1, i2, i3, i4⟩ := ih; exact ⟨q, b', v', u', i1, i2, i3, i4⟩
theorem putAt_ne {k : NestedKey} {v : Value} : ∀ {ys : List (NestedKey × Addr × Value)}, k ∉ ys.map (·.1) → ys.map (putAt k v) = ys
  | [], _ => rfl
  | y :: r, h => by
    simp only [List.map_cons, List.mem_cons, not_or] at h
    rw [List.map_cons, putAt_ne h.2]
    unfold putAt
    rw [if_neg fun e => h.1 e.symm]
theorem XsT.set {k x : W} {u : V} {val : Value} (hu : RelV u val) (hx : Rep G Z H x u) : ∀ {kvs : List (W × W)} {ys : List (NestedKey × Addr × Value)} {i : Nat}, (kvs.map fun q => W.nk q.1).Nodup → XsT G Z H kvs ys → tfind k kvs = some i → XsT G Z H (setV i x kvs) (ys.map (putAt (W.nk k) val))
  | [], ys, i, _, h, hi => by simp [tfind] at hi
  | (k0, x0) :: r, ys, i, hn, ⟨b, val0, u0, yr, h1, h2, h3, h4, h5, h6⟩, hi => by
    subst h1
    have hn2 := List.nodup_cons.mp hn
    rw [tfind_cons] at hi
    by_cases e : W.nk k0 = W.nk k
    · rw [if_pos e] at hi; cases hi
      have : W.nk k ∉ yr.map (·.1) := by rw [h6.keys, ← e]; exact hn2.1
      rw [List.map_cons, putAt_ne this]
      refine ⟨b, val, u, yr, ?_, h2, h3, hu, hx, h6⟩
      unfold putAt; rw [if_pos e]
    · rw [if_neg e] at hi
      obtain ⟨j, hj, rfl⟩ := Option.map_eq_some_iff.mp hi
      refine ⟨b, val0, u0, yr.map (putAt (W.nk k) val), ?_, h2, h3, h4, h5, XsT.set hu hx hn2.2 h6 hj⟩
      rw [List.map_cons]; unfold putAt; rw [if_neg e]
end
end VL
namespace VL
open PySem L2 PyProof.Rows
section
variable {X : Cx} {G : Gm} {Wx : WX} {g g' : Gh} {env env' : Env3} {σ : L2.St} {H H' : Hp}
def DatT (G : Gm) (Z : Addr → Prop) (H : Hp) (a : Addr) (kvs : List (W × W)) : Prop := ∃ ob es, H a = some (dO a ob) ∧ IsDict a ob es ∧ EntT G Z H kvs es ∧ (kvs.map fun q => W.nk q.1).Nodup
structure DictT (X : Cx) (G : Gm) (Z : Addr → Prop) (H : Hp) (h : Heap) (a : Addr) (kvs : List (W × W)) (ys : List (NestedKey × Addr × Value)) : Prop where
  of : h.DictOfH (nestedKind X.prog X.w) a ys
  xs : XsT G Z H kvs ys
  nd : (kvs.map fun q => W.nk q.1).Nodup
  low : (a == sysModules) = false
  le : kvs.length ≤ sizeLine
theorem DatT.at {Z : Addr → Prop} {pins : List (Addr × Obj)} {s : Shared} {a : Addr} {kvs : List (W × W)} (I : Inv X pins σ H s) (hK : X.K = G.K) (hP : X.prog = G.P) (hW : X.w = G.w) (d : DatT G Z H a kvs) : ∃ ys, DictT X G Z H s.heap a kvs ys := by
  obtain ⟨ob, es, h1, h2, h3, h4⟩ := d
  have x : ObjOk X.prog X.w H s.heap a (dO a ob) := I.hok a _ h1
  obtain ⟨ys, q1, q2⟩ := entT_xs hP hW h3
  obtain ⟨ep, hd⟩ := h2.da
  refine ⟨ys, ⟨ob, es.toArray, ep, x.1, h2.ex, hd, by simpa using q2, q1.is I hK, by rw [q1.keys]; exact h4⟩, q1, h4, h2.low, ?_⟩
  have := h2.le
  rw [q2, List.length_map, q1.len] at this
  exact this
end
end VL
namespace PySem
open PyProof.Rows
end PySem
namespace VL
open PySem L2 PyProof.Rows
section
variable {X : Cx} {G : Gm} {Wx : WX} {g g' : Gh} {env env' : Env3} {σ : L2.St} {H H' : Hp} {p pos pos' apos cpos : Pos} {e o a b i value : Expr} {es : List Expr} {fa fb fe fo fi fv : M3 EV} {t : M3 (List EV)}
end
end VL
namespace VL
open PySem L2 PyProof.Rows
section
variable {P : Program} {w : World} {K : PySem.W.Frag} {X : Cx} {G : Gm} {Wx : WX} {g g' : Gh} {env env' : Env3} {σ : L2.St} {H H' : Hp} {d : Addr} {ob : Obj} {es : List DictEntry} {ks : List Ky} {us : List V}
structure ObK (G : Gm) (d : Addr) (ob : Obj) (ks : List Ky) (us : List V) : Prop where
  ex : ∃ es, IsDict d ob es ∧ EntK G ks us es
  nd : ks.Nodup
theorem ObK.at {pins : List (Addr × Obj)} {s : Shared} (o : ObK G d ob ks us) (hP : X.prog = G.P) (hW : X.w = G.w) (I : Inv X pins σ H s) (h : H d = some (dO d ob)) :
    (d == sysModules) = false ∧ s.heap.get? d = some ob ∧ ob.ExactDict ∧ us.length = ks.length ∧ ∃ (es : Array DictEntry) (ep : Nat) (vs : List (L2.Key × Value)), ob.data = .dict es ep ∧ es.size = ks.length ∧ KV (kvL ks us) vs ∧ s.heap.DictAt (mixKind X.prog X.w) d vs ep := by
  obtain ⟨es, i, e⟩ := o.ex
  have x : ObjOk X.prog X.w H s.heap d (dO d ob) := I.hok d _ h
  have hp : s.heap.get? d = some ob := x.1
  obtain ⟨vs, h1, h2, h3, h4⟩ := entK_pairs e
  obtain ⟨ep, hd⟩ := i.da
  refine ⟨i.low, hp, i.ex, e.len.1, es.toArray, ep, vs, hd, by simp [e.len.2], h1, ob, es.toArray, hp, i.ex, hd, ?_, ?_, ?_⟩
  · rw [hP, hW]; exact fun x hx => h4 x (by simpa using hx)
  · rw [hP, hW]; simpa using h2
  · rw [h3]; exact o.nd.map (f := kyK) fun a b hab hk => hab (kyK_inj hk)
theorem kvL_get : ∀ {ks : List Ky} {us : List V} {i : Nat} {k : Ky} {u : V}, us.length = ks.length → ks[i]? = some k → us[i]? = some u → (kvL ks us)[i]? = some (kyK k, u)
  | [], _, i, k, u, _, h, _ => by simp at h
  | q :: ks, [], i, k, u, hl, _, _ => by simp at hl
  | q :: ks, z :: us, 0, k, u, _, h, h2 => by simp at h h2; subst h h2; rfl
  | q :: ks, z :: us, i + 1, k, u, hl, h, h2 => by
    show (kvL ks us)[i]? = _
    exact kvL_get (by simpa using hl) (by simpa using h) (by simpa using h2)
variable {tg : Expr}
variable {e : Expr} {td : TE} {apos cpos : Pos}
def kxPairs : List (Ky × T) → Option (List (Ky × W))
  | [] => some []
  | (k, .im w) :: r => (kxPairs r).map ((k, w) :: ·)
  | _ :: _ => none
def pairW (q : Ky × W) : W := .tup [keyW q.1, q.2]
theorem kxPairs_rep {Z : Addr → Prop} : ∀ {kvs : List (Ky × T)} {ps : List (Ky × W)} {us : List V} {ds : List D}, kxPairs kvs = some ps → RepTL G Z H (kvs.map (·.2)) us ds → ps.map (·.1) = kvs.map (·.1) ∧ RepL G Z H (ps.map (·.2)) us
  | [], ps, us, ds, h, r => by cases h; exact ⟨rfl, r.1⟩
  | (k, .im w) :: kvs, ps, us, ds, h, r => by
    obtain ⟨qs, h1, rfl⟩ := Option.map_eq_some_iff.mp (show (kxPairs kvs).map ((k, w) :: ·) = some ps from h)
    obtain ⟨v, vr, d0, dr, e1, e2, a, b⟩ := r
    obtain ⟨i1, i2⟩ := kxPairs_rep h1 b
    exact ⟨by simp [i1], v, vr, e1, a.2, i2⟩
  | (k, .ml _) :: _, ps, us, ds, h, _ => by cases h
  | (k, .md _) :: _, ps, us, ds, h, _ => by cases h
  | (k, .mt _) :: _, ps, us, ds, h, _ => by cases h
  | (k, .mi _ _) :: _, ps, us, ds, h, _ => by cases h
  | (k, .tp _) :: _, ps, us, ds, h, _ => by cases h
end
end VL
namespace VL
open PySem L2 PyProof.Rows
section
variable {prog : Program} {w : World} {A : Around} {E : Value → Shared → Prop} {s : Shared} {r : Addr} {a c : Int} {n : Nat}
end
section
variable {X : Cx} {G : Gm} {Wx : WX} {g g' : Gh} {env env' : Env3} {σ : L2.St} {H H' : Hp} {ds : Nat → D} {p p2 p3 pos pos2 pos3 : Pos} {e : Expr} {fe : M3 EV} {te : L2.St → Hp → (Int → Int → Hp → Prop) → Prop}
end
end VL
namespace VL
open PySem L2 PyProof.Rows
section
variable {X : Cx} {G : Gm} {Wx : WX} {g g' : Gh} {env env' : Env3} {σ : L2.St} {H H' : Hp} {ds : Nat → D} {p pos : Pos} {ek ev : Expr} {fk fv : M3 EV}
theorem Keep.wr (s : Sim G g env σ H ds) {a : Addr} {ob ob' : Obj} (hp : H a = some (dO a ob)) (nz : ¬ g.Z a) (np : ¬ g.P a) (nf : ∀ i, a ∉ fp (ds i)) : Keep g H g (L2.upd H a (dO a ob')) := by
  have ne : ∀ q, q ≠ a → L2.upd H a (dO a ob') q = H q := fun q h => upd_ne h
  refine ⟨fun q z => ⟨z, ne q fun e => nz (e ▸ z)⟩, fun q z => ⟨z, ne q fun e => np (e ▸ z)⟩, fun q z => z, fun b xs h => ?_, FK.mut hp trivial, rfl, rfl, rfl, fun i q hq => ne q.2 fun e => ?_⟩
  · rw [ne b fun e => ?_]; exact h
    subst e; rw [hp] at h; unfold dO at h; cases h
  · by_cases ho : ∃ p L t, env[i]? = some (some (SV.own p L t))
    · obtain ⟨p, L, t, ho⟩ := ho
      obtain ⟨v, _, r, _, _, _, r6⟩ := s.own i p L t ho
      rcases r.adr_in (r6 q hq) with z | ⟨vs, z⟩
      · exact nf i (e ▸ z)
      · rw [e, hp] at z; unfold dO at z; cases z
    · have := (s.non i fun p L t z => ho ⟨p, L, t, z⟩).2
      rw [this] at hq; cases hq
theorem Sim.wr (s : Sim G g env σ H ds) {a : Addr} {ob ob' : Obj} (hp : H a = some (dO a ob)) (nz : ¬ g.Z a) (np : ¬ g.P a) (nf : ∀ i, a ∉ fp (ds i)) : Sim G g env σ (L2.upd H a (dO a ob')) ds := by
  refine s.grow (Keep.wr s hp nz np nf) (fun i q hq => ⟨upd_ne fun e => nf i (e ▸ hq), (s.no i q hq).1⟩) (fun q z => ⟨(s.zt q z).1, upd_st (s.zt q z).2 fun e => nz (e ▸ z)⟩) (fun q z => upd_st (s.pt.1 q z) fun e => np (e ▸ z))
end
end VL
namespace VL
open PySem L2 PyProof.Rows
section
variable {X : Cx} {G : Gm} {Wx : WX} {g g' : Gh} {env env' : Env3} {σ : L2.St} {H H' : Hp} {ds : Nat → D} {p p2 pos pos2 apos cpos : Pos} {e : Expr} {fe : M3 EV} {td : TE}
def updL (H : Hp) : List (Addr × HO) → Hp
  | [] => H
  | n :: r => L2.upd (updL H r) n.1 n.2
theorem updL_none {a : Addr} : ∀ {ns : List (Addr × HO)}, H a = none → a ∉ ns.map (·.1) → updL H ns a = none
  | [], h, _ => h
  | n :: r, h, hn => by
    have h1 : a ≠ n.1 := fun e => hn (by simp [e])
    show L2.upd (updL H r) n.1 n.2 a = none
    rw [upd_ne h1]
    exact updL_none h fun z => hn (by simp at z ⊢; exact .inr z)
theorem Inv.laidL {pins : List (Addr × Obj)} {s : Shared} {t' : Nat} (I : Inv X pins σ H s) : ∀ (ns : List (Addr × HO)) (h' : Heap), (∀ b u, s.heap.get? b = some u → h'.get? b = some u) → (ns.map (·.1)).Nodup → (∀ n ∈ ns, s.heap.get? n.1 = none ∧ H n.1 = none) → (∀ n ∈ ns, ∀ (H' : Hp) (K : Heap), K.get? n.1 = h'.get? n.1 → ObjOk X.prog X.w H' K n.1 n.2) → Inv X pins σ (updL H ns) { s with heap := h', toks := t' }
  | [], h', k, _, _, _ => I.kept k
  | n :: r, h', k, nd, hf, hk => by
    obtain ⟨K, g1, g2⟩ := restrict h' fun b => decide (b ≠ n.1)
    have ga : K.get? n.1 = none := g2 n.1 (by simp)
    have gb : ∀ b, b ≠ n.1 → K.get? b = h'.get? b := fun b hb => g1 b (by simp [hb])
    rw [List.map_cons, List.nodup_cons] at nd
    have I1 := Inv.laidL (t' := t') I r K (fun b u hb => by
      have hbn : b ≠ n.1 := fun e => by rw [e, (hf n List.mem_cons_self).1] at hb; cases hb
      rw [gb b hbn]; exact k b u hb) nd.2 (fun m hm => hf m (List.mem_cons_of_mem _ hm)) (fun m hm H' K' hK => hk m (List.mem_cons_of_mem _ hm) H' K' (by
        have : m.1 ≠ n.1 := fun e => nd.1 (by rw [← e]; exact List.mem_map_of_mem hm)
        rw [hK, gb _ this]))
    have I2 := Inv.laidN (h' := h') (a := n.1) (o := n.2) (t' := t') I1 (fun b u hb => by
      have hbn : b ≠ n.1 := fun e => by
        have hb : K.get? b = some u := hb
        rw [e, ga] at hb; cases hb
      rw [← gb b hbn]; exact hb) ga (updL_none (hf n List.mem_cons_self).2 nd.1) (hk n List.mem_cons_self _ h' rfl)
    exact I2
def tupsO (ks : List Ky) (us : List V) : List HO := List.zipWith (fun k u => HO.tup [keyV k, u]) ks us
theorem zip_fst {α β : Type} : ∀ {xs : List α} {ys : List β}, xs.length = ys.length → (List.zip xs ys).map (·.1) = xs
  | [], [], _ => rfl
  | x :: xs, y :: ys, h => by simp at h ⊢; exact zip_fst h
  | [], _ :: _, h => by simp at h
  | _ :: _, [], h => by simp at h
theorem tupsO_len {ks : List Ky} {us : List V} (h : us.length = ks.length) : (tupsO ks us).length = ks.length := by simp [tupsO, h]
theorem simL : ∀ {as : List Addr} {ps : List (Ky × W)} {us : List V}, SimN G g env σ H → as.Nodup → (∀ a ∈ as, H a = none) → as.length = ps.length → RepL G g.Z H (ps.map (·.2)) us → SimN G g env σ (updL H (List.zip as (tupsO (ps.map (·.1)) us))) ∧ Keep g H g (updL H (List.zip as (tupsO (ps.map (·.1)) us))) ∧ RepL G g.Z (updL H (List.zip as (tupsO (ps.map (·.1)) us))) (ps.map pairW) (as.map V.ref)
  | [], [], us, s, _, _, _, r => ⟨s, Keep.refl g H, rfl⟩
  | a :: as, [], us, _, _, _, h, _ => by simp at h
  | [], _ :: _, us, _, _, _, h, _ => by simp at h
  | a :: as, (k, w) :: ps, us, s, nd, hn, hl, r => by
    obtain ⟨v, vr, rfl, r1, r2⟩ := r
    rw [List.nodup_cons] at nd
    obtain ⟨s2, k2, q2⟩ := simL (as := as) (ps := ps) s nd.2 (fun b hb => hn b (List.mem_cons_of_mem _ hb)) (by simpa using hl) r2
    have hlen : as.length = (tupsO (ps.map (·.1)) vr).length := by
      rw [tupsO_len]
      · simpa using hl
      · have := r2.length; simpa using this
    have ha : updL H (List.zip as (tupsO (ps.map (·.1)) vr)) a = none := updL_none (hn a List.mem_cons_self) (by rw [zip_fst hlen]; exact nd.1)
    have rk : Rep G g.Z (updL H (List.zip as (tupsO (ps.map (·.1)) vr))) (keyW k) (keyV k) := keyW_rep k
    obtain ⟨k3, s3, s4⟩ := pair_sim s2 ha rk (r1.keep k2.kz)
    exact ⟨s4, k2.trans k3, .ref a, as.map V.ref, rfl, s3.imR, q2.keep k3.kz⟩
def itemsT (o : EV) (env : Env3) : Option (List W) := match rd env o with
  | some (.md kvs) => (kxPairs kvs).map fun ps => ps.map pairW
  | _ => none
end
end VL
namespace VL
open PySem L2 PyProof.Rows
section
variable {X : Cx} {G : Gm} {Wx : WX} {g g' : Gh} {env env' : Env3} {σ : L2.St} {H H' : Hp} {ds : Nat → D} {p pos : Pos} {e : Expr} {es : List Expr} {t : M3 (List EV)}
end
end VL
namespace VL
open PySem L2 PyProof.Rows
section
variable {X : Cx} {G : Gm} {Wx : WX} {g g' : Gh} {env env' : Env3} {σ : L2.St} {H H' : Hp} {apos cpos pos : Pos} {e o : Expr} {fe fo : M3 EV} {Z : Addr → Prop}
end
end VL
namespace L2
open PySem VL
end L2
namespace VL
open PySem L2
section
variable {X : Cx} {G : Gm} {Wx : WX} {p pos : Pos} {e : Expr} {es : List Expr} {t : M3 (List EV)}
end
end VL
namespace VL
open PySem L2 PyProof.Rows PySem.W
section
variable {prog : Program} {w : World} {A : Around} {E : Value → Shared → Prop} {s : Shared}
variable {X : Cx} {pins : List (Addr × Obj)} {σ : List (Option V)} {H : Hp}
end
end VL
namespace VL
open PySem L2 PyProof.Rows PySem.W
section
variable {X : Cx} {pins : List (Addr × Obj)} {σ : List (Option V)} {H : Hp} {s : Shared}
end
end VL
namespace VL
open PySem L2 PyProof.Rows PySem.W
def keyOf (f : Fn) (w : W) : Option W := match f [.im w] with
  | .ok (.im k) _ => some k
  | _ => none
def kyW (f : Fn) (w : W) : W := (keyOf f w).getD .non
def KeyOk (f : Fn) (ws : List W) : Prop := (∀ w ∈ ws, ∃ k, keyOf f w = some k ∧ okW 60 k = true) ∧ AllAlike (ws.map fun w => (kyW f w).dat) ∧ Sortable (ws.map fun w => (kyW f w).dat)
noncomputable def sortByK (f : Fn) (ws : List W) : List W := ws.mergeSort (dataLe false fun w => (kyW f w).dat)
section
variable {X : Cx} {G : Gm} {Wx : WX} {g g' : Gh} {env env' : Env3} {σ σ' : L2.St} {H H' : Hp} {ds : Nat → D} {pins : List (Addr × Obj)} {s : Shared} {k : Nat} {Z : Addr → Prop}
theorem kyW_of {f : Fn} {w k : W} (h : keyOf f w = some k) : kyW f w = k := by unfold kyW; rw [h]; rfl
theorem repL_len : ∀ {xs : List W} {vs : List V}, RepL G Z H xs vs → xs.length = vs.length
  | [], vs, h => by rw [show vs = [] from h]; rfl
  | x :: xs, vs, ⟨v, r, e, a, b⟩ => by rw [e, List.length_cons, List.length_cons, repL_len b]
def ForW (G : Gm) (Z : Addr → Prop) (H : Hp) (u : Value) (w : W) : Prop := ∃ v : V, RelV v u ∧ Rep G Z H w v
theorem each_for : ∀ {ws : List W} {vs : List V} {us : List Value}, RepL G Z H ws vs → Vals vs us → EachIs (ForW G Z H) us ws
  | [], vs, us, r, rv => by
    have r : vs = [] := r
    subst r
    cases rv
    exact .nil
  | w :: ws, _, us, ⟨v, rr, e, a, b⟩, rv => by
    subst e
    cases rv with
    | cons h1 h2 => exact .cons ⟨v, h1, a⟩ (each_for b h2)
theorem for_each : ∀ {us : List Value} {ws : List W}, EachIs (ForW G Z H) us ws → ∃ vs, Vals vs us ∧ RepL G Z H ws vs
  | _, _, .nil => ⟨[], .nil, rfl⟩
  | _, _, .cons ⟨v, h1, h2⟩ t => by
    obtain ⟨vs, a, b⟩ := for_each t
    exact ⟨v :: vs, .cons h1 a, v, vs, rfl, h2, b⟩
theorem for_reads (I : L2.Inv X pins σ H s) (hK : X.K = G.K) : ∀ {us : List Value} {ws : List W}, (∀ w ∈ ws, okW 60 w = true) → EachIs (ForW G Z H) us ws → EachIs (fun u w => ∃ as, Reads s.heap u w.dat as) us ws
  | _, _, _, .nil => .nil
  | _, _, ok, .cons ⟨v, h1, h2⟩ t => by
    have d := rep_dp 60 (ok _ List.mem_cons_self) h2
    rw [← hK] at d
    exact .cons (Dp.reads I _ _ _ d h1) (for_reads I hK (fun w hw => ok w (List.mem_cons_of_mem _ hw)) t)
theorem each_map {α β γ : Type} {R : α → γ → Prop} (f : β → γ) : ∀ {as : List α} {bs : List β}, EachIs (fun a b => R a (f b)) as bs → EachIs R as (bs.map f)
  | _, _, .nil => .nil
  | _, _, .cons h t => .cons h (each_map f t)
end
end VL
namespace VL
open PySem L2 PyProof.Rows PySem.W
section
variable {X : Cx} {G : Gm} {Wx : WX} {g g' : Gh} {env env' : Env3} {σ σ' : L2.St} {H H' : Hp} {ds : Nat → D} {pins : List (Addr × Obj)} {s : Shared} {k : Nat} {p p2 pos kpos : Pos} {e : Expr} {t : M3 (List EV)}
end
end VL
namespace VL
open PySem L2 PyProof.Rows PySem.W
section
variable {X : Cx} {G : Gm} {Wx : WX} {g g' : Gh} {env env' : Env3} {σ σ' : L2.St} {H H' H2 : Hp} {ds : Nat → D} {pins : List (Addr × Obj)} {s : Shared} {k : Nat} {P c : Addr}
def CodeF (H : Hp) (c : Addr) : Prop := ∃ (oc : Obj) (vs : Array Value) (t : Tok), H c = some (.frz oc (.own c)) ∧ oc.data = .fields vs ∧ vs[1]? = some (.str lamQ t)
theorem CodeF.keep (h : CodeF H c) (k : FK H H') : CodeF H' c := let ⟨oc, vs, t, a, b, d⟩ := h; ⟨oc, vs, t, k.f _ _ _ a, b, d⟩
end
end VL
namespace VL
open PySem L2 PyProof.Rows PySem.W
section
variable {X : Cx} {G : Gm} {Wx : WX} {g g' : Gh} {env env' : Env3} {σ σ' : L2.St} {H H' H2 : Hp} {ds : Nat → D} {pins : List (Addr × Obj)} {s : Shared} {k : Nat} {P c : Addr} {p pos kpos lpos : Pos} {e : Expr} {t : M3 (List EV)}
end
end VL
namespace VL
open PySem L2 PyProof.Rows
def codeF (K : PySem.W.Frag) (f : Addr) : Option Addr := match K.lookup f with
  | some o => (match o.data with
    | .func fd => (match fd.code with
      | .ref c => some c
      | _ => none)
    | _ => none)
  | none => none
structure TabK (K : PySem.W.Frag) (h : Heap) (f c P : Addr) : Prop where
  code : codeF K f = some c
  hd : PySem.W.CodeHd h c P
  emp : h.get? P = some { cls := .none, data := .fields #[] }
  out : K.lookup P = none
end VL
namespace L2
open PySem VL
end L2
namespace VL
open PySem L2 PyProof.Rows
section
variable {P : Program} {w : World} {K : PySem.W.Frag} {mg mb : Str → Option Value} {k : Nat} {fa a f c tp : Addr} {fd : FuncData} {x : Str} {sp : Sp} {s : Shared} {vs : List Value} {ns : List Int}
def H0 (K : PySem.W.Frag) (a tp : Addr) (vs : List Value) (ns : List Int) : Hp := fun b =>
  if b = tp then some (.tbl #[]) else if b = a then (match K.lookup a with
    | some _ => none
    | none => some (.frz { cls := .type "list", data := .seq vs.toArray } (.lst (ns.map V.int)))) else none
end
end VL
namespace VL
open PySem L2 PyProof.Rows
theorem mo {j k : Nat} {A : Around} (h : Room k A) (hjk : j ≤ k := by decide) : Room j A := h.mono hjk
theorem u65 {k : Nat} {A : Around} (h : Room k A) : A.units + 65 < cLine := VL.Room.units65 h
section
variable {P : Program} {w : World} {K : PySem.W.Frag} {mg : Str → Option Value} {base : Heap} {x qual : Str} {params : Arguments} {body : List Stmt} {scope : Scope} {dvs : List V} {kws : List (Str × V)} {f c : Addr} {fd : FuncData} {N ps : List Str} {k : Nat} {m : S3} {G : Gm}
theorem fn_ok2 (F : FunD K x qual params body scope dvs kws f fd) (S : FnScope N ps scope) (hps : ps.length ≤ N.length)
    (h : ∀ (cdv : Value) (A : Around) (outer : List PySem.Env) (s : Shared) (H : Hp) (E : XK), Room k (A.deeper (envOfC qual scope s.heap.objs.size f cdv)) → Takes (cxOf (L2.CX P w) P w K mg base N qual scope f cdv A outer s H E) (fun cls d _ H => E cls d H) →
      PassesOwn (model P w) (cxOf (L2.CX P w) P w K mg base N qual scope f cdv A outer s H E).A (cxOf (L2.CX P w) P w K mg base N qual scope f cdv A outer s H E).env (cxOf (L2.CX P w) P w K mg base N qual scope f cdv A outer s H E).xe →
      SSs G (cxOf (L2.CX P w) P w K mg base N qual scope f cdv A outer s H E) (fun cls d _ H => E cls d H) body m) :
    FnOk P w K mg base (L2.CX P w) (k + 1) f fd ps (spOf G ps.length (bodyF N.length m)) := fn_ok F S hps fun cdv A outer s H E hr => h cdv A outer s H E hr (takes_of rfl rfl rfl rfl) (passes_of rfl)
theorem fn_okP2 (F : FunD K x qual params body scope dvs kws f fd) (S : FnScope N ps scope) (hps : ps.length ≤ N.length)
    (h : ∀ (cdv : Value) (A : Around) (outer : List PySem.Env) (s : Shared) (H : Hp) (E : XK), Room k (A.deeper (envOfC qual scope s.heap.objs.size f cdv)) → Takes (cxOf (L2.CX P w) P w K mg base N qual scope f cdv A outer s H E) (fun cls d _ H => E cls d H) →
      PassesOwn (model P w) (cxOf (L2.CX P w) P w K mg base N qual scope f cdv A outer s H E).A (cxOf (L2.CX P w) P w K mg base N qual scope f cdv A outer s H E).env (cxOf (L2.CX P w) P w K mg base N qual scope f cdv A outer s H E).xe →
      SSs G (cxOf (L2.CX P w) P w K mg base N qual scope f cdv A outer s H E) (fun cls d _ H => E cls d H) body m) :
    FnOk P w K mg base (L2.CX P w) (k + 1) f fd ps (spP G ps.length (bodyP N.length m)) := fn_okP F S hps fun cdv A outer s H E hr => h cdv A outer s H E hr (takes_of rfl rfl rfl rfl) (passes_of rfl)
theorem sv {X : Cx} {Wx : WX} {x : Str} {pos : Pos} (i : Nat) (hN : X.N[i]? = some x := by rfl) (hv : Vis X.env.scope x := by first | exact Or.inl rfl | exact Or.inr (Or.inl rfl) | exact Or.inr (Or.inr rfl)) (hd : (x == ("__debug__" : Str)) = false := by decide) (hcd : (x == ("__classdict__" : Str)) = false := by decide) :
    SE G X Wx (.Name x pos) (eVar i) := se_var hN hv hd hcd
end
end VL
namespace VL
open PySem L2 PyProof.Rows PySem.W
theorem scp {N ps : List Str} {sc : Scope} (h1 : sc.kind = ScopeKind.function := by rfl) (h2 : sc.isCoroutine = false := by rfl) (h3 : sc.isGenerator = false := by rfl) (h4 : N.Nodup := by decide +kernel) (h5 : List.take ps.length N = ps := by rfl)
    (h6 : ∀ (x : Str), x ∈ ps → List.lookup x sc.names = some NameKind.local ∨ List.lookup x sc.names = some NameKind.cell := by decide +kernel) (h7 : ∀ (y : Str × NameKind), y ∈ sc.names → y.snd ≠ NameKind.free := by decide +kernel) : FnScope N ps sc := ⟨h1, h2, h3, h4, h5, h6, h7⟩
abbrev FD (K : Frag) (n q : Str) (s : Stmt) (f : Addr) (fd : FuncData) : Prop := FunD K n q (defArgs s) (defBody s) (defScope s) [] [] f fd
section
variable {P : Program} {w : World} {K : Frag} {mg : Str → Option Value} {base : Heap} {x qual : Str} {params : Arguments} {body : List Stmt} {scope : Scope} {kws : List (Str × V)} {f : Addr} {fd : FuncData} {ps : List Str} {j k n : Nat} {G : Gm} {g : Fn}
theorem bd1 (F : FunD K x qual params body scope [] kws f fd) (a : Str) (h : ∀ (kV doc pm : Value) (an : Option Addr) (cdv ct u : Value), bindArgs (W.fnOf x qual params body scope Value.none kV doc pm an cdv ct) { pos := [u] } = pure [(a, u)] := by intros; rfl) : L2.Binds K fd [a] [] :=
  FunD.bindsN F fun _ _ _ _ _ _ us hl => match us, hl with | [u], _ => h _ _ _ _ _ _ u
theorem bd2 (F : FunD K x qual params body scope [] kws f fd) (a b : Str) (h : ∀ (kV doc pm : Value) (an : Option Addr) (cdv ct u v : Value), bindArgs (W.fnOf x qual params body scope Value.none kV doc pm an cdv ct) { pos := [u, v] } = pure [(a, u), (b, v)] := by intros; rfl) : L2.Binds K fd [a, b] [] :=
  FunD.bindsN F fun _ _ _ _ _ _ us hl => match us, hl with | [u, v], _ => h _ _ _ _ _ _ u v
theorem callP0 (hb : L2.Binds K fd ps []) (ho : FnOk P w K mg base (L2.CX P w) k f fd ps (spP G n g)) (hg : mg (Str.ofString y) = some (.ref f)) (F : FunD K x qual params body scope dvs kws f fd) : CallPS P w K mg base G y k n [] g := ⟨f, fd, ps, [], [], ho, hg, F.kp, hb, .nil, fun _ _ => rfl⟩
theorem rowP {C m : String} (hc : Cls K (G.cA C)) (hm : Meth K (G.cA C) (Str.ofString m) f) (hb : L2.Binds K fd ps []) (ho : FnOk P w K mg base (L2.CX P w) j f fd ps (spP G n g)) (hk : j ≤ k := by decide) :
    Cls K (G.cA C) ∧ ∃ (f : Addr) (fd : FuncData) (ps : List Str) (dvs : List V) (ds : List Value), Meth K (G.cA C) (Str.ofString m) f ∧ FnOk P w K mg base (L2.CX P w) k f fd ps (spP G n g) ∧ L2.Binds K fd ps ds ∧ Vals dvs ds ∧ ∀ Z H, RepL G Z H [] dvs :=
  ⟨hc, f, fd, ps, [], [], hm, ho.mono hk, hb, .nil, fun _ _ => rfl⟩
end
theorem tabC {Q : String → Fn → Prop} {c : String} {f : Fn} {r : String → Option Fn} (h : Q c f) (hr : ∀ C s, r C = some s → Q C s) (C : String) (s : Fn) (e : (if C = c then some f else r C) = some s) : Q C s := by
  split at e
  · rename_i q; cases e; exact q ▸ h
  · exact hr C s e
theorem tabN {Q : String → Fn → Prop} (C : String) (s : Fn) (e : (none : Option Fn) = some s) : Q C s := by cases e
section
variable {fa : List He.Fa} {fn : List He.DefD} {ex : Frag → Bool} {K : Frag} {h : Heap} {mg : Str → Option Value} {x m : Str}
theorem cK (c : SaysY fa fn ex K) (i : Nat) (e : fa[i]? = some (.cls x)) : Cls K (He.ga K x) := He.cls_ok (c.d.fact i e)
theorem mK (c : SaysY fa fn ex K) (i : Nat) (e : fa[i]? = some (.meth x m)) : Meth K (He.ga K x) m (He.ma K (He.ga K x) m) := He.meth_ok (c.d.fact i e)
theorem gK (X : K.In h) (Gn : h.Ns mainGlobals mg) (c : SaysY fa fn ex K) (i : Nat) (e : fa[i]? = some (.glo x)) : mg x = some (Value.ref (He.ga K x)) := He.glo_ok X Gn (c.d.fact i e)
end
end VL
namespace VL
open PySem L2 PyProof.Rows PySem.W
def idF : Fn := fun ts => match ts with
  | [.im w] => .ok (.im w) [.im w]
  | ts => .stuck
theorem keyOf_id (w : W) : keyOf idF w = some w := rfl
section
variable {X : Cx} {G : Gm} {Wx : WX} {p pos : Pos} {e : Expr} {es : List Expr} {t : M3 (List EV)}
end
end VL
namespace VL
end VL
namespace VL
open PySem PySem.Calls L2 PyProof.Rows PySem.W
section
variable {X : Cx} {G : Gm} {Wx : WX} {g g' : Gh} {env env' : Env3} {σ : L2.St} {H H' : Hp} {ds : Nat → D} {p p2 pos pos2 apos cpos : Pos} {e : Expr} {fe : M3 EV} {td : TE}
def tSortItems (G : Gm) (td : TE) : TE := fun σ H Q => td σ H fun x H1 => ∃ d ob ks us ws Z, x = .ref d ∧ H1 d = some (dO d ob) ∧ ObK G d ob ks us ∧ KeyOk idF ws ∧
  (∀ as : List Addr, as.Nodup → (∀ a ∈ as, H1 a = none) → as.length = ks.length → RepL G Z (updL H1 (List.zip as (tupsO ks us))) ws (as.map V.ref)) ∧
  ∀ S as vs', (S :: as).Nodup → (∀ a ∈ S :: as, H1 a = none) → as.length = ks.length → RepL G Z (updL H1 (List.zip as (tupsO ks us))) (sortByK idF ws) vs' → Q (.ref S) (L2.upd (updL H1 (List.zip as (tupsO ks us))) S (.lst vs'))
theorem pe_sortItems (hP : X.prog = G.P) (hW : X.w = G.w) (hK : X.K = G.K) (hu : X.A.units + 65 < cLine) (hc : X.calm = true) (hg : Gl X "sorted") (hm : X.mg "sorted" = none) (he : PE X e td) (hbase : attributeBase e "items" X.env (eval e X.env) = eval e X.env := by rfl) (hline : (apos.endLine == cpos.line) = true := by rfl)
    (na : starEach [.Call (.Attribute e "items" apos) [] [] cpos] X.env = (false, eval (.Call (.Attribute e "items" apos) [] [] cpos) X.env) :: starEach [] X.env := by rfl) :
    PE X (.Call (.Name "sorted" p) [.Call (.Attribute e "items" apos) [] [] cpos] [] pos) (tSortItems G td) := by
  refine ⟨fun pins s σ H Q I h => ?_⟩
  refine Call_ (ld_blt I hg hm boot_sorted (PyProof.Rows.callWith_builtin1 (args_cons ?_ na) na))
  refine wpAny_Call_method (T := "dict") (id := "dict.items") hbase rfl hline F.plainAttrs_dict F.slot_dict_items F.type_dict_items (thn (he.run pins s σ H _ I h) fun u s1 ⟨x, H1, I1, rx, d, ob, ks, us, ws, Z, ex, hd, o, ok, rep, q⟩ => ?_)
  subst ex
  obtain rfl : u = Value.ref d := rx
  obtain ⟨hs, hgd, hx, hul, es, ep, vs, hdt, hsz, kv, hdm⟩ := o.at hP hW I1 hd
  have hl : ks.length = vs.length := by rw [← kvL_len hul]; exact Paired.length kv
  refine ⟨hdm.dictOf.typeIs, hdm.dictOf.mapOf.noDict, ?_⟩
  show wpAny _ _ (callWith cpos (.builtin "dict.items") [.ref d] [] []) _ X.xe s1
  refine method_meetsIn F.slot_dict_items F.entry_dict_items rfl (PySem.evalArgs_none ⟨rfl, hdm.dictOf.typeIs, F.args_dict_items_1 _, _, meets_dict_items (mixKind X.prog X.w) d hs, ⟨vs, hdm.dictOf⟩, args_nil ?_⟩)
  have hn16 : vs.length ≤ sizeLine := by
    obtain ⟨es', i, _⟩ := o.ex
    have := i.le
    have e2 : es'.length = ks.length := by obtain ⟨_, _, e⟩ := o.ex; rename_i ie; exact (show EntK G ks us es' from by assumption).len.2
    omega
  refine call_function_entry kind_sorted plain_sorted entry_sorted (args_sorted1 _) ?_
  unfold Builtin.«sorted»
  refine wpAny_bind (m := checkCount "sorted" 1 1 _) (wpAny_pure ?_)
  refine wpAny_bind (PySem.W.kdx_collect (knd := mixKind X.prog X.w) (kvs := vs) (ep := ep) (r := s1.heap.objs.size) (s := { s1 with heap := s1.heap.push { cls := .type "dict_items", data := .fields #[.ref d] } }) (I1.ok.hd hc) ⟨_, Heap.get?_push_size _ rfl, rfl, rfl⟩ (hdm.push _) hn16 fun h' tk as hk hal hG => ?_)
  have hsz2 : s1.heap.objs.size ≤ (s1.heap.push { cls := .type "dict_items", data := .fields #[.ref d] }).objs.size := by simp [Heap.push]
  have hkeep : ∀ b u, s1.heap.get? b = some u → h'.get? b = some u := fun b u hb => hk b u (Heap.get?_push_of_some _ hb)
  have hlow : ∀ a ∈ as, s1.heap.objs.size ≤ a := fun a ha => Nat.le_of_lt (Nat.lt_of_le_of_lt hsz2 (hG.above a ha))
  have hnone : ∀ a ∈ as, s1.heap.get? a = none ∧ H1 a = none := fun a ha => ⟨by
      cases hq : s1.heap.get? a with
      | none => rfl
      | some o => exact absurd (Heap.lt_size hq) (Nat.not_lt.mpr (hlow a ha)), I1.hok.fresh (hlow a ha)⟩
  have hnd : as.Nodup := hG.rise.imp fun {a b} h => Nat.ne_of_lt h
  have hlen : as.length = (tupsO ks us).length := by rw [tupsO_len hul, hal, hl]
  have hfst : (List.zip as (tupsO ks us)).map (·.1) = as := zip_fst hlen
  have hal2 : as.length = ks.length := by rw [hal, hl]
  have pr : ∀ (j : Nat) a, as[j]? = some a → ∃ o, h'.get? a = some o := fun j a ja => by
    obtain ⟨key, kk, xx, g1, g2, g3⟩ := hG.pairs j a ja
    exact ⟨_, g3⟩
  have hB : ∀ a ∈ as, a < h'.objs.size := fun a ha => by
    obtain ⟨j, hj⟩ := List.mem_iff_getElem?.mp ha
    obtain ⟨o, ho⟩ := pr j a hj
    exact Heap.lt_size ho
  have I2 : L2.Inv X pins σ (updL H1 (List.zip as (tupsO ks us))) { s1 with heap := h', toks := tk } := by
    refine Inv.laidL (t' := tk) I1 (List.zip as (tupsO ks us)) h' hkeep (by rw [hfst]; exact hnd) (fun n hn => hnone n.1 (by rw [← hfst]; exact List.mem_map_of_mem hn)) (fun n hn Hx K hK => ?_)
    obtain ⟨j, hj⟩ := List.mem_iff_getElem?.mp hn
    obtain ⟨ja, jt⟩ : as[j]? = some n.1 ∧ (tupsO ks us)[j]? = some n.2 := by
      have := hj
      rw [List.getElem?_zip_eq_some] at this
      exact this
    have hjl : j < ks.length := by
      have := (List.getElem?_eq_some_iff.mp ja).1
      omega
    have hk1 : ks[j]? = some ks[j] := List.getElem?_eq_getElem hjl
    have hu1 : us[j]? = some (us[j]'(by omega)) := List.getElem?_eq_getElem (by omega)
    have et : n.2 = HO.tup [keyV ks[j], us[j]'(by omega)] := by
      unfold tupsO at jt
      rw [List.getElem?_zipWith, hk1, hu1] at jt
      exact (Option.some.inj jt).symm
    obtain ⟨key, kk, xx, g1, g2, g3⟩ := hG.pairs j n.1 ja
    obtain ⟨u2, hu2, ru⟩ := kv_get kv (kvL_get hul hk1 hu1)
    rw [hu2] at g1
    cases g1
    have rk : RelV (keyV ks[j]) key := by rw [keyV_kV]; exact L2.relV_key (show keyIs _ key = true from g2)
    rw [et]
    refine ⟨by show 2 ≤ sizeLine; decide, [key, xx], .cons rk (.cons ru .nil), ?_⟩
    exact ⟨_, by rw [hK]; exact g3, rfl, _, rfl⟩
  have rl := rep as hnd (fun a ha => (hnone a ha).2) hal2
  obtain ⟨ok1, ok2, ok3⟩ := ok
  have ok1 : ∀ w ∈ ws, okW 60 w = true := fun w hw => by
    obtain ⟨k, h1, h2⟩ := ok1 w hw
    cases (keyOf_id w).symm.trans h1
    exact h2
  have rv : Vals (as.map V.ref) (as.map Value.ref) := by
    have := vals_refs as
    exact this
  have ef := each_for rl rv
  have er := for_reads I2 hK ok1 ef
  have hlw : ws.length = as.length := by rw [repL_len rl, List.length_map]
  have hz : (as.map Value.ref).length ≤ sizeLine := by rw [List.length_map, hal]; exact hn16
  refine wpAny_bind (wpAny_newList ?_ hz)
  have ho : (h'.push (seqObj "list" (as.map Value.ref).toArray 0)).get? h'.objs.size = some (seqObj "list" (as.map Value.ref).toArray 0) := Heap.get?_push_size _ rfl
  have hgo : H1 h'.objs.size = none ∧ h'.objs.size ∉ as := ⟨I1.hok.fresh (Nat.le_of_lt (Heap.lt_size (hk s1.heap.objs.size _ (Heap.get?_push_size _ rfl)))), fun z => Nat.lt_irrefl _ (hB _ z)⟩
  have er' : EachIs (fun v w => ∃ xs, Reads (sortingHeap (h'.push (seqObj "list" (as.map Value.ref).toArray 0)) h'.objs.size (as.map Value.ref)) v (kyW idF w).dat xs) (as.map Value.ref) ws :=
    er.mono fun _ _ ⟨xs, r⟩ => ⟨xs, PyProof.Rows.Reads.keeps (fun b o q => sortingHeap_old (Nat.ne_of_lt (Heap.lt_size q)) (Heap.get?_push_of_some _ q)) r⟩
  refine wpAny_bind (wpAny_holding (wpAny_call_entry slot_list_sort ⟨_, ho, rfl⟩ entry_list_sort (list_sort_vals (κ := dataKind (sortingHeap (h'.push (seqObj "list" (as.map Value.ref).toArray 0)) h'.objs.size (as.map Value.ref)) (ws.map fun w => (kyW idF w).dat)) (s := { s1 with heap := h'.push (seqObj "list" (as.map Value.ref).toArray 0), toks := tk }) ho
    (SortsAt.data (each_map (R := fun v d => ∃ xs, Reads (sortingHeap (h'.push (seqObj "list" (as.map Value.ref).toArray 0)) h'.objs.size (as.map Value.ref)) v d xs) (fun w => (kyW idF w).dat) er') ok2 ok3 (fun dd hdd => ?_)) hz ⟨.none, rfl, ?_⟩) (args_list_sort _)))
  · obtain ⟨w, hw, rfl⟩ := List.mem_map.mp hdd
    have := dat_depth 60 _ (ok1 w hw)
    show X.A.units + 1 + 1 + (W.dat w).depth < _
    omega
  · have h2 := sortVals_data (R := ForW G Z (updL H1 (List.zip as (tupsO ks us)))) (enc := fun w => (kyW idF w).dat) false ef er' ok2
    obtain ⟨us2, v1, r1⟩ := for_each h2
    obtain ⟨cc, he'⟩ := sortedHeap_at (vs := as.map Value.ref) (out := (sortVals (dataKind (sortingHeap (h'.push (seqObj "list" (as.map Value.ref).toArray 0)) h'.objs.size (as.map Value.ref)) (ws.map fun w => (kyW idF w).dat)) false (as.map Value.ref) (as.map Value.ref)).toArray) ho
    have hn : updL H1 (List.zip as (tupsO ks us)) h'.objs.size = none := updL_none hgo.1 (by rw [hfst]; exact hgo.2)
    have hlen2 : us2.length ≤ sizeLine := by
      rw [← repL_len r1, (List.mergeSort_perm _ _).length_eq, hlw, hal]; exact hn16
    refine wpAny_pure ⟨_, rfl, .ref h'.objs.size, L2.upd (updL H1 (List.zip as (tupsO ks us))) h'.objs.size (.lst us2), I2.laid (t' := tk) (fun b o hb => ?_) (Nat.le_refl _) ⟨hlen2, _, cc, v1, he'⟩, rfl, q _ as us2 (List.nodup_cons.mpr ⟨hgo.2, hnd⟩) (fun a ha => ?_) hal2 r1⟩
    · rw [sortedHeap_old (Nat.ne_of_lt (Heap.lt_size hb)) (Nat.lt_of_lt_of_le (Heap.lt_size hb) (by simp [Heap.push]))]
      exact Heap.get?_push_of_some _ hb
    · rcases List.mem_cons.mp ha with rfl | ha
      · exact hgo.1
      · exact (hnone a ha).2
open Classical in
noncomputable def eSortItems (fe : M3 EV) : M3 EV := fun env => match fe env with
  | .ok o e => (match itemsT o e with
    | some ws => (if KeyOk idF ws then .ok (.tmp (.ml ((sortByK idF ws).map T.im))) e else .stuck)
    | none => .stuck)
  | .exc c e => .exc c e
  | .stuck => .stuck
theorem se_sortItems (hg : Gl X "sorted") (hm : X.mg "sorted" = none) (hu : X.A.units + 65 < cLine) (he : SE G X Wx e fe) (hP : X.prog = G.P := by rfl) (hW : X.w = G.w := by rfl) (hK : X.K = G.K := by rfl) (hc : X.calm = true := by rfl) (hbase : attributeBase e "items" X.env (eval e X.env) = eval e X.env := by rfl) (hline : (apos.endLine == cpos.line) = true := by rfl)
    (na : starEach [.Call (.Attribute e "items" apos) [] [] cpos] X.env = (false, eval (.Call (.Attribute e "items" apos) [] [] cpos) X.env) :: starEach [] X.env := by rfl) :
    SE G X Wx (.Call (.Name "sorted" p) [.Call (.Attribute e "items" apos) [] [] cpos] [] pos) (eSortItems fe) := by
  refine pe_imp (pe_sortItems (G := G) hP hW hK hu hc hg hm he hbase hline na) ?_
  rintro σ H Q ⟨g, env, ds, s, h⟩
  refine ⟨g, env, ds, s, ?_⟩
  unfold eSortItems at h
  cases e1 : fe env with
  | stuck => rw [e1] at h; exact h.elim
  | exc c e2 => rw [e1] at h; exact h
  | ok o e2 =>
    rw [e1] at h
    dsimp only at h
    intro g1 v H1 k1 s1
    split at h
    rotate_left
    · exact h.elim
    rename_i ws hws
    split at h
    rotate_left
    · exact h.elim
    rename_i ok
    unfold itemsT at hws
    split at hws
    rotate_left
    · cases hws
    rename_i kvs hx
    obtain ⟨ps, hps, rfl⟩ := Option.map_eq_some_iff.mp hws
    obtain ⟨d0, r0⟩ := s1.rd hx
    obtain ⟨a, us, ds2, rfl, _, dt, rk⟩ := repMd r0
    obtain ⟨ob, es, q1, q2, q3, q4⟩ := dt
    obtain ⟨j1, j2⟩ := kxPairs_rep hps rk
    refine ⟨a, ob, _, us, ps.map pairW, g1.Z, rfl, q1, ⟨⟨es, q2, q3⟩, q4⟩, ok, fun as nd hn hl => ?_, fun S as vs' nd hn hl rl => ?_⟩
    · rw [← j1] at hl ⊢
      exact (simL (as := as) (ps := ps) (us := us) s1.n nd hn (by simpa using hl) j2).2.2
    · rw [List.nodup_cons] at nd
      rw [← j1] at hl rl ⊢
      obtain ⟨sn, kn, _⟩ := simL (as := as) (ps := ps) (us := us) s1.n nd.2 (fun b hb => hn b (List.mem_cons_of_mem _ hb)) (by simpa using hl) j2
      obtain ⟨ds3, s3⟩ := sn
      have hlen : as.length = (tupsO (ps.map (·.1)) us).length := by
        rw [tupsO_len]
        · simpa using hl
        · have := j2.length; simpa using this
      obtain ⟨kn2, se⟩ := s3.newL (l := S) (updL_none (hn S List.mem_cons_self) (by rw [zip_fst hlen]; exact nd.1)) rl
      exact h g1 _ _ (k1.trans (kn.trans kn2)) se
end
end VL
namespace VL
open PySem L2
section
variable {α β γ : Type}
def Out.bind (o : Out α) (k : α → Env3 → Out β) : Out β := match o with
  | .ok a e => k a e
  | .exc c e => .exc c e
  | .stuck => .stuck
def Out.toS (o : Out α) (k : α → Env3 → SO3) : SO3 := match o with
  | .ok a e => k a e
  | .exc c e => .ex c e
  | .stuck => .stuck
def SO3.bind (o : SO3) (k : S3) : SO3 := match o with
  | .nx e => k e
  | o => o
@[simp] theorem Out.bind_ok (a : α) (e : Env3) (k : α → Env3 → Out β) : (Out.ok a e).bind k = k a e := id rfl
@[simp] theorem Out.toS_ok (a : α) (e : Env3) (k : α → Env3 → SO3) : (Out.ok a e).toS k = k a e := id rfl
@[simp] theorem SO3.bind_nx (e : Env3) (k : S3) : (SO3.nx e).bind k = k e := id rfl
@[simp] theorem SO3.bind_rt (v : EV) (e : Env3) (k : S3) : (SO3.rt v e).bind k = .rt v e := id rfl
def oOk (o : Option α) (e : Env3) : Out α := match o with
  | some a => .ok a e
  | none => .stuck
@[simp] theorem oOk_some (a : α) (e : Env3) : oOk (some a) e = .ok a e := id rfl
def oNx (o : Option Env3) : SO3 := match o with
  | some e => .nx e
  | none => .stuck
@[simp] theorem oNx_some (e : Env3) : oNx (some e) = .nx e := id rfl
end
def ob {α β : Type} (o : Option α) (k : α → Option β) : Option β := match o with
  | some a => k a
  | none => none
@[simp] theorem ob_some {α β : Type} (a : α) (k : α → Option β) : ob (some a) k = k a := id rfl
theorem ob_bind {α β : Type} (o : Option α) (k : α → Option β) : o.bind k = ob o k := by cases o <;> rfl
def jk (j : Option W) : Option SV := j.map SV.val
@[simp] theorem jk_some (w : W) : jk (some w) = some (SV.val w) := id rfl
@[simp] theorem jk_none : jk none = none := id rfl
def ims (ws : List W) : List T := ws.map T.im
def ime (ws : List W) : List EV := ws.map EV.im
@[simp] theorem ims_nil : ims [] = [] := id rfl
@[simp] theorem ims_cons (w : W) (r : List W) : ims (w :: r) = .im w :: ims r := id rfl
@[simp] theorem ims_append (a b : List W) : ims (a ++ b) = ims a ++ ims b := by simp [ims]
@[simp] theorem ims_length (a : List W) : (ims a).length = a.length := by simp [ims]
theorem map_im (a : List W) : a.map T.im = ims a := rfl
@[simp] theorem ime_nil : ime [] = [] := id rfl
@[simp] theorem ime_cons (w : W) (r : List W) : ime (w :: r) = .im w :: ime r := id rfl
section
variable {f : M3 EV} {k : S3} {env e : Env3}
@[simp] theorem sNx_ev : sNx env = .nx env := id rfl
@[simp] theorem sSeq_ev (a b : S3) (env : Env3) : sSeq a b env = (a env).bind b := by unfold sSeq SO3.bind; cases a env <;> first | rfl | (dsimp only; split <;> simp_all)
def kNx : EV → Env3 → SO3 := fun _ e => .nx e
@[simp] theorem kNx_ev (v : EV) (e : Env3) : kNx v e = .nx e := id rfl
@[simp] theorem sExpr_ev (f : M3 EV) (env : Env3) : sExpr f env = (f env).toS kNx := by unfold sExpr Out.toS; cases f env <;> first | rfl | (dsimp only; split <;> simp_all)
@[simp] theorem sRet_ev (f : M3 EV) (env : Env3) : sRet f env = (f env).toS SO3.rt := by unfold sRet Out.toS; cases f env <;> first | rfl | (dsimp only; split <;> simp_all)
def kIf (t u : S3) (b : Bool) (e : Env3) : SO3 := if b = true then t e else u e
@[simp] theorem kIf_true (t u : S3) (e : Env3) : kIf t u true e = t e := id rfl
@[simp] theorem kIf_false (t u : S3) (e : Env3) : kIf t u false e = u e := id rfl
@[simp] theorem sIf_ev (c : M3 Bool) (t u : S3) (env : Env3) : sIf c t u env = (c env).toS (kIf t u) := by unfold sIf Out.toS; cases c env <;> first | rfl | (dsimp only; split <;> simp_all)
def kAsg (tg : TG3) (v : EV) (e : Env3) : SO3 := oNx (tg v e)
@[simp] theorem kAsg_ev (tg : TG3) (v : EV) (e : Env3) : kAsg tg v e = oNx (tg v e) := id rfl
@[simp] theorem sAsg_ev (f : M3 EV) (tg : TG3) (env : Env3) : sAsg f tg env = (f env).toS (kAsg tg) := by
  unfold sAsg Out.toS kAsg oNx; cases f env <;> first | rfl | (dsimp only; split <;> simp_all)
def kSet (i : Nat) (ev : EV) (s : Option (Option SV)) (env : Env3) : Option Env3 := match s with
  | some (some (SV.own false [] _)) => (match ev with
    | .ptr k π => if k = i then none else some (((env.map (killS i)).set i none).set i (some (.ptr k π)))
    | ev => some (((env.map (killS i)).set i none).set i (some (svOf ev))))
  | some (some (SV.own _ _ _)) => none
  | some _ => some (env.set i (some (svOf ev)))
  | none => none
@[simp] theorem gName_ev (i : Nat) (ev : EV) (env : Env3) : gName i ev env = kSet i ev env[i]? env := id rfl
@[simp] theorem kSet_val (i : Nat) (ev : EV) (w : W) : kSet i ev (some (some (SV.val w))) env = some (env.set i (some (svOf ev))) := id rfl
@[simp] theorem kSet_none (i : Nat) (ev : EV) : kSet i ev (some none) env = some (env.set i (some (svOf ev))) := id rfl
@[simp] theorem kSet_jk (i : Nat) (ev : EV) (j : Option W) : kSet i ev (some (jk j)) env = some (env.set i (some (svOf ev))) := by cases j <;> rfl
@[simp] theorem killS_val (i : Nat) (w : W) : killS i (some (.val w)) = some (.val w) := id rfl
@[simp] theorem killS_none (i : Nat) : killS i none = none := id rfl
@[simp] theorem killS_own (i : Nat) (p : Bool) (L : List Path) (t : T) : killS i (some (.own p L t)) = some (.own p L t) := id rfl
@[simp] theorem killS_jk (i : Nat) (j : Option W) : killS i (jk j) = jk j := by cases j <;> rfl
@[simp] theorem svOf_im (w : W) : svOf (.im w) = .val w := id rfl
@[simp] theorem svOf_tmp (t : T) : svOf (.tmp t) = .own false [] t := id rfl
def kTup (n : Nat) (t : TGs3) (o : Option (List EV)) (env : Env3) : Option Env3 := match o with
  | some evs => if evs.length = n then t evs env else none
  | none => none
@[simp] theorem gTup_ev (n : Nat) (t : TGs3) (ev : EV) (env : Env3) : gTup n t ev env = kTup n t (partsE ev) env := by unfold gTup kTup; cases partsE ev <;> rfl
@[simp] theorem kTup_some (n : Nat) (t : TGs3) (evs : List EV) (env : Env3) (h : evs.length = n) : kTup n t (some evs) env = t evs env := if_pos h
@[simp] theorem partsE_im (ws : List W) : partsE (.im (.tup ws)) = some (ime ws) := id rfl
@[simp] theorem evOf_ml (xs : List T) : evOf (.ml xs) = .tmp (.ml xs) := id rfl
@[simp] theorem evOf_mi (C : String) (xs : List (String × T)) : evOf (.mi C xs) = .tmp (.mi C xs) := id rfl
@[simp] theorem gNil_ev (env : Env3) : gNil [] env = some env := id rfl
@[simp] theorem gCons_ev (i : Nat) (u : TGs3) (ev : EV) (r : List EV) (env : Env3) : gCons i u (ev :: r) env = ob (kSet i ev env[i]? env) (u r) := by rw [← ob_bind]; rfl
def kAugI (i : Nat) (x : Int) (v : EV) (e : Env3) : SO3 := match v with
  | .im (.int y) => oNx (setS i (.im (.int (x + y))) e)
  | _ => .stuck
end
section
variable {env e : Env3}
def kVar (i : Nat) (s : Option (Option SV)) (env : Env3) : Out EV := match s with
  | some (some (SV.val w)) => .ok (.im w) env
  | some (some (SV.own _ _ _)) => .ok (.ptr i []) env
  | some (some (SV.ptr k π)) => .ok (.ptr k π) env
  | _ => .stuck
@[simp] theorem eVar_ev (i : Nat) (env : Env3) : eVar i env = kVar i env[i]? env := by unfold eVar kVar; rfl
@[simp] theorem kVar_val (i : Nat) (w : W) : kVar i (some (some (.val w))) env = .ok (.im w) env := id rfl
@[simp] theorem kVar_own (i : Nat) (p : Bool) (L : List Path) (t : T) : kVar i (some (some (.own p L t))) env = .ok (.ptr i []) env := id rfl
def kMove (i : Nat) (s : Option (Option SV)) (env : Env3) : Out EV := match s with
  | some (some (SV.own false [] t)) => .ok (.tmp t) ((env.map (killS i)).set i none)
  | _ => .stuck
@[simp] theorem eMove_ev (i : Nat) (env : Env3) : eMove i env = kMove i env[i]? env := by unfold eMove kMove; rfl
@[simp] theorem kMove_own (i : Nat) (t : T) : kMove i (some (some (.own false [] t))) env = .ok (.tmp t) ((env.map (killS i)).set i none) := id rfl
def kTake (i : Nat) (s : Option (Option SV)) (env : Env3) : Out EV := match s with
  | some (some (SV.own _ _ _)) => eMove i env
  | _ => eVar i env
@[simp] theorem eTake_ev (i : Nat) (env : Env3) : eTake i env = kTake i env[i]? env := by unfold eTake kTake; rfl
@[simp] theorem kTake_own (i : Nat) (p : Bool) (L : List Path) (t : T) : kTake i (some (some (.own p L t))) env = kMove i env[i]? env := eMove_ev i env
@[simp] theorem eC_ev (w : W) (env : Env3) : eC w env = .ok (.im w) env := id rfl
@[simp] theorem pendB_im {β : Type} (w : W) (m : M3 β) (env : Env3) : pendB (.im w) m env = m env := by
  unfold pendB
  show (match m env with | .ok b env2 => _ | .exc c env2 => _ | .stuck => _) = m env
  cases m env <;> simp [okE, unlE]
@[simp] theorem pendB_tmp {β : Type} (t : T) (m : M3 β) (env : Env3) : pendB (.tmp t) m env = m env := by
  unfold pendB
  show (match m env with | .ok b env2 => _ | .exc c env2 => _ | .stuck => _) = m env
  cases m env <;> simp [okE, unlE]
def kOkS {β : Type} (s : Option (Option SV)) (b : β) (e : Env3) : Out β := match s with
  | some (some (SV.own _ _ _)) => .ok b e
  | _ => .stuck
@[simp] theorem kOkS_own {β : Type} (p : Bool) (L : List Path) (t : T) (b : β) (e : Env3) : kOkS (some (some (.own p L t))) b e = .ok b e := id rfl
def kOk0 {β : Type} (k : Nat) (b : β) (e : Env3) : Out β := kOkS e[k]? b e
@[simp] theorem kOk0_ev {β : Type} (k : Nat) (b : β) (e : Env3) : kOk0 k b e = kOkS e[k]? b e := id rfl
@[simp] theorem pendB_ptr0 {β : Type} (k : Nat) (m : M3 β) (env : Env3) : pendB (.ptr k []) m env = (m env).bind (kOk0 k) := by
  unfold pendB Out.bind kOk0
  show (match m env with | .ok b env2 => _ | .exc c env2 => _ | .stuck => _) = _
  cases m env with
  | ok b e2 =>
    show (if okE (.ptr k []) e2 = true then Out.ok b e2 else .stuck) = kOkS e2[k]? b e2
    unfold okE kOkS
    rcases h : e2[k]? with _ | _ | x
    · simp [h]
    · simp [h]
    · cases x <;> simp [h]
  | exc c e2 => rfl
  | stuck => rfl
def lockP (k : Nat) (π : Path) (s : Option (Option SV)) (env : Env3) : Env3 := match s with
  | some (some (SV.own p L t)) => env.set k (some (SV.own p (π :: L) t))
  | _ => env
@[simp] theorem lockP_own (k : Nat) (π : Path) (p : Bool) (L : List Path) (t : T) : lockP k π (some (some (.own p L t))) env = env.set k (some (SV.own p (π :: L) t)) := id rfl
@[simp] theorem eNil_ev (env : Env3) : eNil env = .ok [] env := id rfl
def kCons2 (ev : EV) (evs : List EV) (e : Env3) : Out (List EV) := .ok (ev :: evs) e
@[simp] theorem kCons2_ev (ev : EV) (evs : List EV) (e : Env3) : kCons2 ev evs e = .ok (ev :: evs) e := id rfl
def kCons (es : M3 (List EV)) (ev : EV) (e : Env3) : Out (List EV) := (pendB ev es e).bind (kCons2 ev)
@[simp] theorem kCons_ev (es : M3 (List EV)) (ev : EV) (e : Env3) : kCons es ev e = (pendB ev es e).bind (kCons2 ev) := id rfl
@[simp] theorem eCons_ev (f : M3 EV) (es : M3 (List EV)) (env : Env3) : eCons f es env = (f env).bind (kCons es) := by
  unfold eCons Out.bind kCons kCons2 Out.bind; cases f env with
  | ok a e => dsimp only; cases pendB a es e <;> rfl
  | exc c e => rfl
  | stuck => rfl
@[simp] theorem rd_im (w : W) (env : Env3) : rd env (.im w) = some (.im w) := id rfl
@[simp] theorem rd_tmp (t : T) (env : Env3) : rd env (.tmp t) = some t := id rfl
def kRd (π : Path) (s : Option (Option SV)) : Option T := match s with
  | some (some (SV.own _ _ t)) => t.getP π
  | _ => none
@[simp] theorem rd_ptr (k : Nat) (π : Path) (env : Env3) : rd env (.ptr k π) = kRd π env[k]? := by unfold rd kRd; rfl
@[simp] theorem kRd_own (π : Path) (p : Bool) (L : List Path) (t : T) : kRd π (some (some (.own p L t))) = t.getP π := id rfl
@[simp] theorem getP_nil (t : T) : t.getP [] = some t := by unfold T.getP; rfl
def kPair2 (x : EV) (y : EV) (e : Env3) : Out (EV × EV) := .ok (x, y) e
@[simp] theorem kPair2_ev (x y : EV) (e : Env3) : kPair2 x y e = .ok (x, y) e := id rfl
def kPair (b : M3 EV) (x : EV) (e : Env3) : Out (EV × EV) := (pendB x b e).bind (kPair2 x)
@[simp] theorem kPair_ev (b : M3 EV) (x : EV) (e : Env3) : kPair b x e = (pendB x b e).bind (kPair2 x) := id rfl
@[simp] theorem ePair_ev (a b : M3 EV) (env : Env3) : ePair a b env = (a env).bind (kPair b) := by
  unfold ePair Out.bind kPair kPair2 Out.bind; cases a env with
  | ok x e => dsimp only; cases pendB x b e <;> rfl
  | exc c e => rfl
  | stuck => rfl
def kOp (r : F2) (p : EV × EV) (e : Env3) : Out EV := op2 r p.1 p.2 e
def kOp2 (r : F2) (x y : Option T) (e : Env3) : Out EV := match x, y with
  | some t, some u => oOk (r t u) e
  | _, _ => .stuck
@[simp] theorem kOp2_some (r : F2) (t u : T) (e : Env3) : kOp2 r (some t) (some u) e = oOk (r t u) e := id rfl
@[simp] theorem kOp_ev (r : F2) (x y : EV) (e : Env3) : kOp r (x, y) e = kOp2 r (rd e x) (rd e y) e := by
  unfold kOp op2 kOp2 oOk; dsimp only; cases rd e x with
  | none => rfl
  | some t => cases rd e y with
    | none => rfl
    | some u => dsimp only; cases r t u <;> rfl
@[simp] theorem eOp_ev (r : F2) (a b : M3 EV) (env : Env3) : eOp r a b env = (ePair a b env).bind (kOp r) := by
  unfold eOp Out.bind kOp; cases ePair a b env <;> rfl
end
section
variable {i j : Int}
@[simp] theorem fSub_ev : fSub (.im (.int i)) (.im (.int j)) = some (.im (.int (i - j))) := id rfl
@[simp] theorem fMul_ev (h : CMul i j ∨ CMulW i j) : fMul (.im (.int i)) (.im (.int j)) = some (.im (.int (i * j))) := if_pos h
@[simp] theorem fDiv_ev (h : CDivW i j) : fDiv (.im (.int i)) (.im (.int j)) = some (.im (.int (i / j))) := if_pos h
@[simp] theorem fMod_ev (h : 0 < j) : fMod (.im (.int i)) (.im (.int j)) = some (.im (.int (i % j))) := if_pos h
@[simp] theorem fPow_ev (h : CPow i j) : fPow (.im (.int i)) (.im (.int j)) = some (.im (.int (i ^ j.toNat))) := if_pos h
@[simp] theorem fLt_ev : fLt (.im (.int i)) (.im (.int j)) = some (.im (.bl (decide (i < j)))) := id rfl
@[simp] theorem fGt_ev : fGt (.im (.int i)) (.im (.int j)) = some (.im (.bl (decide (j < i)))) := id rfl
@[simp] theorem fAdd_int : fAdd (.im (.int i)) (.im (.int j)) = some (.im (.int (i + j))) := id rfl
theorem pow64 : (2 : Int) ^ 64 = 18446744073709551616 := by decide
@[simp] theorem CMul_lit1 (h : -18446744073709551616 < j ∧ j < 18446744073709551616) : CMul i j := Or.inr (by rw [pow64]; exact h)
theorem CDivW_of (h : 0 < j) (h2 : j < 2 ^ 64) : CDivW i j := by
  refine ⟨h, ?_⟩
  have : j.natAbs < 2 ^ 64 := by omega
  have := (Nat.log2_lt (by omega)).mpr this
  omega
@[simp] theorem CDivW_lit (h : 0 < j ∧ j < 18446744073709551616) : CDivW i j := CDivW_of h.1 (by rw [pow64]; exact h.2)
@[simp] theorem CPow_lit (h : 0 ≤ j ∧ j ≤ 1000000 ∧ i.natAbs < 18446744073709551616) : CPow i j := h
theorem eqT_im {a b : W} (ha : okW 64 a = true) (hb : okW 64 b = true) : eqT (.im a) (.im b) = some (W.eqv a b) := if_pos ⟨ha, hb⟩
@[simp] theorem fEq_ev (x y : T) : fEq x y = (eqT x y).map fun b => .im (.bl b) := id rfl
@[simp] theorem fNe_ev (x y : T) : fNe x y = (eqT x y).map fun b => .im (.bl (!b)) := id rfl
@[simp] theorem eqT_int : eqT (.im (.int i)) (.im (.int j)) = some (decide (i = j)) := id rfl
@[simp] theorem eqT_str {s t : String} : eqT (.im (.str s)) (.im (.str t)) = some (decide (s = t)) := id rfl
@[simp] theorem fIs_ev (x : T) : fIs x (.im .non) = some (.im (.bl x.isNon)) := id rfl
@[simp] theorem fIsNot_ev (x : T) : fIsNot x (.im .non) = some (.im (.bl (!x.isNon))) := id rfl
@[simp] theorem isNon_ml {xs : List T} : (T.ml xs).isNon = false := id rfl
end
section
variable {env e : Env3}
def kBl (v : EV) (e : Env3) : Out Bool := match v with
  | .im (.bl b) => .ok b e
  | _ => .stuck
@[simp] theorem kBl_ev (b : Bool) (e : Env3) : kBl (.im (.bl b)) e = .ok b e := id rfl
@[simp] theorem bVal_ev (f : M3 EV) (env : Env3) : bVal f env = (f env).bind kBl := by
  unfold bVal Out.bind kBl
  rcases f env with ⟨a, e⟩ | ⟨c, e⟩ | _
  · rcases a with w | t | ⟨k, π⟩
    · cases w <;> rfl
    · rfl
    · rfl
  · rfl
  · rfl
def kNot (b : Bool) (e : Env3) : Out Bool := .ok (!b) e
@[simp] theorem kNot_ev (b : Bool) (e : Env3) : kNot b e = .ok (!b) e := id rfl
@[simp] theorem bNot_ev (f : M3 Bool) (env : Env3) : bNot f env = (f env).bind kNot := by unfold bNot Out.bind kNot; cases f env <;> first | rfl | (dsimp only; split <;> simp_all)
def kAndB (k : M3 Bool) (b : Bool) (e : Env3) : Out Bool := if b = true then k e else .ok false e
@[simp] theorem kAndB_t (k : M3 Bool) (e : Env3) : kAndB k true e = k e := id rfl
@[simp] theorem kAndB_f (k : M3 Bool) (e : Env3) : kAndB k false e = .ok false e := id rfl
@[simp] theorem bAnd_ev (f k : M3 Bool) (env : Env3) : bAnd f k env = (f env).bind (kAndB k) := by unfold bAnd Out.bind kAndB; cases f env <;> first | rfl | (dsimp only; split <;> simp_all)
def kOrB (k : M3 Bool) (b : Bool) (e : Env3) : Out Bool := if b = true then .ok true e else k e
@[simp] theorem kOrB_f (k : M3 Bool) (e : Env3) : kOrB k false e = k e := id rfl
@[simp] theorem bOr_ev (f k : M3 Bool) (env : Env3) : bOr f k env = (f env).bind (kOrB k) := by unfold bOr Out.bind kOrB; cases f env <;> first | rfl | (dsimp only; split <;> simp_all)
def kAndE (k : M3 EV) (v : EV) (e : Env3) : Out EV := match v with
  | .im (.bl b) => if b = true then k e else .ok (.im (.bl false)) e
  | _ => .stuck
@[simp] theorem kAndE_t (k : M3 EV) (e : Env3) : kAndE k (.im (.bl true)) e = k e := id rfl
@[simp] theorem eAnd_ev (f k : M3 EV) (env : Env3) : eAnd f k env = (f env).bind (kAndE k) := by
  unfold eAnd Out.bind kAndE
  rcases f env with ⟨a, e⟩ | ⟨c, e⟩ | _
  · rcases a with w | t | ⟨k, π⟩
    · cases w <;> rfl
    · rfl
    · rfl
  · rfl
  · rfl
def kNotE (v : EV) (e : Env3) : Out EV := match v with
  | .im (.bl b) => .ok (.im (.bl (!b))) e
  | _ => .stuck
@[simp] theorem kNotE_ev (b : Bool) (e : Env3) : kNotE (.im (.bl b)) e = .ok (.im (.bl (!b))) e := id rfl
@[simp] theorem eNot_ev (f : M3 EV) (env : Env3) : eNot f env = (f env).bind kNotE := by
  unfold eNot Out.bind kNotE
  rcases f env with ⟨a, e⟩ | ⟨c, e⟩ | _
  · rcases a with w | t | ⟨k, π⟩
    · cases w <;> rfl
    · rfl
    · rfl
  · rfl
  · rfl
@[simp] theorem bYes_ev (env : Env3) : bYes env = .ok true env := id rfl
def kIsi (r : T → Option Bool) (v : EV) (e : Env3) : Out EV := oOk (((rd e v).bind r).map fun b => .im (.bl b)) e
@[simp] theorem kIsi_ev (r : T → Option Bool) (v : EV) (e : Env3) : kIsi r v e = oOk (((rd e v).bind r).map fun b => .im (.bl b)) e := id rfl
@[simp] theorem isiE_ev (r : T → Option Bool) (f : M3 EV) (env : Env3) : isiE r f env = (f env).bind (kIsi r) := by
  unfold isiE Out.bind kIsi
  rcases f env with ⟨a, e⟩ | ⟨c, e⟩ | _
  · show (match (rd e a).bind r with | some b => _ | none => _) = oOk (((rd e a).bind r).map _) e
    cases (rd e a).bind r <;> rfl
  · rfl
  · rfl
@[simp] theorem tyT_int {b : Int} : tyT (.im (.int b)) = some "int" := id rfl
@[simp] theorem tyT_str {b : String} : tyT (.im (.str b)) = some "str" := id rfl
@[simp] theorem tyT_tup {b : List W} : tyT (.im (.tup b)) = some "tuple" := id rfl
@[simp] theorem tyT_ml {b : List T} : tyT (.ml b) = some "list" := id rfl
end
end VL
namespace VL
open PySem L2
section
variable {env e : Env3}
@[simp] theorem rds_nil (env : Env3) : rds env [] = some [] := id rfl
@[simp] theorem rds_cons (v : EV) (r : List EV) (env : Env3) : rds env (v :: r) = (rd env v).bind fun t => (rds env r).map (t :: ·) := id rfl
@[simp] theorem disjE_nil : disjE [] = true := id rfl
@[simp] theorem disjE_im (w : W) (r : List EV) : disjE (.im w :: r) = disjE r := id rfl
@[simp] theorem disjE_tmp (w : T) (r : List EV) : disjE (.tmp w :: r) = disjE r := id rfl
@[simp] theorem disjE_ptr (k : Nat) (π : Path) (r : List EV) : disjE (.ptr k π :: r) = (r.all (fun x => !decide (slotE x = some k)) && disjE r) := id rfl
@[simp] theorem slotE_im (w : W) : slotE (.im w) = none := id rfl
@[simp] theorem slotE_ptr (k : Nat) (π : Path) : slotE (.ptr k π) = some k := id rfl
@[simp] theorem putL_nil (ts : List T) (env : Env3) : putL [] ts env = some env := id rfl
@[simp] theorem putL_im (w : W) (r : List EV) (t : T) (ts : List T) (env : Env3) : putL (.im w :: r) (t :: ts) env = putL r ts env := id rfl
@[simp] theorem putL_tmp (w : T) (r : List EV) (t : T) (ts : List T) (env : Env3) : putL (.tmp w :: r) (t :: ts) env = putL r ts env := id rfl
@[simp] theorem putL_ptr (k : Nat) (ρ : Path) (r : List EV) (t : T) (ts : List T) (env : Env3) : putL (.ptr k ρ :: r) (t :: ts) env = ob (wrS false k ρ t env) (putL r ts) := by rw [← ob_bind]; rfl
@[simp] theorem outE_im (evs : List EV) (ts : List T) (w : W) : outE evs ts (.im w) = some (.im w) := id rfl
@[simp] theorem outE_tmp (evs : List EV) (ts : List T) (w : T) : outE evs ts (.tmp w) = some (.tmp w) := id rfl
def kOut (ts : List T) (j : Nat) (π : Path) (o : Option EV) : Option EV := match o with
  | some (.ptr k ρ) => some (.ptr k (ρ ++ π))
  | some (.tmp _) => (ts[j]?).bind fun t => (t.getP π).map evOf
  | _ => none
@[simp] theorem outE_ptr (evs : List EV) (ts : List T) (j : Nat) (π : Path) : outE evs ts (.ptr j π) = kOut ts j π evs[j]? := by
  unfold outE kOut
  dsimp only
  rcases evs[j]? with _ | w | t | ⟨k, ρ⟩
  · rfl
  · rfl
  · dsimp only
    cases ts[j]? with
    | none => rfl
    | some t =>
      simp only [Option.bind_some]
      cases t.getP π with
      | none => rfl
      | some x => cases x <;> rfl
  · rfl
@[simp] theorem kOut_tmp (ts : List T) (j : Nat) (t : T) (π : Path) : kOut ts j π (some (.tmp t)) = (ts[j]?).bind fun t => (t.getP π).map evOf := id rfl
def kRet2 (ev : Option EV) (env : Option Env3) : Out EV := match env, ev with
  | some e, some v => .ok v e
  | _, _ => .stuck
@[simp] theorem kRet2_some (v : EV) (e : Env3) : kRet2 (some v) (some e) = .ok v e := id rfl
def kExc2 (c : String) (env : Option Env3) : Out EV := match env with
  | some e => .exc c e
  | _ => .stuck
def kRet (evs : List EV) (env : Env3) (o : FO) : Out EV := match o with
  | .ok ev ts' => kRet2 (outE evs ts' ev) (putL evs ts' env)
  | .exc c ts' => kExc2 c (putL evs ts' env)
  | .stuck => .stuck
@[simp] theorem kRet_ok (evs : List EV) (env : Env3) (ev : EV) (ts : List T) : kRet evs env (.ok ev ts) = kRet2 (outE evs ts ev) (putL evs ts env) := id rfl
def kCal (f : Fn) (evs : List EV) (env : Env3) (o : Option (List T)) : Out EV := match o with
  | none => .stuck
  | some ts => if disjE evs = true then kRet evs env (f ts) else .stuck
@[simp] theorem kCal_some (f : Fn) (evs : List EV) (ts : List T) (h : disjE evs = true) : kCal f evs env (some ts) = kRet evs env (f ts) := if_pos h
@[simp] theorem callF_ev (f : Fn) (evs : List EV) (env : Env3) : callF f evs env = kCal f evs env (rds env evs) := by
  unfold callF kCal kRet kRet2 kExc2
  cases rds env evs with
  | none => rfl
  | some ts =>
    simp only
    congr 1
    cases f ts with
    | ok ev ts' =>
      simp only
      cases putL evs ts' env with
      | none => cases outE evs ts' ev <;> rfl
      | some e => cases outE evs ts' ev <;> rfl
    | exc c ts' => dsimp only; cases putL evs ts' env <;> rfl
    | stuck => rfl
def kRetP (evs : List EV) (ts : List T) (env : Env3) (o : FO) : Out EV := match o with
  | .ok ev _ => kRet2 (outE evs ts ev) (some env)
  | .exc c _ => .exc c env
  | .stuck => .stuck
@[simp] theorem kRetP_ok (evs : List EV) (ts : List T) (env : Env3) (ev : EV) (ts' : List T) : kRetP evs ts env (.ok ev ts') = kRet2 (outE evs ts ev) (some env) := id rfl
def kCalP (f : Fn) (evs : List EV) (env : Env3) (o : Option (List T)) : Out EV := match o with
  | none => .stuck
  | some ts => if disjE evs = true then kRetP evs ts env (f ts) else .stuck
@[simp] theorem kCalP_some (f : Fn) (evs : List EV) (ts : List T) (h : disjE evs = true) : kCalP f evs env (some ts) = kRetP evs ts env (f ts) := if_pos h
@[simp] theorem callP_ev (f : Fn) (evs : List EV) (env : Env3) : callP f evs env = kCalP f evs env (rds env evs) := by
  unfold callP kCalP kRetP kRet2
  cases rds env evs with
  | none => rfl
  | some ts =>
    simp only
    congr 1
    cases f ts with
    | ok ev ts' =>
      simp only
      cases outE evs ts ev <;> rfl
    | exc c ts' => rfl
    | stuck => rfl
def kCall (n : Nat) (dws : List W) (f : Fn) (evs : List EV) (e : Env3) : Out EV := if evs.length + dws.length = n then callF f (evs ++ ime dws) e else .stuck
@[simp] theorem kCall_ev (n : Nat) (dws : List W) (f : Fn) (evs : List EV) (h : evs.length + dws.length = n) : kCall n dws f evs e = callF f (evs ++ ime dws) e := if_pos h
@[simp] theorem eCall_ev (n : Nat) (dws : List W) (f : Fn) (t : M3 (List EV)) (env : Env3) : eCall n dws f t env = (t env).bind (kCall n dws f) := by unfold eCall Out.bind kCall; cases t env <;> first | rfl | (dsimp only; split <;> simp_all)
def kCallP (n : Nat) (dws : List W) (f : Fn) (evs : List EV) (e : Env3) : Out EV := if evs.length + dws.length = n then callP f (evs ++ ime dws) e else .stuck
@[simp] theorem kCallP_ev (n : Nat) (dws : List W) (f : Fn) (evs : List EV) (h : evs.length + dws.length = n) : kCallP n dws f evs e = callP f (evs ++ ime dws) e := if_pos h
@[simp] theorem eCallP_ev (n : Nat) (dws : List W) (f : Fn) (t : M3 (List EV)) (env : Env3) : eCallP n dws f t env = (t env).bind (kCallP n dws f) := by unfold eCallP Out.bind kCallP; cases t env <;> first | rfl | (dsimp only; split <;> simp_all)
def kMth3 (n : Nat) (dws : List W) (f : Fn) (o : EV) (evs : List EV) (e : Env3) : Out EV := if evs.length + dws.length + 1 = n then callF f (o :: (evs ++ ime dws)) e else .stuck
def kMth2 (n : Nat) (dws : List W) (o : EV) (t : M3 (List EV)) (e1 : Env3) (of : Option Fn) : Out EV := match of with
  | some f => (pendB o t e1).bind (kMth3 n dws f o)
  | none => .stuck
def kMth1 (m : String) (n : Nat) (dws : List W) (tab : String → Option Fn) (o : EV) (t : M3 (List EV)) (e1 : Env3) (x : Option (String × List String)) : Out EV := match x with
  | some (C, ns) => if m ∈ ns then .stuck else kMth2 n dws o t e1 (tab C)
  | none => .stuck
def kMthP3 (n : Nat) (dws : List W) (f : Fn) (o : EV) (evs : List EV) (e : Env3) : Out EV := if evs.length + dws.length + 1 = n then callP f (o :: (evs ++ ime dws)) e else .stuck
@[simp] theorem kMthP3_ev (n : Nat) (dws : List W) (f : Fn) (o : EV) (evs : List EV) (h : evs.length + dws.length + 1 = n) : kMthP3 n dws f o evs e = callP f (o :: (evs ++ ime dws)) e := if_pos h
def kMthP2 (n : Nat) (dws : List W) (o : EV) (t : M3 (List EV)) (e1 : Env3) (of : Option Fn) : Out EV := match of with
  | some f => (pendB o t e1).bind (kMthP3 n dws f o)
  | none => .stuck
@[simp] theorem kMthP2_some (n : Nat) (dws : List W) (o : EV) (t : M3 (List EV)) (e1 : Env3) (f : Fn) : kMthP2 n dws o t e1 (some f) = (pendB o t e1).bind (kMthP3 n dws f o) := id rfl
def kMthP1 (m : String) (n : Nat) (dws : List W) (tab : String → Option Fn) (o : EV) (t : M3 (List EV)) (e1 : Env3) (x : Option (String × List String)) : Out EV := match x with
  | some (C, ns) => if m ∈ ns then .stuck else kMthP2 n dws o t e1 (tab C)
  | none => .stuck
@[simp] theorem kMthP1_some (m : String) (n : Nat) (dws : List W) (tab : String → Option Fn) (o : EV) (t : M3 (List EV)) (e1 : Env3) (C : String) (ns : List String) (h : m ∉ ns) : kMthP1 m n dws tab o t e1 (some (C, ns)) = kMthP2 n dws o t e1 (tab C) := if_neg h
def kMthP (m : String) (n : Nat) (dws : List W) (tab : String → Option Fn) (t : M3 (List EV)) (o : EV) (e1 : Env3) : Out EV := kMthP1 m n dws tab o t e1 ((rd e1 o).bind clsT)
@[simp] theorem kMthP_ev (m : String) (n : Nat) (dws : List W) (tab : String → Option Fn) (t : M3 (List EV)) (o : EV) (e1 : Env3) : kMthP m n dws tab t o e1 = kMthP1 m n dws tab o t e1 ((rd e1 o).bind clsT) := id rfl
@[simp] theorem eMethP_ev (m : String) (n : Nat) (dws : List W) (tab : String → Option Fn) (fo : M3 EV) (t : M3 (List EV)) (env : Env3) : eMethP m n dws tab fo t env = (fo env).bind (kMthP m n dws tab t) := by
  unfold eMethP Out.bind kMthP kMthP1
  cases fo env with
  | ok o e1 =>
    dsimp only
    rcases (rd e1 o).bind clsT with _ | ⟨C, ns⟩
    · rfl
    · dsimp only
      congr 1
      unfold kMthP2
      cases tab C with
      | none => rfl
      | some f =>
        dsimp only
        unfold Out.bind kMthP3
        cases pendB o t e1 <;> rfl
  | exc c e => rfl
  | stuck => rfl
def kMk (o : FO) : FO := match o with
  | .ok (.im .non) ts' => .ok (.ptr 0 []) ts'
  | .ok _ _ => .stuck
  | .exc c ts' => .exc c ts'
  | .stuck => .stuck
@[simp] theorem mkF_ev (f : Fn) (ts : List T) : mkF f ts = kMk (f ts) := by unfold mkF kMk; rfl
@[simp] theorem kMk_ok (ts : List T) : kMk (.ok (.im .non) ts) = .ok (.ptr 0 []) ts := id rfl
def kMake (C : String) (n : Nat) (dws : List W) (f : Fn) (evs : List EV) (e : Env3) : Out EV := if evs.length + dws.length + 1 = n then callF (mkF f) (.tmp (.mi C []) :: (evs ++ ime dws)) e else .stuck
@[simp] theorem kMake_ev (C : String) (n : Nat) (dws : List W) (f : Fn) (evs : List EV) (h : evs.length + dws.length + 1 = n) : kMake C n dws f evs e = callF (mkF f) (.tmp (.mi C []) :: (evs ++ ime dws)) e := if_pos h
@[simp] theorem eMake_ev (C : String) (n : Nat) (dws : List W) (f : Fn) (t : M3 (List EV)) (env : Env3) : eMake C n dws f t env = (t env).bind (kMake C n dws f) := by unfold eMake Out.bind kMake; cases t env <;> first | rfl | (dsimp only; split <;> simp_all)
def kFrz (v : EV) (e : Env3) : Out EV := match v with
  | .tmp t => oOk ((frzT t).map EV.im) e
  | .im w => .ok (.im w) e
  | _ => .stuck
@[simp] theorem kFrz_tmp (t : T) (e : Env3) : kFrz (.tmp t) e = oOk ((frzT t).map EV.im) e := id rfl
@[simp] theorem eFrz_ev (f : M3 EV) (env : Env3) : eFrz f env = (f env).bind kFrz := by
  unfold eFrz Out.bind kFrz
  rcases f env with ⟨a, e⟩ | ⟨c, e⟩ | _
  · rcases a with w | t | ⟨k, π⟩
    · rfl
    · show (match frzT t with | some w => _ | none => _) = oOk ((frzT t).map EV.im) e
      cases frzT t <;> rfl
    · rfl
  · rfl
  · rfl
@[simp] theorem frzT_im (w : W) : frzT (.im w) = some w := by simp [frzT]
@[simp] theorem frzT_mi (C : String) (fs : List (String × T)) : frzT (.mi C fs) = (frzTf fs).map (.ins C) := by simp [frzT]
@[simp] theorem frzTf_nil : frzTf [] = some [] := by simp [frzTf]
@[simp] theorem frzTf_cons (f : String) (x : T) (xs : List (String × T)) : frzTf ((f, x) :: xs) = (frzT x).bind fun y => (frzTf xs).map ((f, y) :: ·) := by simp [frzTf]
def kFrzL (v : EV) (e : Env3) : Out EV := match v with
  | .tmp (.ml xs) => .ok (match allI xs with
    | some ws => .im (.lst ws)
    | none => .tmp (.ml xs)) e
  | v => .ok v e
@[simp] theorem kFrzL_im (w : W) (e : Env3) : kFrzL (.im w) e = .ok (.im w) e := id rfl
@[simp] theorem eFrzL_ev (f : M3 EV) (env : Env3) : eFrzL f env = (f env).bind kFrzL := by
  unfold eFrzL Out.bind kFrzL
  rcases f env with ⟨a, e⟩ | ⟨c, e⟩ | _
  · rcases a with w | t | ⟨k, π⟩
    · rfl
    · cases t with
      | ml xs =>
        dsimp only [frzL]
        cases allI xs <;> rfl
      | _ => rfl
    · rfl
  · rfl
  · rfl
@[simp] theorem allI_nil : allI [] = some [] := id rfl
@[simp] theorem allI_cons (w : W) (r : List T) : allI (.im w :: r) = (allI r).map (w :: ·) := id rfl
@[simp] theorem allI_ims (ws : List W) : allI (ims ws) = some ws := by
  induction ws with
  | nil => rfl
  | cons w r ih => simp [ih]
def kFz (xs : List T) (o : Option (List W)) : EV := match o with
  | some ws => .im (.lst ws)
  | none => .tmp (.ml xs)
@[simp] theorem kFz_some (xs : List T) (ws : List W) : kFz xs (some ws) = .im (.lst ws) := id rfl
@[simp] theorem kFrzL_ml (xs : List T) (e : Env3) : kFrzL (.tmp (.ml xs)) e = .ok (kFz xs (allI xs)) e := by
  rcases h : allI xs with _ | ws <;> simp [kFrzL, kFz, h]
@[simp] theorem startS_im (w : W) : startS (.im w) = some (.val w) := id rfl
@[simp] theorem startS_mi (C : String) (fs : List (String × T)) : startS (.mi C fs) = some (.own true [] (.mi C fs)) := id rfl
@[simp] theorem startSP_im (w : W) : startSP (.im w) = some (.val w) := id rfl
@[simp] theorem startSP_ml (xs : List T) : startSP (.ml xs) = some (.own true (pthT (.ml xs)) (.ml xs)) := id rfl
@[simp] theorem startSP_md (kvs : List (Ky × T)) : startSP (.md kvs) = some (.own true (pthT (.md kvs)) (.md kvs)) := id rfl
@[simp] theorem startE_ev (N : Nat) (ts : List T) : startE N ts = ts.map startS ++ List.replicate (N - ts.length) none := id rfl
@[simp] theorem startP_ev (N : Nat) (ts : List T) : startP N ts = ts.map startSP ++ List.replicate (N - ts.length) none := id rfl
@[simp] theorem argsO_nil (env : Env3) (i : Nat) : argsO env i [] = some [] := by unfold argsO; rfl
@[simp] theorem argsO_im (env : Env3) (i : Nat) (w : W) (ts : List T) : argsO env i (.im w :: ts) = (argsO env (i + 1) ts).map (T.im w :: ·) := by conv => lhs; unfold argsO
def kArg (s : Option (Option SV)) (r : Option (List T)) : Option (List T) := match s with
  | some (some (SV.own true _ t')) => r.map (t' :: ·)
  | _ => none
@[simp] theorem kArg_own (L : List Path) (t : T) (r : Option (List T)) : kArg (some (some (.own true L t))) r = r.map (t :: ·) := id rfl
theorem argsO_mut (env : Env3) (i : Nat) (t : T) (ts : List T) (h : ∀ w, t ≠ .im w) : argsO env i (t :: ts) = kArg env[i]? (argsO env (i + 1) ts) := by
  cases t with
  | im w => exact absurd rfl (h w)
  | _ => conv => lhs; unfold argsO
         rfl
@[simp] theorem argsO_mi (env : Env3) (i : Nat) (C : String) (xs : List (String × T)) (ts : List T) : argsO env i (.mi C xs :: ts) = kArg env[i]? (argsO env (i + 1) ts) := argsO_mut _ _ _ _ (by intro w h; cases h)
@[simp] theorem retE_im (env : Env3) (w : W) : retE env (.im w) = some (.im w) := id rfl
def kFin (a : Option (List T)) (v : Option EV) : FO := match a, v with
  | some ts, some v => .ok v ts
  | _, _ => .stuck
@[simp] theorem kFin_some (ts : List T) (v : EV) : kFin (some ts) (some v) = .ok v ts := id rfl
@[simp] theorem finF_ev (v : EV) (e : Env3) (ts : List T) : finF v e ts = kFin (argsO e 0 ts) (retE e v) := by
  unfold finF kFin
  cases argsO e 0 ts with
  | none => rfl
  | some a => cases retE e v <;> rfl
def kFinX (a : Option (List T)) (c : String) : FO := match a with
  | some ts => .exc c ts
  | _ => .stuck
def kBody (ts : List T) (o : SO3) : FO := match o with
  | .nx e => finF (.im .non) e ts
  | .rt v e => finF v e ts
  | .ex c e => kFinX (argsO e 0 ts) c
  | _ => .stuck
@[simp] theorem kBody_nx (ts : List T) (e : Env3) : kBody ts (.nx e) = finF (.im .non) e ts := id rfl
@[simp] theorem kBody_rt (ts : List T) (v : EV) (e : Env3) : kBody ts (.rt v e) = finF v e ts := id rfl
theorem bodyF_ev (N : Nat) (m : S3) (ts : List T) : bodyF N m ts = kBody ts (m (startE N ts)) := by
  unfold bodyF kBody kFinX
  cases m (startE N ts) with
  | ex c e => dsimp only; cases argsO e 0 ts <;> rfl
  | _ => rfl
@[simp] theorem retP_im (env : Env3) (ts : List T) (w : W) : retP env ts (.im w) = some (.im w) := id rfl
@[simp] theorem retP_tmp (env : Env3) (ts : List T) (t : T) : retP env ts (.tmp t) = some (.tmp t) := id rfl
open Classical in
noncomputable def kRetP' (ts : List T) (k : Nat) (π : Path) (s : Option (Option SV)) : Option EV := match s with
  | some (some (SV.own true _ t)) => if ts[k]? = some t then some (.ptr k π) else none
  | some (some (SV.own false [] t)) => (t.getP π).map evOf
  | _ => none
@[simp] theorem retP_ptr (env : Env3) (ts : List T) (k : Nat) (π : Path) : retP env ts (.ptr k π) = kRetP' ts k π env[k]? := by
  unfold retP kRetP'
  dsimp only
  rcases env[k]? with _ | _ | w | ⟨p, L, t⟩ | _ | _
  · rfl
  · rfl
  · rfl
  · cases p with
    | false =>
      cases L with
      | nil =>
        dsimp only
        cases t.getP π with
        | none => rfl
        | some x => cases x <;> rfl
      | cons _ _ => rfl
    | true => rfl
  · rfl
  · rfl
@[simp] theorem kRetP'_f (ts : List T) (k : Nat) (π : Path) (t : T) : kRetP' ts k π (some (some (.own false [] t))) = (t.getP π).map evOf := id rfl
def kFinP (ts : List T) (v : Option EV) : FO := match v with
  | some v => .ok v ts
  | _ => .stuck
@[simp] theorem kFinP_some (ts : List T) (v : EV) : kFinP ts (some v) = .ok v ts := id rfl
noncomputable def kBodyP (ts : List T) (o : SO3) : FO := match o with
  | .nx e => .ok (.im .non) ts
  | .rt v e => kFinP ts (retP e ts v)
  | .ex c e => .exc c ts
  | _ => .stuck
@[simp] theorem kBodyP_rt (ts : List T) (v : EV) (e : Env3) : kBodyP ts (.rt v e) = kFinP ts (retP e ts v) := id rfl
theorem bodyP_ev (N : Nat) (m : S3) (ts : List T) : bodyP N m ts = kBodyP ts (m (startP N ts)) := by
  unfold bodyP kBodyP finP kFinP
  cases m (startP N ts) with
  | rt v e => dsimp only; cases retP e ts v <;> rfl
  | nx e => rfl
  | _ => rfl
end
section
variable {env e : Env3}
@[simp] theorem toT_im (w : W) : toT (.im w) = some (.im w) := id rfl
@[simp] theorem toT_tmp (t : T) : toT (.tmp t) = some t := id rfl
@[simp] theorem toTs_nil : toTs [] = some [] := id rfl
@[simp] theorem toTs_cons (v : EV) (r : List EV) : toTs (v :: r) = (toT v).bind fun t => (toTs r).map (t :: ·) := id rfl
@[simp] theorem allW_nil : allW [] = some [] := id rfl
@[simp] theorem allW_im (w : W) (r : List EV) : allW (.im w :: r) = (allW r).map (w :: ·) := id rfl
@[simp] theorem allW_tmp (w : T) (r : List EV) : allW (.tmp w :: r) = none := id rfl
def kTupE (evs : List EV) (o : Option (List W)) : Option EV := match o with
  | some ws => some (.im (.tup ws))
  | none => (toTs evs).map fun ts => .tmp (.tp ts)
@[simp] theorem tupE_ev (evs : List EV) : tupE evs = kTupE evs (allW evs) := by unfold tupE kTupE; rfl
@[simp] theorem kTupE_some (evs : List EV) (ws : List W) : kTupE evs (some ws) = some (.im (.tup ws)) := id rfl
@[simp] theorem kTupE_none (evs : List EV) : kTupE evs none = (toTs evs).map fun ts => .tmp (.tp ts) := id rfl
def kTupX (evs : List EV) (e : Env3) : Out EV := if evs.length ≤ 10000000 then oOk (tupE evs) e else .stuck
@[simp] theorem kTupX_ev (evs : List EV) (h : evs.length ≤ 10000000) : kTupX evs e = oOk (tupE evs) e := if_pos h
@[simp] theorem eTup_ev (t : M3 (List EV)) (env : Env3) : eTup t env = (t env).bind kTupX := by unfold eTup Out.bind kTupX oOk; cases t env with
  | ok a e => dsimp only; congr 1; cases tupE a <;> rfl
  | exc c e => rfl
  | stuck => rfl
def kLst (evs : List EV) (e : Env3) : Out EV := if evs.length ≤ 10000000 then oOk ((toTs evs).map fun ts => .tmp (.ml ts)) e else .stuck
@[simp] theorem kLst_ev (evs : List EV) (h : evs.length ≤ 10000000) : kLst evs e = oOk ((toTs evs).map fun ts => .tmp (.ml ts)) e := if_pos h
@[simp] theorem eLst_ev (t : M3 (List EV)) (env : Env3) : eLst t env = (t env).bind kLst := by
  unfold eLst Out.bind kLst
  rcases t env with ⟨a, e⟩ | ⟨c, e⟩ | _
  · simp only
    congr 1
    cases toTs a <;> rfl
  · rfl
  · rfl
@[simp] theorem kidEV_im (o : EV) (st : Step) (w : W) : kidEV o st (.im w) = .im w := id rfl
theorem kidEV_tmp (u : T) (st : Step) (t : T) : kidEV (.tmp u) st t = evOf t := by cases t <;> rfl
@[simp] theorem fget_cons {α : Type} (f g : String) (w : α) (r : List (String × α)) : fget f ((g, w) :: r) = if g = f then some w else fget f r := id rfl
@[simp] theorem fput_nil {α : Type} (f : String) (x : α) : fput f x [] = [(f, x)] := id rfl
@[simp] theorem fput_cons {α : Type} (f g : String) (x y : α) (r : List (String × α)) : fput f x ((g, y) :: r) = if g = f then (g, x) :: r else (g, y) :: fput f x r := id rfl
theorem kid_mi (C : String) (f : String) : ∀ fs : List (String × T), (T.mi C fs).kid (.fld f) = fget f fs := by
  intro fs
  show (fs.findIdx? fun q => decide (q.1 = f)).bind (fun i => (fs.map (·.2))[i]?) = fget f fs
  induction fs with
  | nil => rfl
  | cons q r ih =>
    obtain ⟨g, w⟩ := q
    simp only [List.findIdx?_cons, fget]
    by_cases h : g = f
    · simp [h]
    · simp only [h, decide_false, Bool.false_eq_true, if_false]
      rw [← ih]
      cases (r.findIdx? fun q => decide (q.1 = f)) <;> simp
@[simp] theorem setP_nil (t x : T) : t.setP [] x = some x := by unfold T.setP; rfl
def kFldE (f : String) (o : EV) (t : Option T) : Option (String × EV) := match t with
  | some (.im (.ins C fs)) => (fget f fs).map fun w => (C, .im w)
  | some (.mi C fs) => (fget f fs).map fun c => (C, kidEV o (.fld f) c)
  | _ => none
@[simp] theorem fldE_ev (f : String) (o : EV) (env : Env3) : fldE f o env = kFldE f o (rd env o) := by
  unfold fldE kFldE
  split <;> simp_all [kid_mi]
@[simp] theorem kFldE_ins (f : String) (o : EV) (C : String) (fs : List (String × W)) : kFldE f o (some (.im (.ins C fs))) = (fget f fs).map fun w => (C, .im w) := id rfl
def kFld2 (L : List String) (x : Option (String × EV)) (e : Env3) : Out EV := match x with
  | some (C, ev) => if C ∈ L then .ok ev e else .stuck
  | none => .stuck
@[simp] theorem kFld2_some (L : List String) (C : String) (ev : EV) (e : Env3) (h : C ∈ L) : kFld2 L (some (C, ev)) e = .ok ev e := if_pos h
def kFld (L : List String) (f : String) (o : EV) (e : Env3) : Out EV := kFld2 L (fldE f o e) e
@[simp] theorem kFld_ev (L : List String) (f : String) (o : EV) (e : Env3) : kFld L f o e = kFld2 L (fldE f o e) e := id rfl
@[simp] theorem eFld_ev (L : List String) (f : String) (fo : M3 EV) (env : Env3) : eFld L f fo env = (fo env).bind (kFld L f) := by
  unfold eFld Out.bind kFld kFld2; cases fo env <;> first | rfl | (dsimp only; split <;> simp_all)
@[simp] theorem ixN_nat (n k : Nat) (h : k < n) : ixN n (k : Int) = some k := by
  unfold ixN; rw [if_pos (by omega), if_pos (by omega)]; simp
theorem ixN_int (n : Nat) (i : Int) (h0 : 0 ≤ i) (h : i < n) : ixN n i = some i.toNat := by
  unfold ixN; rw [if_pos h0, if_pos h]
theorem atI_int {α : Type} {xs : List α} {i : Int} (h0 : 0 ≤ i) (h : i < xs.length) : atI xs i = xs[i.toNat]? := by
  unfold atI; rw [ixN_int _ _ h0 h]; rfl
@[simp] theorem seqW_tup (ws : List W) : seqW (.tup ws) = some ws := id rfl
@[simp] theorem seqW_lst (ws : List W) : seqW (.lst ws) = some ws := id rfl
@[simp] theorem seqW_scr (ws : List W) : seqW (.scr ws) = some ws := id rfl
@[simp] theorem ixI_tup (ob : EV) (ws : List W) (i : Int) : ixI ob (.im (.tup ws)) i = (atI ws i).map EV.im := id rfl
@[simp] theorem ixI_lst (ob : EV) (ws : List W) (i : Int) : ixI ob (.im (.lst ws)) i = (atI ws i).map EV.im := id rfl
@[simp] theorem ixI_scr (ob : EV) (ws : List W) (i : Int) : ixI ob (.im (.scr ws)) i = (atI ws i).map EV.im := id rfl
@[simp] theorem ixI_tp (ob : EV) (xs : List T) (i : Int) : ixI ob (.tp xs) i = (ixN xs.length i).bind fun j => (xs[j]?).map (kidEV ob (.idx j)) := id rfl
@[simp] theorem ixE_int (ob : EV) (i : Int) (env : Env3) : ixE ob (.im (.int i)) env = (rd env ob).bind fun x => ixI ob x i := id rfl
def kCB (r : FC) (evs : List EV) (e : Env3) : Out EV := oOk (r evs e) e
@[simp] theorem kCB_ev (r : FC) (evs : List EV) (e : Env3) : kCB r evs e = oOk (r evs e) e := id rfl
@[simp] theorem eCB_ev (r : FC) (t : M3 (List EV)) (env : Env3) : eCB r t env = (t env).bind (kCB r) := by unfold eCB Out.bind kCB oOk; cases t env <;> first | rfl | (dsimp only; split <;> simp_all)
@[simp] theorem seqT_im (w : W) : seqT (.im w) = (seqW w).map fun ws => ims ws := id rfl
@[simp] theorem lenT_ml (xs : List T) : lenT (.ml xs) = some xs.length := id rfl
@[simp] theorem lenT_tup (xs : List W) : lenT (.im (.tup xs)) = some xs.length := by simp [lenT]
@[simp] theorem lenT_scr (xs : List W) : lenT (.im (.scr xs)) = some xs.length := by simp [lenT]
@[simp] theorem rI1_ev (f : Int → W) (i : Int) (env : Env3) : rI1 f [.im (.int i)] env = some (.im (f i)) := id rfl
@[simp] theorem rI2_ev (f : Int → Int → W) (i j : Int) (env : Env3) : rI2 f [.im (.int i), .im (.int j)] env = some (.im (f i j)) := id rfl
@[simp] theorem flatT_im (w : W) : flatT (.im w) = seqW w := by unfold flatT; cases h : seqW w <;> simp [seqT, h, map_im]
@[simp] theorem flatT_ml (xs : List T) : flatT (.ml xs) = allI xs := id rfl
@[simp] theorem rList3_ev (v : EV) (env : Env3) : rList3 [v] env = (rd env v).bind fun x => (flatT x).map fun ws => .tmp (.ml (ims ws)) := id rfl
@[simp] theorem rowL_lst (xs : List W) : rowL (.im (.lst xs)) = some xs := id rfl
@[simp] theorem oNo_ev (env : Env3) : oNo env = .ok none env := id rfl
def kPart (v : EV) (e : Env3) : Out (Option Int) := match v with
  | .im (.int i) => .ok (some i) e
  | _ => .stuck
@[simp] theorem kPart_ev (i : Int) (e : Env3) : kPart (.im (.int i)) e = .ok (some i) e := id rfl
@[simp] theorem oPart_ev (f : M3 EV) (env : Env3) : oPart f env = (f env).bind kPart := by
  unfold oPart Out.bind kPart
  rcases f env with ⟨a, e⟩ | ⟨c, e⟩ | _
  · rcases a with w | t | ⟨k, π⟩
    · cases w <;> rfl
    · rfl
    · rfl
  · rfl
  · rfl
def kSl2 (l : Option Int) (h : Option Int) (e : Env3) : Out (Option Int × Option Int) := .ok (l, h) e
@[simp] theorem kSl2_ev (l h : Option Int) (e : Env3) : kSl2 l h e = .ok (l, h) e := id rfl
def kSl1 (fh : MO) (l : Option Int) (e : Env3) : Out (Option Int × Option Int) := (fh e).bind (kSl2 l)
@[simp] theorem kSl1_ev (fh : MO) (l : Option Int) (e : Env3) : kSl1 fh l e = (fh e).bind (kSl2 l) := id rfl
def mSl (fl fh : MO) : M3 (Option Int × Option Int) := fun e => (fl e).bind (kSl1 fh)
@[simp] theorem mSl_ev (fl fh : MO) (e : Env3) : mSl fl fh e = (fl e).bind (kSl1 fh) := id rfl
def kSl3 (o : EV) (p : Option Int × Option Int) (e : Env3) : Out EV := oOk ((rd e o).bind fun x => cutX x p.1 p.2) e
@[simp] theorem kSl3_ev (o : EV) (l h : Option Int) (e : Env3) : kSl3 o (l, h) e = oOk ((rd e o).bind fun x => cutX x l h) e := id rfl
def kSl (fl fh : MO) (o : EV) (e1 : Env3) : Out EV := (pendB o (mSl fl fh) e1).bind (kSl3 o)
@[simp] theorem kSl_ev (fl fh : MO) (o : EV) (e1 : Env3) : kSl fl fh o e1 = (pendB o (mSl fl fh) e1).bind (kSl3 o) := id rfl
@[simp] theorem eSl_ev (fo : M3 EV) (fl fh : MO) (env : Env3) : eSl fo fl fh env = (fo env).bind (kSl fl fh) := by
  unfold eSl Out.bind kSl
  rcases fo env with ⟨a, e⟩ | ⟨c, e⟩ | _
  · show _ = (pendB a (mSl fl fh) e).bind (kSl3 a)
    have : (fun e => match fl e with
      | .ok l e' => (match fh e' with
        | .ok h e'' => Out.ok (l, h) e''
        | .exc c e'' => .exc c e''
        | .stuck => .stuck)
      | .exc c e' => .exc c e'
      | .stuck => .stuck) = mSl fl fh := by
      funext e; unfold mSl kSl1 kSl2 Out.bind; cases fl e with
      | ok l e1 => dsimp only; cases fh e1 <;> rfl
      | exc c e1 => rfl
      | stuck => rfl
    have aux : ∀ m, m = mSl fl fh → (match pendB a m e with
      | .ok (l, h) e2 => (match (rd e2 a).bind fun x => cutX x l h with
        | some ev => Out.ok ev e2
        | none => .stuck)
      | .exc c e2 => .exc c e2
      | .stuck => .stuck) = (pendB a (mSl fl fh) e).bind (kSl3 a) := by
      intro m hm
      subst hm
      unfold Out.bind kSl3 oOk
      cases pendB a (mSl fl fh) e with
      | ok p e2 =>
        obtain ⟨l, h⟩ := p
        dsimp only
        cases (rd e2 a).bind fun x => cutX x l h <;> rfl
      | exc c e2 => rfl
      | stuck => rfl
    exact aux _ this
  · rfl
  · rfl
@[simp] theorem cutX_tup (ws : List W) (l h : Option Int) : cutX (.im (.tup ws)) l h = some (.im (.tup (cutA ws l h))) := id rfl
@[simp] theorem cutX_ml (xs : List T) (l h : Option Int) : cutX (.ml xs) l h = (allI xs).map fun ws => .tmp (.ml (ims (cutA ws l h))) := id rfl
theorem cutA_take {α : Type} (xs : List α) (k : Nat) : cutA xs none (some (k : Int)) = xs.take k := by
  unfold cutA
  have e : ∀ n d k : Nat, HT.sIx n d (some (k : Int)) = min k n := fun n d k => by
    show (if (k : Int) < 0 then ((k : Int) + (n : Int)).toNat else min (k : Int).toNat n) = min k n
    rw [if_neg (by omega), Int.toNat_natCast]
  rw [e]
  show ((xs.drop 0).take (min k xs.length - 0)) = _
  simp [List.take_eq_take_iff]
theorem cutA_drop {α : Type} (xs : List α) (k : Nat) : cutA xs (some (k : Int)) none = xs.drop k := by
  unfold cutA
  have e : ∀ n d k : Nat, HT.sIx n d (some (k : Int)) = min k n := fun n d k => by
    show (if (k : Int) < 0 then ((k : Int) + (n : Int)).toNat else min (k : Int).toNat n) = min k n
    rw [if_neg (by omega), Int.toNat_natCast]
  rw [e]
  show ((xs.drop (min k xs.length)).take (xs.length - min k xs.length)) = _
  rw [List.take_of_length_le (by simp)]
  by_cases h : k ≤ xs.length
  · rw [Nat.min_eq_left h]
  · rw [Nat.min_eq_right (by omega), List.drop_eq_nil_of_le (Nat.le_refl _), List.drop_eq_nil_of_le (by omega)]
def kBM2 (r : FM) (o : EV) (evs : List EV) (e : Env3) : Out EV := match r o evs e with
  | some (ev, e3) => .ok ev e3
  | none => .stuck
def kFM (x : Option (EV × Env3)) : Out EV := match x with
  | some (ev, e3) => .ok ev e3
  | none => .stuck
@[simp] theorem kFM_some (v : EV) (e : Env3) : kFM (some (v, e)) = .ok v e := id rfl
@[simp] theorem kBM2_ev (r : FM) (o : EV) (evs : List EV) (e : Env3) : kBM2 r o evs e = kFM (r o evs e) := by unfold kBM2 kFM; cases r o evs e <;> rfl
def kBM (is : T → Bool) (r : FM) (t : M3 (List EV)) (o : EV) (e1 : Env3) : Out EV := if (rd e1 o).any is = true then (pendB o t e1).bind (kBM2 r o) else .stuck
def kBM1 (is : T → Bool) (r : FM) (t : M3 (List EV)) (o : EV) (e1 : Env3) (x : Option T) : Out EV := if x.any is = true then (pendB o t e1).bind (kBM2 r o) else .stuck
@[simp] theorem kBM1_some (is : T → Bool) (r : FM) (t : M3 (List EV)) (o : EV) (e1 : Env3) (x : T) (h : is x = true) : kBM1 is r t o e1 (some x) = (pendB o t e1).bind (kBM2 r o) := by
  unfold kBM1; simp [h]
@[simp] theorem kBM_ev (is : T → Bool) (r : FM) (t : M3 (List EV)) (o : EV) (e1 : Env3) : kBM is r t o e1 = kBM1 is r t o e1 (rd e1 o) := id rfl
@[simp] theorem eBM_ev (is : T → Bool) (r : FM) (fo : M3 EV) (t : M3 (List EV)) (env : Env3) : eBM is r fo t env = (fo env).bind (kBM is r t) := by
  unfold eBM Out.bind kBM kBM2 Out.bind; cases fo env with
  | ok a e => dsimp only; congr 1; cases pendB a t e <;> first | rfl | (dsimp only; split <;> simp_all)
  | exc c e => rfl
  | stuck => rfl
@[simp] theorem isList_ml (xs : List T) : isList (.ml xs) = true := id rfl
@[simp] theorem putE_ptr (kp : Bool) (k : Nat) (ρ : Path) (y : T) (env : Env3) : putE kp (.ptr k ρ) y env = wrS kp k ρ y env := id rfl
def kWr (kp : Bool) (k : Nat) (ρ : Path) (y : T) (s : Option (Option SV)) (env : Env3) : Option Env3 := match s with
  | some (some (SV.own p L t)) => if lockOk L ρ = true then (t.setP ρ y).map fun t' => wrE kp k ρ p L t' env else none
  | _ => none
@[simp] theorem wrS_ev (kp : Bool) (k : Nat) (ρ : Path) (y : T) (env : Env3) : wrS kp k ρ y env = kWr kp k ρ y env[k]? env := by unfold wrS kWr; rfl
@[simp] theorem kWr_own (kp : Bool) (k : Nat) (ρ : Path) (y : T) (p : Bool) (L : List Path) (t : T) (h : lockOk L ρ = true) : kWr kp k ρ y (some (some (.own p L t))) env = (t.setP ρ y).map fun t' => wrE kp k ρ p L t' env := if_pos h
@[simp] theorem lockOk_nil (ρ : Path) : lockOk [] ρ = true := id rfl
@[simp] theorem wrE_t (k : Nat) (ρ : Path) (p : Bool) (L : List Path) (t : T) (env : Env3) : wrE true k ρ p L t env = env.set k (some (SV.own p L t)) := id rfl
@[simp] theorem wrE_f (k : Nat) (ρ : Path) (p : Bool) (L : List Path) (t : T) (env : Env3) : wrE false k ρ p L t env = (env.map (killP k ρ)).set k (some (SV.own p L t)) := id rfl
@[simp] theorem killP_val (k : Nat) (ρ : Path) (w : W) : killP k ρ (some (.val w)) = some (.val w) := id rfl
@[simp] theorem killP_none (k : Nat) (ρ : Path) : killP k ρ none = none := id rfl
@[simp] theorem killP_own (k : Nat) (ρ : Path) (p : Bool) (L : List Path) (t : T) : killP k ρ (some (.own p L t)) = some (.own p L t) := id rfl
@[simp] theorem killP_jk (k : Nat) (ρ : Path) (j : Option W) : killP k ρ (jk j) = jk j := by cases j <;> rfl
def kAppend (ob ev : EV) (x : Option T) (env : Env3) : Option (EV × Env3) := match x with
  | some (.ml xs) => if xs.length < 10000000 then (toT ev).bind fun x => (putE true ob (.ml (xs ++ [x])) env).map fun e => (.im .non, e) else none
  | _ => none
@[simp] theorem rAppend3_ev (ob ev : EV) (env : Env3) : rAppend3 ob [ev] env = kAppend ob ev (rd env ob) env := by unfold rAppend3 kAppend; rfl
@[simp] theorem kAppend_ml (ob ev : EV) (xs : List T) (h : xs.length < 10000000) : kAppend ob ev (some (.ml xs)) env = (toT ev).bind fun x => (putE true ob (.ml (xs ++ [x])) env).map fun e => (.im .non, e) := if_pos h
def kPop (ob : EV) (x : Option T) (env : Env3) : Option (EV × Env3) := match x with
  | some (.ml (x :: xs)) => (putE false ob (.ml xs) env).map fun e => (evOf x, e)
  | _ => none
def kTrip2 (x : EV) (p : EV × EV) (e : Env3) : Out (EV × EV × EV) := .ok (x, p.1, p.2) e
@[simp] theorem kTrip2_ev (x y z : EV) (e : Env3) : kTrip2 x (y, z) e = .ok (x, y, z) e := id rfl
def kTrip (b c : M3 EV) (x : EV) (e : Env3) : Out (EV × EV × EV) := (pendB x (ePair b c) e).bind (kTrip2 x)
@[simp] theorem kTrip_ev (b c : M3 EV) (x : EV) (e : Env3) : kTrip b c x e = (pendB x (ePair b c) e).bind (kTrip2 x) := id rfl
@[simp] theorem eTrip_ev (a b c : M3 EV) (env : Env3) : eTrip a b c env = (a env).bind (kTrip b c) := by
  unfold eTrip Out.bind kTrip
  rcases a env with ⟨x, e⟩ | ⟨x, e⟩ | _
  · dsimp only
    unfold Out.bind kTrip2
    cases pendB x (ePair b c) e <;> rfl
  · rfl
  · rfl
def kSetIx (r : FS) (p : EV × EV × EV) (e : Env3) : SO3 := oNx (r p.2.1 p.2.2 p.1 e)
@[simp] theorem kSetIx_ev (r : FS) (y o i : EV) (e : Env3) : kSetIx r (y, o, i) e = oNx (r o i y e) := id rfl
@[simp] theorem sSetIx_ev (r : FS) (fo fi fv : M3 EV) (env : Env3) : sSetIx r fo fi fv env = (eTrip fv fo fi env).toS (kSetIx r) := by
  unfold sSetIx Out.toS kSetIx oNx
  cases eTrip fv fo fi env with
  | ok p e => obtain ⟨y, o, i⟩ := p; rfl
  | exc c e => rfl
  | stuck => rfl
def kSF2 (L : List String) (f : String) (y o : EV) (x : Option T) (e : Env3) : SO3 := match x with
  | some (.mi C fs) => if C ∈ L ∧ fs.length < 100 then oNx ((toT y).bind fun x => putE false o (.mi C (fput f x fs)) e) else .stuck
  | _ => .stuck
@[simp] theorem kSF2_mi (L : List String) (f : String) (y o : EV) (C : String) (fs : List (String × T)) (h : C ∈ L ∧ fs.length < 100) : kSF2 L f y o (some (.mi C fs)) e = oNx ((toT y).bind fun x => putE false o (.mi C (fput f x fs)) e) := if_pos h
def kSF (L : List String) (f : String) (p : EV × EV) (e : Env3) : SO3 := kSF2 L f p.1 p.2 (rd e p.2) e
@[simp] theorem kSF_ev (L : List String) (f : String) (y o : EV) (e : Env3) : kSF L f (y, o) e = kSF2 L f y o (rd e o) e := id rfl
@[simp] theorem sSetFld_ev (L : List String) (f : String) (fo fv : M3 EV) (env : Env3) : sSetFld L f fo fv env = (ePair fv fo env).toS (kSF L f) := by
  unfold sSetFld Out.toS kSF kSF2 oNx
  cases ePair fv fo env with
  | ok p e => obtain ⟨y, o⟩ := p; rfl
  | exc c e => rfl
  | stuck => rfl
end
section
variable {env e : Env3}
@[simp] theorem itemsE_ptr (k : Nat) (π : Path) (xs : List T) : itemsE (.ptr k π) xs = some (xs.mapIdx fun i c => kidEV (.ptr k π) (.idx i) c) := id rfl
@[simp] theorem itemsE_im (w : W) (xs : List T) : itemsE (.im w) xs = (allI xs).map fun ws => ime ws := id rfl
def kRow (o : EV) (e : Env3) : Out IV := oOk (rowI o e) e
@[simp] theorem kRow_ev (o : EV) (e : Env3) : kRow o e = oOk (rowI o e) e := id rfl
@[simp] theorem iRow_ev (fo : M3 EV) (env : Env3) : iRow fo env = (fo env).bind kRow := by unfold iRow Out.bind kRow oOk; cases fo env <;> first | rfl | (dsimp only; split <;> simp_all)
def kRowI (o : EV) (x : Option T) : Option IV := x.bind fun x => match x with
  | .im (.str z) => some ⟨z.toList.map fun c => EV.im (.str (String.singleton c)), []⟩
  | x => (seqT x).bind fun xs => (itemsE o xs).map fun is => ⟨is, [o]⟩
@[simp] theorem rowI_ev (o : EV) (env : Env3) : rowI o env = kRowI o (rd env o) := id rfl
@[simp] theorem kRowI_ml (o : EV) (xs : List T) : kRowI o (some (.ml xs)) = (itemsE o xs).map fun is => ⟨is, [o]⟩ := id rfl
@[simp] theorem kRowI_tup (o : EV) (xs : List W) : kRowI o (some (.im (.tup xs))) = (itemsE o (ims xs)).map fun is => ⟨is, [o]⟩ := by simp [kRowI, map_im]
def kRng1 (evs : List EV) (e : Env3) : Out IV := match evs with
  | [.im (.int j)] => if -1000000000 ≤ j ∧ j ≤ 1000000000 then .ok ⟨intsE 0 j.toNat, []⟩ e else .stuck
  | _ => .stuck
@[simp] theorem kRng1_ev (j : Int) (e : Env3) (h : -1000000000 ≤ j ∧ j ≤ 1000000000) : kRng1 [.im (.int j)] e = .ok ⟨intsE 0 j.toNat, []⟩ e := if_pos h
@[simp] theorem iRng1_ev (t : M3 (List EV)) (env : Env3) : iRng1 t env = (t env).bind kRng1 := by
  unfold iRng1 Out.bind kRng1
  rcases t env with ⟨a, e⟩ | ⟨c, e⟩ | _
  · rcases a with _ | ⟨x, r⟩
    · rfl
    · rcases x with w | u | ⟨k, π⟩
      · cases w <;> cases r <;> rfl
      · rfl
      · rfl
  · rfl
  · rfl
def kEnum (evs : List EV) (e : Env3) : Out IV := match evs with
  | [o] => oOk (((rd e o).bind rowL).map fun ws => ⟨enumE ws, [o]⟩) e
  | _ => .stuck
@[simp] theorem kEnum_ev (o : EV) (e : Env3) : kEnum [o] e = oOk (((rd e o).bind rowL).map fun ws => ⟨enumE ws, [o]⟩) e := id rfl
@[simp] theorem iEnum3_ev (t : M3 (List EV)) (env : Env3) : iEnum3 t env = (t env).bind kEnum := by
  unfold iEnum3 Out.bind kEnum
  rcases t env with ⟨a, e⟩ | ⟨c, e⟩ | _
  · rcases a with _ | ⟨x, _ | ⟨y, r⟩⟩
    · rfl
    · dsimp only
      cases (rd e x).bind rowL <;> rfl
    · rfl
  · rfl
  · rfl
@[simp] theorem kids_ims (o : EV) (ws : List W) : (ims ws).mapIdx (fun i c => kidEV o (.idx i) c) = ime ws := by
  unfold ims ime
  apply List.ext_getElem?
  intro i
  simp
  cases ws[i]? <;> simp
def unlP (k : Nat) (s : Option (Option SV)) (env : Env3) : Env3 := match s with
  | some (some (SV.own p (_ :: L) t)) => env.set k (some (SV.own p L t))
  | _ => env
@[simp] theorem unlP_own (k : Nat) (p : Bool) (π : Path) (L : List Path) (t : T) (env : Env3) : unlP k (some (some (.own p (π :: L) t))) env = env.set k (some (SV.own p L t)) := id rfl
@[simp] theorem lockH_ptr (k : Nat) (π : Path) (env : Env3) : lockH (.ptr k π) env = lockP k π env[k]? env := by unfold lockH lockP; rfl
@[simp] theorem unlH_ptr (k : Nat) (π : Path) (env : Env3) : unlH (.ptr k π) env = unlP k env[k]? env := by unfold unlH unlP; rfl
@[simp] theorem mapE_nx (u : Env3 → Env3) (e : Env3) : (SO3.nx e).mapE u = .nx (u e) := id rfl
theorem holdsS_ptr (k : Nat) (π : Path) (f : S3) (env : Env3) : holdsS [.ptr k π] f env = (f (lockP k π env[k]? env)).mapE (unlH (.ptr k π)) := by
  unfold holdsS
  show (f (lockH (.ptr k π) env)).mapE (fun e => unlH (.ptr k π) e) = _
  rw [lockH_ptr]
def kFor (tg : TG3) (b : S3) (iv : IV) (e : Env3) : SO3 := holdsS iv.hold (forF tg b iv.items) e
@[simp] theorem kFor_ev (tg : TG3) (b : S3) (is hs : List EV) (e : Env3) : kFor tg b ⟨is, hs⟩ e = holdsS hs (forF tg b is) e := id rfl
@[simp] theorem sFor_ev (it : M3 IV) (tg : TG3) (b : S3) (env : Env3) : sFor it tg b env = (it env).toS (kFor tg b) := by
  unfold sFor Out.toS kFor
  cases it env <;> rfl
@[simp] theorem mapE_id (o : SO3) : o.mapE (fun e => e) = o := by cases o <;> rfl
@[simp] theorem holdsS_nil (f : S3) (env : Env3) : holdsS [] f env = f env := by
  unfold holdsS
  show (f env).mapE (fun e => e) = f env
  simp
@[simp] theorem holdsS_im (w : W) (f : S3) (env : Env3) : holdsS [.im w] f env = f env := by
  unfold holdsS
  show (f env).mapE (fun e => e) = f env
  simp
def Turn (tg : TG3) (b : S3) (x : EV) (env env' : Env3) : Prop := okI x env = true ∧ ∃ e1, tg x env = some e1 ∧ (b e1 = .nx env' ∨ b e1 = .ct env')
theorem Turn.go {tg : TG3} {b : S3} {x : EV} {env env' : Env3} (h : Turn tg b x env env') (r : List EV) : forF tg b (x :: r) env = forF tg b r env' := by
  obtain ⟨h1, e1, h2, h3⟩ := h
  show (if okI x env = true then _ else _) = _
  rw [if_pos h1, h2]
  rcases h3 with h3 | h3 <;> simp only [h3]
theorem Turn.im {tg : TG3} {b : S3} {w : W} {env e1 env' : Env3} (h : tg (.im w) env = some e1) (h2 : b e1 = .nx env') : Turn tg b (.im w) env env' := ⟨rfl, e1, h, .inl h2⟩
theorem forF_map {α : Type} {tg : TG3} {b : S3} (f : α → W) (xs : List α) (Inv : List α → Env3 → Prop) (env : Env3) (st : ∀ pre x r env, xs = pre ++ x :: r → Inv pre env → ∃ env', Turn tg b (.im (f x)) env env' ∧ Inv (pre ++ [x]) env') (h0 : Inv [] env) :
    ∃ env', forF tg b (ime (xs.map f)) env = .nx env' ∧ Inv xs env' := by
  have go : ∀ (r pre : List α) (env : Env3), xs = pre ++ r → Inv pre env → ∃ env', forF tg b (ime (r.map f)) env = .nx env' ∧ Inv xs env' := by
    intro r
    induction r with
    | nil => intro pre env e h; exact ⟨env, rfl, by rw [e, List.append_nil]; exact h⟩
    | cons x r ih =>
      intro pre env e h
      obtain ⟨e1, t, h1⟩ := st pre x r env e h
      obtain ⟨e2, h2, h3⟩ := ih (pre ++ [x]) e1 (by rw [e]; simp) h1
      exact ⟨e2, by rw [List.map_cons, ime_cons, t.go]; exact h2, h3⟩
  exact go xs [] env rfl h0
@[simp] theorem wipeE_nil (env : Env3) : wipeE [] env = some env := id rfl
def kWipe (v : Nat) (vs : List Nat) (s : Option (Option SV)) (env : Env3) : Option Env3 := match s with
  | some (some (SV.own _ _ _)) => none
  | _ => wipeE vs (env.set v none)
@[simp] theorem wipeE_cons (v : Nat) (vs : List Nat) (env : Env3) : wipeE (v :: vs) env = kWipe v vs env[v]? env := by
  conv => lhs; unfold wipeE
  unfold kWipe; rfl
@[simp] theorem kWipe_val (v : Nat) (vs : List Nat) (w : W) (env : Env3) : kWipe v vs (some (some (.val w))) env = wipeE vs (env.set v none) := id rfl
@[simp] theorem kWipe_jk (v : Nat) (vs : List Nat) (j : Option W) (env : Env3) : kWipe v vs (some (jk j)) env = wipeE vs (env.set v none) := by cases j <;> rfl
@[simp] theorem restE_nil (env0 env : Env3) : restE env0 [] env = env := id rfl
def kRest (env0 : Env3) (v : Nat) (vs : List Nat) (s u : Option (Option SV)) (env : Env3) : Env3 := match s, u with
  | some (some (SV.val w)), some none => restE env0 vs (env.set v (some (SV.val w)))
  | _, _ => restE env0 vs env
@[simp] theorem restE_cons (env0 : Env3) (v : Nat) (vs : List Nat) (env : Env3) : restE env0 (v :: vs) env = kRest env0 v vs env0[v]? env[v]? env := by
  conv => lhs; unfold restE
  unfold kRest; rfl
@[simp] theorem kRest_jk (env0 : Env3) (v : Nat) (vs : List Nat) (j : Option W) (env : Env3) (h : env[v]? = some none) : kRest env0 v vs (some (jk j)) (some none) env = restE env0 vs (env.set v (jk j)) := by
  cases j with
  | some w => rfl
  | none =>
    show restE env0 vs env = _
    congr 1
    have hl : v < env.length := (List.getElem?_eq_some_iff.mp h).1
    have hv : env[v] = none := (List.getElem?_eq_some_iff.mp h).2
    show env = env.set v none
    rw [← hv, List.set_getElem_self]
def kLc2 (vs : List Nat) (e : Env3) (hs : List EV) (o : Option (List T × Env3)) : Out EV := match o with
  | some (acc, e1) => .ok (.tmp (.ml acc)) (unlHs hs (restE e vs e1))
  | none => .stuck
@[simp] theorem kLc2_some (vs : List Nat) (e : Env3) (hs : List EV) (acc : List T) (e1 : Env3) : kLc2 vs e hs (some (acc, e1)) = .ok (.tmp (.ml acc)) (unlHs hs (restE e vs e1)) := id rfl
def kLc (tg : TG3) (tt : M3 Bool) (te : M3 EV) (vs : List Nat) (iv : IV) (e : Env3) : Out EV := kLc2 vs e iv.hold (ob (wipeE vs (lockHs iv.hold e)) (lcF tg tt te vs iv.items []))
@[simp] theorem kLc_ev (tg : TG3) (tt : M3 Bool) (te : M3 EV) (vs : List Nat) (is hs : List EV) (e : Env3) : kLc tg tt te vs ⟨is, hs⟩ e = kLc2 vs e hs (ob (wipeE vs (lockHs hs e)) (lcF tg tt te vs is [])) := id rfl
@[simp] theorem eLc_ev (it : M3 IV) (tg : TG3) (tt : M3 Bool) (te : M3 EV) (vs : List Nat) (env : Env3) : eLc it tg tt te vs env = (it env).bind (kLc tg tt te vs) := by
  unfold eLc Out.bind kLc kLc2; cases it env with
  | ok a e => dsimp only; cases wipeE vs (lockHs a.hold e) with
    | none => rfl
    | some e0 => dsimp only [Option.bind_some]; rw [ob_some]; all_goals (cases lcF tg tt te vs a.items [] e0 <;> rfl)
  | exc c e => rfl
  | stuck => rfl
@[simp] theorem lockHs_nil (env : Env3) : lockHs [] env = env := id rfl
@[simp] theorem unlHs_nil (env : Env3) : unlHs [] env = env := id rfl
@[simp] theorem lcF_nil (tg : TG3) (tt : M3 Bool) (te : M3 EV) (vs : List Nat) (acc : List T) (env : Env3) : lcF tg tt te vs [] acc env = some (acc, env) := id rfl
def LcStep (tg : TG3) (tt : M3 Bool) (te : M3 EV) (vs : List Nat) (x : EV) (env : Env3) (o : Option T) : Prop :=
  okI x env = true ∧ ∃ e1, tg x env = some e1 ∧ ((∃ e2, o = none ∧ tt e1 = .ok false e2 ∧ wipeE vs e2 = some env) ∨ ∃ t e2 ev e3, o = some t ∧ tt e1 = .ok true e2 ∧ te e2 = .ok ev e3 ∧ toT ev = some t ∧ wipeE vs e3 = some env)
theorem LcStep.go {tg : TG3} {tt : M3 Bool} {te : M3 EV} {vs : List Nat} {x : EV} {env : Env3} {o : Option T} (h : LcStep tg tt te vs x env o) (r : List EV) (acc : List T) (ha : acc.length < 10000000) :
    lcF tg tt te vs (x :: r) acc env = lcF tg tt te vs r (acc ++ o.toList) env := by
  obtain ⟨h1, e1, h2, h3⟩ := h
  conv => lhs; unfold lcF
  rw [if_pos h1, h2]
  rcases h3 with ⟨e2, rfl, h3, h4⟩ | ⟨t, e2, ev, e3, rfl, h3, h4, h5, h6⟩
  · simp [h3, h4]
  · simp [h3, h4, h5, h6, ha]
theorem LcStep.yes {tg : TG3} {tt : M3 Bool} {te : M3 EV} {vs : List Nat} {w : W} {env e1 e2 e3 : Env3} {ev : EV} {t : T} (h1 : tg (.im w) env = some e1) (h2 : tt e1 = .ok true e2) (h3 : te e2 = .ok ev e3) (h4 : toT ev = some t) (h5 : wipeE vs e3 = some env) : LcStep tg tt te vs (.im w) env (some t) :=
  ⟨rfl, e1, h1, .inr ⟨t, e2, ev, e3, rfl, h2, h3, h4, h5⟩⟩
theorem LcStep.no {tg : TG3} {tt : M3 Bool} {te : M3 EV} {vs : List Nat} {w : W} {env e1 e2 : Env3} (h1 : tg (.im w) env = some e1) (h2 : tt e1 = .ok false e2) (h5 : wipeE vs e2 = some env) : LcStep tg tt te vs (.im w) env none :=
  ⟨rfl, e1, h1, .inl ⟨e2, rfl, h2, h5⟩⟩
theorem enumE_cons (w : W) (k : Nat) (ws : List W) : (w :: ws).mapIdx (fun i w => EV.im (.tup [.int ((i + k : Nat) : Int), w])) = .im (.tup [.int (k : Int), w]) :: ws.mapIdx (fun i w => EV.im (.tup [.int ((i + (k + 1) : Nat) : Int), w])) := by
  rw [List.mapIdx_cons]
  simp only [Nat.zero_add]
  congr 2
  funext i w
  rw [Nat.add_assoc, Nat.add_comm 1 k]
theorem forF_enum {α : Type} {tg : TG3} {b : S3} (f : α → W) (xs : List α) (Inv : List α → Env3 → Prop) (env : Env3) (st : ∀ pre x r env, xs = pre ++ x :: r → Inv pre env → ∃ env', Turn tg b (.im (.tup [.int (pre.length : Int), f x])) env env' ∧ Inv (pre ++ [x]) env') (h0 : Inv [] env) :
    ∃ env', forF tg b (enumE (xs.map f)) env = .nx env' ∧ Inv xs env' := by
  have go : ∀ (r pre : List α) (env : Env3), xs = pre ++ r → Inv pre env → ∃ env', forF tg b ((r.map f).mapIdx (fun i w => EV.im (.tup [.int ((i + pre.length : Nat) : Int), w]))) env = .nx env' ∧ Inv xs env' := by
    intro r
    induction r with
    | nil => intro pre env e h; exact ⟨env, rfl, by rw [e, List.append_nil]; exact h⟩
    | cons x r ih =>
      intro pre env e h
      obtain ⟨e1, t, h1⟩ := st pre x r env e h
      obtain ⟨e2, h2, h3⟩ := ih (pre ++ [x]) e1 (by rw [e]; simp) h1
      refine ⟨e2, ?_, h3⟩
      rw [List.map_cons, enumE_cons, t.go]
      simpa using h2
  exact go xs [] env rfl h0
end
end VL
namespace VL
open PySem L2
section
variable {env e : Env3} {i j : Int} {s t : String} {a b : Bool} {xs ys : List W}
@[simp] theorem eqv_non : W.eqv .non .non = true := by simp [W.eqv]
@[simp] theorem eqv_int : W.eqv (.int i) (.int j) = decide (i = j) := by simp [W.eqv]
@[simp] theorem eqv_bl : W.eqv (.bl a) (.bl b) = (a == b) := by simp [W.eqv]
@[simp] theorem eqv_str : W.eqv (.str s) (.str t) = decide (s = t) := by simp [W.eqv]
@[simp] theorem eqv_non_int : W.eqv .non (.int i) = false := by simp [W.eqv]
@[simp] theorem eqv_non_bl : W.eqv .non (.bl b) = false := by simp [W.eqv]
@[simp] theorem eqv_non_str : W.eqv .non (.str s) = false := by simp [W.eqv]
@[simp] theorem eqv_int_non : W.eqv (.int i) .non = false := by simp [W.eqv]
@[simp] theorem eqv_bl_non : W.eqv (.bl b) .non = false := by simp [W.eqv]
@[simp] theorem eqv_str_non : W.eqv (.str s) .non = false := by simp [W.eqv]
@[simp] theorem eqv_tup : W.eqv (.tup xs) (.tup ys) = W.eqvs xs ys := by simp [W.eqv]
@[simp] theorem eqv_lst : W.eqv (.lst xs) (.lst ys) = W.eqvs xs ys := by simp [W.eqv]
@[simp] theorem eqv_tup_non : W.eqv (.tup xs) .non = false := by simp [W.eqv]
@[simp] theorem eqv_non_tup : W.eqv .non (.tup xs) = false := by simp [W.eqv]
@[simp] theorem eqv_lst_non : W.eqv (.lst xs) .non = false := by simp [W.eqv]
@[simp] theorem eqv_non_lst : W.eqv .non (.lst xs) = false := by simp [W.eqv]
@[simp] theorem eqvs_nil : W.eqvs [] [] = true := by simp [W.eqvs]
@[simp] theorem eqvs_cons (x y : W) : W.eqvs (x :: xs) (y :: ys) = (W.eqv x y && W.eqvs xs ys) := by simp [W.eqvs]
@[simp] theorem eqvs_nil_cons (y : W) : W.eqvs [] (y :: ys) = false := by simp [W.eqvs]
@[simp] theorem eqvs_cons_nil (y : W) : W.eqvs (y :: ys) [] = false := by simp [W.eqvs]
theorem eqv_refl_all : (∀ w : W, ∀ n, okW n w = true → W.eqv w w = true) ∧ ∀ ws : List W, ∀ n, okWs n ws = true → W.eqvs ws ws = true := by
  have h : ∀ (k : Nat), (∀ w : W, sizeOf w ≤ k → ∀ n, okW n w = true → W.eqv w w = true) ∧ ∀ ws : List W, sizeOf ws ≤ k → ∀ n, okWs n ws = true → W.eqvs ws ws = true := by
    intro k
    induction k with
    | zero =>
      constructor
      · intro w hw; cases w <;> simp at hw
      · intro ws hw; cases ws <;> simp at hw
    | succ k ih =>
      constructor
      · intro w hw n ho
        cases w with
        | non => simp
        | bl b => simp
        | int i => simp
        | str s => simp
        | tup xs => cases n with
          | zero => simp [okW] at ho
          | succ n => simp only [W.eqv]; exact ih.2 xs (by simp at hw; omega) n (by simpa [okW] using ho)
        | lst xs => cases n with
          | zero => simp [okW] at ho
          | succ n => simp only [W.eqv]; exact ih.2 xs (by simp at hw; omega) n (by simpa [okW] using ho)
        | scr xs => cases n with
          | zero => simp [okW] at ho
          | succ n => simp only [W.eqv]; exact ih.2 xs (by simp at hw; omega) n (by simpa [okW] using ho)
        | ktp xs => cases n with
          | zero => simp [okW] at ho
          | succ n => simp only [W.eqv]; exact ih.2 xs (by simp at hw; omega) n (by simpa [okW] using ho)
        | ins C fs => simp [okW] at ho
      · intro ws hw n ho
        cases ws with
        | nil => simp
        | cons x xs =>
          simp only [okWs, Bool.and_eq_true] at ho
          simp only [List.cons.sizeOf_spec] at hw
          simp only [eqvs_cons, Bool.and_eq_true]
          exact ⟨ih.1 x (by omega) n ho.1, ih.2 xs (by omega) n ho.2⟩
  exact ⟨fun w n => (h (sizeOf w)).1 w (Nat.le_refl _) n, fun w n => (h (sizeOf w)).2 w (Nat.le_refl _) n⟩
@[simp] theorem okW_non (n : Nat) : okW n .non = true := by cases n <;> simp [okW]
@[simp] theorem okW_int (n : Nat) : okW n (.int i) = true := by cases n <;> simp [okW]
@[simp] theorem okW_str (n : Nat) : okW n (.str s) = true := by cases n <;> simp [okW]
@[simp] theorem okW_tup (n : Nat) : okW (n + 1) (.tup xs) = okWs n xs := by simp [okW]
@[simp] theorem okW_lst (n : Nat) : okW (n + 1) (.lst xs) = okWs n xs := by simp [okW]
@[simp] theorem okWs_nil (n : Nat) : okWs n [] = true := by simp [okWs]
@[simp] theorem okWs_cons (n : Nat) (x : W) : okWs n (x :: xs) = (okW n x && okWs n xs) := by simp [okWs]
@[simp] theorem okWs_map {α : Type} (n : Nat) (f : α → W) (h : ∀ x, okW n (f x) = true) (a : List α) : okWs n (a.map f) = true := by
  induction a with
  | nil => simp
  | cons x r ih => simp [ih, h]
@[simp] theorem eqT_lst (h1 : okWs 63 xs = true) (h2 : okWs 63 ys = true) : eqT (.im (.lst xs)) (.im (.lst ys)) = some (W.eqvs xs ys) := by
  rw [eqT_im (by simpa using h1) (by simpa using h2), eqv_lst]
@[simp] theorem toW_im (w : W) : (T.im w).toW = some w := by simp [T.toW]
@[simp] theorem toW_ml (xs : List T) : (T.ml xs).toW = (T.toWs xs).map .lst := by simp [T.toW]
@[simp] theorem toWs_nil : T.toWs [] = some [] := by simp [T.toWs]
@[simp] theorem toWs_cons (x : T) (xs : List T) : T.toWs (x :: xs) = (T.toW x).bind fun y => (T.toWs xs).map fun ys => y :: ys := by simp [T.toWs]
@[simp] theorem toWs_ims (ws : List W) : T.toWs (ims ws) = some ws := by
  induction ws with
  | nil => simp
  | cons w r ih => simp [ih]
theorem eqT_of {x y : T} {u v : W} (h1 : x.toW = some u) (h2 : y.toW = some v) (h3 : okW 64 u = true) (h4 : okW 64 v = true) : eqT x y = some (W.eqv u v) := by
  unfold eqT; rw [h1, h2]; exact if_pos ⟨h3, h4⟩
@[simp] theorem eqT_ml_lst (ws us : List W) (h1 : okWs 63 ws = true) (h2 : okWs 63 us = true) : eqT (.ml (ims ws)) (.im (.lst us)) = some (W.eqvs ws us) := by
  rw [eqT_of (u := .lst ws) (v := .lst us) (by simp) (by simp) (by simpa using h1) (by simpa using h2)]; simp
@[simp] theorem eqT_lst_ml (ws us : List W) (h1 : okWs 63 ws = true) (h2 : okWs 63 us = true) : eqT (.im (.lst ws)) (.ml (ims us)) = some (W.eqvs ws us) := by
  rw [eqT_of (u := .lst ws) (v := .lst us) (by simp) (by simp) (by simpa using h1) (by simpa using h2)]; simp
end
end VL
namespace VL
open PySem L2
theorem forF_range {tg : TG3} {b : S3} {lo : Int} (n : Nat) (Inv : Nat → Env3 → Prop) (env : Env3) (st : ∀ k env, k < n → Inv k env → ∃ env', Turn tg b (.im (.int (lo + k))) env env' ∧ Inv (k + 1) env') (h0 : Inv 0 env) :
    ∃ env', forF tg b (intsE lo n) env = .nx env' ∧ Inv n env' := by
  have e : intsE lo n = ime ((List.range n).map fun i : Nat => W.int (lo + i)) := by
    unfold intsE ime; rw [List.map_map]; rfl
  rw [e]
  obtain ⟨env', h1, h2⟩ := forF_map (tg := tg) (b := b) (fun i : Nat => W.int (lo + i)) (List.range n) (fun pre env => Inv pre.length env) env
    (by
      intro pre x r env hq hi
      have hx : x = pre.length := by
        have := congrArg (fun l => l[pre.length]?) hq
        simp only [List.getElem?_append_right (Nat.le_refl _), Nat.sub_self, List.getElem?_cons_zero] at this
        obtain ⟨h1, h2⟩ := List.getElem?_eq_some_iff.mp this
        simpa using h2.symm
      have hl : pre.length < n := by
        have := congrArg List.length hq
        simp at this; omega
      subst hx
      obtain ⟨e1, h1, h2⟩ := st pre.length env hl hi
      exact ⟨e1, h1, by simpa using h2⟩) h0
  exact ⟨env', h1, by simpa using h2⟩
def iw (ns : List Int) : List W := ns.map W.int
@[simp] theorem iw_nil : iw [] = [] := id rfl
@[simp] theorem iw_cons (n : Int) (r : List Int) : iw (n :: r) = .int n :: iw r := id rfl
@[simp] theorem iw_len (ns : List Int) : (iw ns).length = ns.length := by simp [iw]
@[simp] theorem iw_app (a b : List Int) : iw (a ++ b) = iw a ++ iw b := by simp [iw]
theorem atI_scr (ns : List Int) (k : Nat) (h : k < ns.length) : atI (ns.map W.int) (k : Int) = some (.int ns[k]) := by
  rw [atI_int (by omega) (by simp; omega)]; simp [h]
end VL
namespace VL
open PySem L2
end VL
namespace VL
open PySem L2
@[simp] theorem atI_0 {α : Type} (a : α) (r : List α) : atI (a :: r) 0 = some a := by
  rw [atI_int (by omega) (by simp only [List.length_cons]; omega)]; simp
@[simp] theorem atI_1 {α : Type} (a b : α) (r : List α) : atI (a :: b :: r) 1 = some b := by
  rw [atI_int (by omega) (by simp only [List.length_cons]; omega)]; simp
end VL
namespace VL
open PySem L2
inductive Hd where
  | away | rd (w : W) | wr (w : W) | wantR | wantW (w : W) | lvW (w : W) | lvR | lvE
namespace Hd
def cls : Hd → String
  | away => "Away" | rd _ => "Reader" | wr _ => "Writer" | wantR => "WantsRead" | wantW _ => "WantsWrite" | lvW _ => "LeavingWriter" | lvR => "LeavingReader" | lvE => "LeavingEmpty"
def flds : Hd → List (String × W)
  | rd w => [("own_words", w)] | wr w => [("own_words", w)] | wantW w => [("own_words", w)] | lvW w => [("own_words", w)] | _ => []
def w (s : Hd) : W := .ins s.cls s.flds
def kind : Hd → String
  | away => "away" | rd _ => "reader" | wr _ => "writer" | wantR => "wants read" | wantW _ => "wants write" | lvW _ => "leaving writer" | lvR => "leaving reader" | lvE => "leaving empty"
def words : Hd → W
  | rd w => w | wr w => w | wantW w => w | lvW w => w | _ => .non
def isN : W → Bool
  | .non => true
  | _ => false
def may : Hd → String
  | rd _ => "read" | wr _ => "write" | wantW w => if isN w = true then "none" else "read" | _ => "none"
def met (s : Hd) (x : String) (g : W) : Option (Hd × W) := match s with
  | away => none
  | rd _ => if x = "yield" then some (away, .tup [.str "yielded", .non]) else none
  | wr w => if x = "lower" then some (rd w, .tup [.str "lowered", w]) else if x = "yield" then some (away, .tup [.str "yielded", w]) else none
  | wantR => if x = "share" then some (rd g, .tup [.str "took", .non]) else none
  | wantW w => if x = "own" then some (wr g, .tup [.str "took", .non]) else if x = "yield" ∧ isN w = false then some (wantW .non, .tup [.str "yielded", .non]) else none
  | lvW w => if x = "lower" then some (lvR, .tup [.str "lowered", w]) else if x = "yield" then some (lvE, .tup [.str "yielded", w]) else if x = "gone" then some (away, .non) else none
  | lvR => if x = "yield" then some (lvE, .tup [.str "yielded", .non]) else if x = "gone" then some (away, .non) else none
  | lvE => if x = "gone" then some (away, .non) else none
@[simp] theorem isN_eq (x : W) : (T.im x).isNon = isN x := by cases x <;> rfl
end Hd
inductive Dd where
  | rd (a : Int) | wr (a v : Int) | add (a v : Int) | sw (a o n : Int)
  deriving DecidableEq
namespace Dd
def cls : Dd → String
  | rd _ => "ReadDeed" | wr _ _ => "WriteDeed" | add _ _ => "AddDeed" | sw _ _ _ => "SwapDeed"
def flds : Dd → List (String × W)
  | rd a => [("address", .int a)] | wr a v => [("address", .int a), ("value", .int v)] | add a v => [("address", .int a), ("value", .int v)] | sw a o n => [("address", .int a), ("old", .int o), ("new", .int n)]
def w (d : Dd) : W := .ins d.cls d.flds
def plain : Dd → List W
  | rd a => [.str "read", .int a] | wr a v => [.str "write", .int a, .int v] | add a v => [.str "add", .int a, .int v] | sw a o n => [.str "swap", .int a, .int o, .int n]
def addr : Dd → Int
  | rd a => a | wr a _ => a | add a _ => a | sw a _ _ => a
def wants : Dd → String
  | rd _ => "read" | _ => "write"
def behind : Dd → Int → Int
  | rd _, x => x | wr _ v, _ => v | add _ v, x => x + v | sw _ o n, x => if x = o then n else x
def name : Dd → String
  | rd _ => "read" | wr _ _ => "write" | add _ _ => "add" | sw _ _ _ => "swap"
def rest : Dd → List Int
  | rd a => [a] | wr a v => [a, v] | add a v => [a, v] | sw a o n => [a, o, n]
theorem plain_eq (d : Dd) : d.plain = .str d.name :: iw d.rest := by cases d <;> rfl
@[simp] theorem clsT_w (d : Dd) : clsT (.im d.w) = some (d.cls, d.flds.map (·.1)) := id rfl
theorem flds_no (d : Dd) (m : String) (h : m ∉ ["address", "value", "old", "new"]) : m ∉ d.flds.map (·.1) := by
  simp only [List.mem_cons, List.not_mem_nil, or_false, not_or] at h
  cases d <;> simp [flds, h]
@[simp] theorem plain_ok (n : Nat) (d : Dd) : okWs n d.plain = true := by cases d <;> simp [plain]
@[simp] theorem plain_eqvs (d e : Dd) : W.eqvs d.plain e.plain = decide (d = e) := by
  cases d <;> cases e <;> simp [plain]
end Dd
structure NP where
  lines : List (Int × String × W)
  used : W
  wait : W
def lineW (l : Int × String × W) : W := .tup [.int l.1, .str l.2.1, l.2.2]
def NP.w (n : NP) : W := .tup [.tup (n.lines.map lineW), n.used, n.wait]
def natW (n : Nat) : W := .int n
def nw (ns : List Nat) : List W := ns.map natW
end VL
namespace VL
open PySem L2
def mget {κ α : Type} [DecidableEq κ] (k : κ) : List (κ × α) → Option α
  | [] => none
  | (j, x) :: r => if j = k then some x else mget k r
def mput {κ α : Type} [DecidableEq κ] (k : κ) (x : α) : List (κ × α) → List (κ × α)
  | [] => [(k, x)]
  | (j, y) :: r => if j = k then (k, x) :: r else (j, y) :: mput k x r
section
variable {κ α β : Type} [DecidableEq κ]
@[simp] theorem mget_mput (k j : κ) (x : α) (m : List (κ × α)) : mget j (mput k x m) = if k = j then some x else mget j m := by
  induction m with
  | nil => rfl
  | cons q r ih =>
    obtain ⟨i, y⟩ := q
    by_cases h : i = k
    · subst h
      simp only [mput, if_true, mget]
      by_cases h2 : i = j <;> simp [h2]
    · simp only [mput, if_neg h, mget, ih]
      by_cases h2 : i = j
      · subst h2; simp [Ne.symm h]
      · simp [h2]
theorem mput_len (k : κ) (x : α) (m : List (κ × α)) : (mput k x m).length ≤ m.length + 1 := by
  induction m with
  | nil => simp [mput]
  | cons q r ih =>
    obtain ⟨i, y⟩ := q
    unfold mput
    split <;> simp <;> omega
theorem mget_map {κ' : Type} [DecidableEq κ'] (c : κ → κ') (hc : ∀ a b, c a = c b → a = b) (f : α → β) (k : κ) : ∀ m : List (κ × α), mget (c k) (m.map fun q => (c q.1, f q.2)) = (mget k m).map f
  | [] => rfl
  | (j, x) :: r => by
    by_cases h : j = k
    · subst h; simp [mget]
    · have h2 : c j ≠ c k := fun e => h (hc _ _ e)
      simp only [List.map_cons, mget, if_neg h, if_neg h2]
      exact mget_map c hc f k r
theorem mput_map {κ' : Type} [DecidableEq κ'] (c : κ → κ') (hc : ∀ a b, c a = c b → a = b) (f : α → β) (k : κ) (x : α) : ∀ m : List (κ × α), mput (c k) (f x) (m.map fun q => (c q.1, f q.2)) = (mput k x m).map fun q => (c q.1, f q.2)
  | [] => rfl
  | (j, y) :: r => by
    by_cases h : j = k
    · subst h; simp [mput]
    · have h2 : c j ≠ c k := fun e => h (hc _ _ e)
      simp only [List.map_cons, mput, if_neg h, if_neg h2]
      rw [mput_map c hc f k x r]
end
theorem kfind_get (k : Ky) : ∀ kvs : List (Ky × T), ((kfind k kvs).bind fun i => (kvs.map (·.2))[i]?) = mget k kvs
  | [] => rfl
  | (j, x) :: r => by
    unfold kfind
    rw [List.findIdx?_cons]
    by_cases h : j = k
    · simp [h, mget]
    · simp only [h, decide_false, Bool.false_eq_true, if_false, mget]
      rw [← kfind_get k r]
      unfold kfind
      cases (r.findIdx? fun q => decide (q.1 = k)) <;> simp
theorem kfind_get2 (k : Ky) (kvs : List (Ky × T)) : ((kfind k kvs).bind fun i => (kvs[i]?).map (·.2)) = mget k kvs := by
  rw [← kfind_get k kvs]
  cases kfind k kvs with
  | none => rfl
  | some i => simp
theorem kput_mput (k : Ky) (x : T) : ∀ kvs : List (Ky × T), kput k x kvs = mput k x kvs
  | [] => rfl
  | (j, y) :: r => by
    unfold kput kfind
    rw [List.findIdx?_cons]
    by_cases h : j = k
    · subst h; simp [mput, setV]
    · simp only [h, decide_false, Bool.false_eq_true, if_false, mput]
      rw [← kput_mput k x r]
      unfold kput kfind
      cases (r.findIdx? fun q => decide (q.1 = k)) <;> simp [setV]
theorem kid_md (k : Ky) (kvs : List (Ky × T)) : (T.md kvs).kid (.key k) = mget k kvs := kfind_get k kvs
@[simp] theorem eDict0_ev (env : Env3) : eDict0 env = .ok (.tmp (.md [])) env := id rfl
@[simp] theorem evOf_md (xs : List (Ky × T)) : evOf (.md xs) = .tmp (.md xs) := id rfl
@[simp] theorem keyE_int (n : Int) : keyE (.im (.int n)) = some (.i n) := id rfl
@[simp] theorem isDct_md (kvs : List (Ky × T)) : isDct (.md kvs) = true := id rfl
def kIxM (ob iv : EV) (x : Option T) (env : Env3) : Option EV := match x with
  | some (.md kvs) => (keyE iv).bind fun k => (mget k kvs).map (kidEV ob (.key k))
  | _ => ixE ob iv env
@[simp] theorem kIxM_im (ob iv : EV) (w : W) (env : Env3) : kIxM ob iv (some (.im w)) env = ixE ob iv env := id rfl
@[simp] theorem kIxM_tp (ob iv : EV) (w : List T) (env : Env3) : kIxM ob iv (some (.tp w)) env = ixE ob iv env := id rfl
@[simp] theorem kIxM_md (ob iv : EV) (kvs : List (Ky × T)) (env : Env3) : kIxM ob iv (some (.md kvs)) env = (keyE iv).bind fun k => (mget k kvs).map (kidEV ob (.key k)) := id rfl
theorem ixD_ev (ob iv : EV) (env : Env3) : ixD ob iv env = kIxM ob iv (rd env ob) env := by
  unfold ixD kIxM
  cases h : rd env ob with
  | none => rfl
  | some x => cases x with
    | md kvs => simp only [ixM, h, kid_md]
    | _ => rfl
def kIxD (p : EV × EV) (e : Env3) : Out EV := oOk (ixD p.1 p.2 e) e
@[simp] theorem kIxD_ev (x y : EV) (e : Env3) : kIxD (x, y) e = oOk (kIxM x y (rd e x) e) e := by rw [← ixD_ev]; rfl
@[simp] theorem eIxD_ev (a b : M3 EV) (env : Env3) : eIxD a b env = (ePair a b env).bind kIxD := by
  unfold eIxD Out.bind kIxD oOk; cases ePair a b env <;> first | rfl | (dsimp only; split <;> simp_all)
@[simp] theorem lenD_im (w : W) : lenD (.im w) = lenT (.im w) := id rfl
@[simp] theorem lenD_ml (xs : List T) : lenD (.ml xs) = lenT (.ml xs) := id rfl
@[simp] theorem rLenD_ev (v : EV) (env : Env3) : rLenD [v] env = (rd env v).bind fun x => (lenD x).map fun n : Nat => .im (.int (n : Int)) := id rfl
def kSetA (o i y : EV) (x : Option T) (env : Env3) : Option Env3 := match x with
  | some (.md kvs) => (keyE i).bind fun k => (toT y).bind fun x => if kvs.length < 10000000 then putE false o (.md (mput k x kvs)) env else none
  | _ => setL3 o i y env
@[simp] theorem setA3_ev (o i y : EV) (env : Env3) : setA3 o i y env = kSetA o i y (rd env o) env := by
  unfold setA3 kSetA
  cases h : rd env o with
  | none => rfl
  | some x => cases x with
    | md kvs => simp only [setM, h, kput_mput]
    | _ => rfl
@[simp] theorem kSetA_md (o i y : EV) (kvs : List (Ky × T)) (env : Env3) (h : kvs.length < 10000000) : kSetA o i y (some (.md kvs)) env = (keyE i).bind fun k => (toT y).bind fun x => putE false o (.md (mput k x kvs)) env := by
  show ((keyE i).bind fun k => (toT y).bind fun x => if kvs.length < 10000000 then putE false o (.md (mput k x kvs)) env else none) = _
  simp only [if_pos h]
def kListD (v : EV) (x : Option T) (env : Env3) : Option EV := match x with
  | some (.md kvs) => some (.tmp (.ml (ims (kvs.map fun q => keyW q.1))))
  | _ => rList3 [v] env
@[simp] theorem rListD_ev (v : EV) (env : Env3) : rListD [v] env = kListD v (rd env v) env := by
  unfold rListD kListD
  dsimp only
  cases h : rd env v with
  | none => rfl
  | some x => cases x <;> rfl
@[simp] theorem kListD_im (v : EV) (w : W) (env : Env3) : kListD v (some (.im w)) env = rList3 [v] env := id rfl
@[simp] theorem kListD_ml (v : EV) (w : List T) (env : Env3) : kListD v (some (.ml w)) env = rList3 [v] env := id rfl
def kGetK (ob : EV) (k : Ky) (w : W) (o : Option T) : EV := match o with
  | some t => kidEV ob (.key k) t
  | none => .im w
def kGetM (ob ev : EV) (w : W) (x : Option T) (env : Env3) : Option (EV × Env3) := match x with
  | some (.md kvs) => (keyE ev).bind fun k => some (kGetK ob k w (mget k kvs), env)
  | _ => none
@[simp] theorem rGetM_ev (ob ev : EV) (w : W) (env : Env3) : rGetM ob [ev, .im w] env = kGetM ob ev w (rd env ob) env := by
  unfold rGetM kGetM
  cases h : rd env ob with
  | none => rfl
  | some x => cases x with
    | md kvs =>
      dsimp only
      cases keyE ev with
      | none => rfl
      | some k =>
        have h1 := kfind_get2 k kvs
        simp only [Option.bind_some]
        cases hf : kfind k kvs with
        | none => rw [hf] at h1; simp at h1; rw [← h1]; rfl
        | some i =>
          rw [hf] at h1
          simp only [Option.bind_some] at h1 ⊢
          have hi : ∃ q, kvs[i]? = some q := by
            obtain ⟨l1, _, _⟩ := List.findIdx?_eq_some_iff_getElem.mp hf
            exact ⟨_, List.getElem?_eq_getElem l1⟩
          obtain ⟨q, hq⟩ := hi
          rw [hq] at h1 ⊢
          simp only [Option.map_some] at h1
          rw [← h1]; rfl
    | _ => rfl
@[simp] theorem kGetM_md (ob ev : EV) (w : W) (kvs : List (Ky × T)) (env : Env3) : kGetM ob ev w (some (.md kvs)) env = (keyE ev).bind fun k => some (kGetK ob k w (mget k kvs), env) := id rfl
def mdi {α : Type} (f : α → T) (m : List (Int × α)) : List (Ky × T) := m.map fun q => (.i q.1, f q.2)
section
variable {α : Type} {f : α → T}
theorem ky_inj (a b : Int) (h : Ky.i a = Ky.i b) : a = b := by cases h; rfl
@[simp] theorem mdi_nil : mdi f [] = [] := id rfl
@[simp] theorem mdi_length (m : List (Int × α)) : (mdi f m).length = m.length := by simp [mdi]
@[simp] theorem mget_mdi (k : Int) (m : List (Int × α)) : mget (.i k) (mdi f m) = (mget k m).map f := mget_map Ky.i ky_inj f k m
theorem mput_mdi (k : Int) (x : α) (m : List (Int × α)) : mput (.i k) (f x) (mdi f m) = mdi f (mput k x m) := mput_map Ky.i ky_inj f k x m
end
def intT (x : Int) : T := .im (.int x)
@[simp] theorem kGetK_int (ob : EV) (k : Ky) (d : Int) (o : Option Int) : kGetK ob k (.int d) (o.map intT) = .im (.int (o.getD d)) := by cases o <;> rfl
@[simp] theorem mput_int (k x : Int) (m : List (Int × Int)) : mput (.i k) (.im (.int x)) (mdi intT m) = mdi intT (mput k x m) := mput_mdi (f := intT) k x m
end VL
namespace VL
open PySem L2
end VL
namespace VL
open PySem L2
def sw (ss : List String) : List W := ss.map W.str
end VL
namespace VL
open PySem L2
section
variable {env e e1 e2 e3 : Env3} {α β γ : Type}
abbrev eI : Int → W := W.int
abbrev eB : Bool → W := W.bl
abbrev eS : String → W := W.str
abbrev eW : W → W := fun w => w
abbrev eN : Unit → W := fun _ => W.non
@[reducible] def eO (f : α → W) : Option α → W
  | none => .non
  | some x => f x
abbrev eL (f : α → W) (xs : List α) : W := .lst (xs.map f)
abbrev eU (f : α → W) (xs : List α) : W := .tup (xs.map f)
abbrev eP1 (a : α → W) (p : α) : W := .tup [a p]
abbrev eP2 (a : α → W) (b : β → W) (p : α × β) : W := .tup [a p.1, b p.2]
abbrev eP3 {γ : Type} (a : α → W) (b : β → W) (c : γ → W) (p : α × β × γ) : W := .tup [a p.1, b p.2.1, c p.2.2]
abbrev eP4 {γ δ : Type} (a : α → W) (b : β → W) (c : γ → W) (d : δ → W) (p : α × β × γ × δ) : W := .tup [a p.1, b p.2.1, c p.2.2.1, d p.2.2.2]
abbrev eP5 {γ δ ε : Type} (a : α → W) (b : β → W) (c : γ → W) (d : δ → W) (f : ε → W) (p : α × β × γ × δ × ε) : W := .tup [a p.1, b p.2.1, c p.2.2.1, d p.2.2.2.1, f p.2.2.2.2]
structure EqE [DecidableEq α] (f : α → W) (n : Nat) : Prop where
  ok : ∀ x m, n ≤ m → okW m (f x) = true
  eq : ∀ x y, W.eqv (f x) (f y) = decide (x = y)
theorem EqE.I : EqE eI 0 := ⟨fun _ _ _ => okW_int _, fun _ _ => by simp⟩
theorem EqE.S : EqE eS 0 := ⟨fun _ _ _ => okW_str _, fun _ _ => by simp⟩
theorem EqE.N : EqE eN 0 := ⟨fun _ _ _ => okW_non _, fun _ _ => by simp⟩
class NN (f : α → W) : Prop where
  l : ∀ x, W.eqv (f x) .non = false
  r : ∀ x, W.eqv .non (f x) = false
instance : NN eI := ⟨fun _ => by simp, fun _ => by simp⟩
instance : NN eB := ⟨fun _ => by simp, fun _ => by simp⟩
instance : NN eS := ⟨fun _ => by simp, fun _ => by simp⟩
instance (f : α → W) : NN (eL f) := ⟨fun _ => by simp, fun _ => by simp⟩
instance (f : α → W) : NN (eU f) := ⟨fun _ => by simp, fun _ => by simp⟩
instance (f : α → W) : NN (eP1 f) := ⟨fun _ => by simp, fun _ => by simp⟩
instance (f : α → W) (g : β → W) : NN (eP2 f g) := ⟨fun _ => by simp, fun _ => by simp⟩
instance {γ : Type} (f : α → W) (g : β → W) (h : γ → W) : NN (eP3 f g h) := ⟨fun _ => by simp, fun _ => by simp⟩
instance {γ δ : Type} (f : α → W) (g : β → W) (h : γ → W) (i : δ → W) : NN (eP4 f g h i) := ⟨fun _ => by simp, fun _ => by simp⟩
instance {γ δ ε : Type} (f : α → W) (g : β → W) (h : γ → W) (i : δ → W) (j : ε → W) : NN (eP5 f g h i j) := ⟨fun _ => by simp, fun _ => by simp⟩
theorem okWs_all {f : α → W} {m : Nat} (h : ∀ x, okW m (f x) = true) : ∀ xs : List α, okWs m (xs.map f) = true
  | [] => by simp
  | x :: r => by simp [h, okWs_all h r]
theorem eqvs_map [DecidableEq α] {f : α → W} (h : ∀ x y, W.eqv (f x) (f y) = decide (x = y)) : ∀ xs ys : List α, W.eqvs (xs.map f) (ys.map f) = decide (xs = ys)
  | [], [] => by simp
  | [], _ :: _ => by simp
  | _ :: _, [] => by simp
  | x :: r, y :: s => by simp [h, eqvs_map h r s]
theorem EqE.L [DecidableEq α] {f : α → W} {n : Nat} (h : EqE f n) : EqE (eL f) (n + 1) := ⟨fun x m l => by
  obtain ⟨k, rfl⟩ : ∃ k, m = k + 1 := ⟨m - 1, by omega⟩
  rw [okW_lst]; exact okWs_all (fun y => h.ok y k (by omega)) x, fun x y => by rw [eqv_lst]; exact eqvs_map h.eq x y⟩
def getI {α : Type} (xs : List α) (k : Int) : Option α := atI xs k
class NI (f : α → W) : Prop where
  n : ∀ x, (T.im (f x)).isNon = false
instance : NI eI := ⟨fun _ => rfl⟩
instance : NI eB := ⟨fun _ => rfl⟩
instance : NI eS := ⟨fun _ => rfl⟩
instance (f : α → W) : NI (eL f) := ⟨fun _ => rfl⟩
instance (f : α → W) : NI (eU f) := ⟨fun _ => rfl⟩
instance (f : α → W) : NI (eP1 f) := ⟨fun _ => rfl⟩
instance (f : α → W) (g : β → W) : NI (eP2 f g) := ⟨fun _ => rfl⟩
instance {γ : Type} (f : α → W) (g : β → W) (h : γ → W) : NI (eP3 f g h) := ⟨fun _ => rfl⟩
instance {γ δ : Type} (f : α → W) (g : β → W) (h : γ → W) (i : δ → W) : NI (eP4 f g h i) := ⟨fun _ => rfl⟩
instance {γ δ ε : Type} (f : α → W) (g : β → W) (h : γ → W) (i : δ → W) (j : ε → W) : NI (eP5 f g h i j) := ⟨fun _ => rfl⟩
variable {Φ : SO3 → Prop} {k : S3}
inductive Lo (V ρ : Type) where
  | nx (v : V) | bk (v : V) | rt (r : ρ)
def loopM {V ρ : Type} (body : V → α → Option (Lo V ρ)) : List α → V → Option (V ⊕ ρ)
  | [], v => some (.inl v)
  | x :: r, v => (body v x).bind fun o => match o with
    | .nx v' => loopM body r v'
    | .bk v' => some (.inl v')
    | .rt y => some (.inr y)
def rng (lo : Int) (n : Nat) : List Int := (List.range n).map fun i : Nat => lo + i
def lcM (t : α → Option Bool) (f : α → Option β) : List α → Option (List β)
  | [] => some []
  | x :: r => (t x).bind fun b => if b = true then (f x).bind fun y => (lcM t f r).map (y :: ·) else lcM t f r
end
end VL
namespace VL
open PySem L2
section
variable {env e e1 e2 e3 : Env3} {α β γ : Type}
def addU (a b : List α) : Option (List α) := if a.length + b.length ≤ 10000000 then some (a ++ b) else none
def divI (a b : Int) : Option Int := if CDivW a b then some (a / b) else none
def modI (a b : Int) : Option Int := if 0 < b then some (a % b) else none
def ckL (xs : List α) (ys : List β) : Option (List β) := if xs.length < 10000000 then some ys else none
variable {Φ : SO3 → Prop} {k : S3} {o : SO3} {V J ρ : Type}
def appL (xs : List α) (x : α) : Option (List α) := if xs.length < 10000000 then some (xs ++ [x]) else none
end
end VL
namespace VL
open PySem L2
section
variable {env e e1 e2 e3 : Env3} {α β γ : Type}
abbrev eD (d : Dd) : W := .tup d.plain
theorem EqE.D : EqE eD 1 := ⟨fun d m l => by
  obtain ⟨k, rfl⟩ : ∃ k, m = k + 1 := ⟨m - 1, by omega⟩
  rw [okW_tup]; exact Dd.plain_ok k d, fun x y => by rw [eqv_tup, Dd.plain_eqvs]⟩
instance : NN eD := ⟨fun _ => by simp, fun _ => by simp⟩
instance : NI eD := ⟨fun _ => rfl⟩
end
end VL
namespace VL
open PySem L2
section
variable {env e e1 e2 e3 : Env3} {α β γ : Type}
def setI (xs : List α) (k : Int) (x : α) : Option (List α) := (ixN xs.length k).map fun j => xs.set j x
end
end VL
namespace VL
open PySem L2
section
variable {env e e1 e2 e3 : Env3} {α β γ ρ σ : Type} {k : Nat} {π : Path} {p : Bool} {L : List Path} {T0 T1 x y : T}
def popI (xs : List α) : Option (α × List α) := match xs with
  | [] => none
  | x :: r => some (x, r)
variable {Φ : SO3 → Prop} {kk : S3}
def whileM {V ρ : Type} (c : V → Option Bool) (b : V → Option (Lo V ρ)) : Nat → V → Option (V ⊕ ρ)
  | 0, _ => none
  | n + 1, s => (c s).bind fun t => if t = true then (b s).bind fun o => match o with
    | .nx s' => whileM c b n s'
    | .bk s' => some (.inl s')
    | .rt r => some (.inr r) else some (.inl s)
end
end VL
namespace VL
open PySem L2
section
variable {env e e1 e2 e3 : Env3} {α β γ ρ σ : Type} {k : Nat} {π : Path} {p : Bool} {L : List Path} {T0 T1 x y : T}
structure KeyE (f : α → W) : Prop where
  hk : ∀ x, hkW (f x) = true
  inj : ∀ x y, W.nk (f x) = W.nk (f y) → x = y
variable [DecidableEq α]
def mIdx (a : α) (m : List (α × β)) : Option Nat := m.findIdx? fun q => decide (q.1 = a)
def mHas (a : α) (m : List (α × β)) : Bool := (mIdx a m).isSome
def mPut (a : α) (b : β) (m : List (α × β)) : List (α × β) := match mIdx a m with
  | some i => m.set i (a, b)
  | none => m ++ [(a, b)]
end
section
variable {env e : Env3}
variable {Φ : SO3 → Prop} {kk : S3} {e1 : Env3}
end
end VL
namespace VL
open PySem L2
section
variable {env e e1 e2 e3 : Env3} {α β γ : Type} {k : Nat} {π : Path} {p : Bool} {L : List Path}
end
end VL
namespace VL
open PySem L2
section
variable {env e e1 : Env3} {i : Nat} {t : T}
end
end VL
namespace VL
open PySem L2 PyProof.Rows
end VL
namespace VL
open PySem L2
abbrev WD := Option (List Int)
abbrev eWD : WD → W := eO (eU eI)
inductive Hs where
  | away | rd (w : WD) | wr (w : WD) | wantR | wantW (w : WD) | lvW (w : WD) | lvR | lvE
  deriving DecidableEq
namespace Hs
def h : Hs → Hd
  | away => .away | rd w => .rd (eWD w) | wr w => .wr (eWD w) | wantR => .wantR | wantW w => .wantW (eWD w) | lvW w => .lvW (eWD w) | lvR => .lvR | lvE => .lvE
def kind : Hs → String
  | away => "away" | rd _ => "reader" | wr _ => "writer" | wantR => "wants read" | wantW _ => "wants write" | lvW _ => "leaving writer" | lvR => "leaving reader" | lvE => "leaving empty"
def words : Hs → WD
  | rd w => w | wr w => w | wantW w => w | lvW w => w | _ => none
def may : Hs → String
  | rd _ => "read" | wr _ => "write" | wantW none => "none" | wantW _ => "read" | _ => "none"
def met (s : Hs) (x : String) (g : WD) : Option (Hs × Option (String × WD)) := match s with
  | away => none
  | rd _ => if x = "yield" then some (away, some ("yielded", none)) else none
  | wr w => if x = "lower" then some (rd w, some ("lowered", w)) else if x = "yield" then some (away, some ("yielded", w)) else none
  | wantR => if x = "share" then some (rd g, some ("took", none)) else none
  | wantW w => if x = "own" then some (wr g, some ("took", none)) else if x = "yield" ∧ w.isSome = true then some (wantW none, some ("yielded", none)) else none
  | lvW w => if x = "lower" then some (lvR, some ("lowered", w)) else if x = "yield" then some (lvE, some ("yielded", w)) else if x = "gone" then some (away, none) else none
  | lvR => if x = "yield" then some (lvE, some ("yielded", none)) else if x = "gone" then some (away, none) else none
  | lvE => if x = "gone" then some (away, none) else none
end Hs
def hs_kind (s : Hs) : Option String := some s.kind
def hs_may (s : Hs) : Option String := some s.may
def hs_words (s : Hs) : Option WD := some s.words
def dd_of (d : Dd) : Option Dd := if 0 ≤ d.addr then some d else none
def dd_place (d : Dd) : Option Int := some d.addr
def dd_wants (d : Dd) : Option String := some d.wants
def dd_behind (d : Dd) (v : Int) : Option Int := some (d.behind v)
def dd_plain (d : Dd) : Option Dd := some d
section
variable {env e1 e2 : Env3}
section
variable {α β : Type} [DecidableEq α]
def mGet (a : α) : List (α × β) → Option β
  | [] => none
  | q :: r => if q.1 = a then some q.2 else mGet a r
end
section
variable {β : Type} {k : Nat} {π : Path}
end
end
end VL
namespace VL
open PySem L2
section
variable {env e e0 e1 e2 e3 : Env3} {α β γ ρ σ : Type} {k : Nat} {π : Path} {p : Bool} {L : List Path} {T0 T1 : T}
end
end VL
namespace L2
open PySem VL
end L2
namespace VL
open PySem L2 PySem.W PyProof.Rows
abbrev tWD := Option (List Int)
abbrev tLT := String × Int × Int × tWD
section
variable {env : Env3} {α κ : Type}
structure KyE (ek : κ → W) (lt : κ → κ → Bool) : Prop where
  ok : ∀ k, okW 60 (ek k) = true
  al : ∀ k k', alike (ek k).dat (ek k').dat = true
  so : (∀ k, ∃ x r, (ek k).dat = .tuple (x :: r)) ∨ ∀ k, (ek k).dat ≠ .none ∧ ∀ xs, (ek k).dat ≠ .tuple xs
  lt : ∀ k k', dataLt (ek k).dat (ek k').dat = lt k k'
def ltS (s t : String) : Bool := decide (cpsS s < cpsS t)
theorem cps_of (s : String) : (Str.ofString s).cps.toList = cpsS s := ofString_cps s
theorem KyE.S : KyE eS ltS := by
  refine ⟨fun k => by simp, fun k k' => by simp [W.dat, alike], .inr fun k => ⟨fun h => by simp [W.dat] at h, fun xs h => by simp [W.dat] at h⟩, fun k k' => ?_⟩
  simp only [W.dat]
  rw [dataLt_str, cps_of, cps_of]; rfl
def leK (lt : κ → κ → Bool) (key : α → Option κ) (a b : α) : Bool := match key a, key b with
  | some x, some y => !lt y x
  | _, _ => true
theorem sortK_of {f : α → W} {ek : κ → W} {lt : κ → κ → Bool} {key : α → Option κ} {F : Fn} {xs : List α} (E : KyE ek lt) (hk : ∀ x k, key x = some k → keyOf F (f x) = some (ek k)) (ha : ∀ x ∈ xs, ∃ k, key x = some k) : KeyOk F (xs.map f) ∧ sortByK F (xs.map f) = (xs.mergeSort (leK lt key)).map f := by
  have kw : ∀ x ∈ xs, ∃ k, key x = some k ∧ kyW F (f x) = ek k := fun x hx => by
    obtain ⟨k, e⟩ := ha x hx
    exact ⟨k, e, kyW_of (hk x k e)⟩
  have dw : ∀ d ∈ (xs.map f).map (fun w => (kyW F w).dat), ∃ k, d = (ek k).dat := fun d hd => by
    obtain ⟨w, hw, rfl⟩ := List.mem_map.mp hd
    obtain ⟨x, hx, rfl⟩ := List.mem_map.mp hw
    obtain ⟨k, _, e⟩ := kw x hx
    exact ⟨k, by rw [e]⟩
  refine ⟨⟨fun w hw => ?_, fun d hd d' hd' => ?_, ?_⟩, ?_⟩
  · obtain ⟨x, hx, rfl⟩ := List.mem_map.mp hw
    obtain ⟨k, e⟩ := ha x hx
    exact ⟨ek k, hk x k e, E.ok k⟩
  · obtain ⟨k, rfl⟩ := dw d hd
    obtain ⟨k', rfl⟩ := dw d' hd'
    exact E.al k k'
  · rcases E.so with h | h
    · refine .inl fun d hd => ?_
      obtain ⟨k, rfl⟩ := dw d hd
      exact h k
    · refine .inr fun d hd => ?_
      obtain ⟨k, rfl⟩ := dw d hd
      exact h k
  · unfold sortByK
    refine (sort_maps (r := leK lt key) (s := dataLe false fun w => (kyW F w).dat) f fun a ha b hb => ?_).symm
    obtain ⟨ka, e1, e2⟩ := kw a ha
    obtain ⟨kb, e3, e4⟩ := kw b hb
    rw [dataLe_eq]
    unfold leK
    rw [e1, e3]
    dsimp only [cond]
    rw [e2, e4, E.lt]
end
end VL
namespace VL
open PySem L2 PySem.W PyProof.Rows
abbrev tRD := Int × Int × Bool
abbrev tKD := tRD × (Int × String) × Int
section
variable {α β : Type} [DecidableEq α]
end
end VL
namespace VL
open PySem L2
section
variable {α β γ σ ρ : Type}
def Ok (o : Option α) (Q : α → Prop) : Prop := ∃ a, o = some a ∧ Q a
theorem Ok.bind {o : Option α} {f : α → Option β} {R : α → Prop} {Q : β → Prop} (h : Ok o R) (k : ∀ a, R a → Ok (f a) Q) : Ok (o.bind f) Q := by
  obtain ⟨a, rfl, ha⟩ := h; exact k a ha
theorem Ok.imp {o : Option α} {R Q : α → Prop} (h : Ok o R) (k : ∀ a, R a → Q a) : Ok o Q := by
  obtain ⟨a, h1, ha⟩ := h; exact ⟨a, h1, k a ha⟩
theorem Ok.of {o : Option α} {a : α} (h : o = some a) : Ok o (fun x => x = a) := ⟨a, h, rfl⟩
theorem Ok.eq {o : Option α} {a : α} (h : Ok o (fun x => x = a)) : o = some a := by obtain ⟨b, h1, rfl⟩ := h; exact h1
theorem getI_nat {xs : List α} {k : Nat} : getI xs (k : Int) = xs[k]? := by
  unfold getI
  by_cases h : k < xs.length
  · rw [atI_int (by omega) (by omega)]; simp
  · unfold atI ixN
    rw [if_pos (by omega), if_neg (by omega)]
    simp only [Option.bind_none]
    rw [List.getElem?_eq_none (by omega)]
theorem modI_of {a b : Int} (h : 0 < b) : modI a b = some (a % b) := if_pos h
theorem divI_of {a b : Int} (h : 0 < b ∧ b < 2 ^ 64) : divI a b = some (a / b) := if_pos (CDivW_of h.1 h.2)
theorem ckL_of {xs : List α} {ys : List β} (h : xs.length < 10000000) : ckL xs ys = some ys := if_pos h
theorem appL_of {xs : List α} {x : α} (h : xs.length < 10000000) : appL xs x = some (xs ++ [x]) := if_pos h
theorem addU_of {xs ys : List α} (h : xs.length + ys.length ≤ 10000000) : addU xs ys = some (xs ++ ys) := if_pos h
theorem lcM_tot {t : α → Bool} {f : α → β} : ∀ xs : List α, lcM (fun x => some (t x)) (fun x => some (f x)) xs = some ((xs.filter t).map f)
  | [] => rfl
  | x :: r => by
    show ((Option.some (t x)).bind fun b => if b = true then ((Option.some (f x)).bind fun y => (lcM _ _ r).map (y :: ·)) else lcM _ _ r) = _
    rw [lcM_tot r]
    cases h : t x <;> simp [h]
theorem lcM_map {f : α → β} (xs : List α) : lcM (fun _ => some true) (fun x => some (f x)) xs = some (xs.map f) := by
  rw [lcM_tot (t := fun _ => true), List.filter_eq_self.mpr (fun _ _ => rfl)]
theorem lcM_filter {t : α → Bool} (xs : List α) : lcM (fun x => some (t x)) (fun x => some x) xs = some (xs.filter t) := by
  rw [lcM_tot (f := fun x => x)]; simp
end
end VL
namespace VL
open PySem L2
def bitsOf : List Bool → Nat
  | [] => 0
  | h :: r => (if h then 1 else 0) + 2 * bitsOf r
def trues : List Bool → Nat → List Nat
  | [], _ => []
  | h :: r, k => (if h then [k] else []) ++ trues r (k + 1)
theorem mem_trues : ∀ (hs : List Bool) (k i : Nat), i ∈ trues hs k ↔ k ≤ i ∧ hs[i - k]? = some true
  | [], k, i => by simp [trues]
  | h :: r, k, i => by
    rw [trues, List.mem_append, mem_trues r (k + 1) i]
    by_cases hi : i = k
    · subst hi
      cases h <;> simp <;> omega
    · by_cases hk : k ≤ i
      · rw [show i - k = (i - (k + 1)) + 1 by omega, List.getElem?_cons_succ]
        have : i ∉ (if h = true then [k] else []) := by split <;> simp [hi]
        simp only [this, false_or]
        exact ⟨fun q => ⟨hk, q.2⟩, fun q => ⟨by omega, q.2⟩⟩
      · have : i ∉ (if h = true then [k] else []) := by split <;> simp [hi]
        simp only [this, false_or]
        exact ⟨fun q => by omega, fun q => by omega⟩
theorem trues_up : ∀ (hs : List Bool) (k : Nat), (trues hs k).Pairwise (· < ·)
  | [], k => .nil
  | h :: r, k => by
    rw [trues]
    have ih := trues_up r (k + 1)
    split
    · refine List.pairwise_cons.mpr ⟨fun x hx => ?_, ih⟩
      have := (mem_trues r (k + 1) x).mp hx; omega
    · exact ih
def tru (hs : List Bool) : List Int := (trues hs 0).map Int.ofNat
theorem mem_tru (hs : List Bool) (i : Nat) : (i : Int) ∈ tru hs ↔ hs[i]? = some true := by
  unfold tru
  rw [List.mem_map]
  constructor
  · rintro ⟨j, h1, h2⟩
    have : j = i := by have : (j : Int) = (i : Int) := h2; omega
    subst this
    simpa using (mem_trues hs 0 j).mp h1
  · intro h
    exact ⟨i, (mem_trues hs 0 i).mpr ⟨by omega, by simpa using h⟩, rfl⟩
theorem tru_nat {hs : List Bool} {x : Int} (h : x ∈ tru hs) : ∃ i : Nat, x = i ∧ hs[i]? = some true := by
  unfold tru at h
  obtain ⟨j, h1, h2⟩ := List.mem_map.mp h
  exact ⟨j, h2.symm, by simpa using (mem_trues hs 0 j).mp h1⟩
theorem tru_up (hs : List Bool) : (tru hs).Pairwise (· < ·) := by
  unfold tru
  refine List.pairwise_map.mpr ((trues_up hs 0).imp ?_)
  intro a b h
  exact Int.ofNat_lt.mpr h
end VL
namespace PG
open PySem L2 VL
abbrev Ty_Near := Int × Int × Int × (List (Int × Hs)) × (List Int) × (List Dd) × (List (Dd × Int))
abbrev Ty_Book := (Option Int) × Int
abbrev Ty_Home := Int × Int × tWD × Ty_Book × (List tLT) × (Option tLT) × (List ((String × Int) × Bool))
abbrev Ty_Roads := Bool × Int × (List (Int × tLT))
abbrev Ty_House := Int × Int × Bool × (List Ty_Near) × (List Ty_Home) × Ty_Roads × (List (Int × Dd × Int)) × (List Int)
def g_to_home (p0_word : String) : Option Bool :=
  Option.bind (α := (Unit) ⊕ Bool) (if true = true then if (decide (p0_word ∈ ["read", "write", "back", "lowered", "yielded", "took"])) = true then some (Sum.inr true) else if (decide (p0_word ∈ ["lower", "yield", "share", "own", "gone"])) = true then some (Sum.inr false) else some (Sum.inl ()) else some (Sum.inl ())) (Sum.elim (fun s2 => none) (fun y7 => some y7))
def g_make_letter (p0_word : String) (p1_line : Int) (p2_near : Int) (p3_words : tWD) : Option tLT :=
  (g_to_home p0_word).bind fun r1 => some (p0_word, p1_line, p2_near, p3_words)
def g_line_of (p0_address : Int) (p1_width : Int) : Option Int :=
  (divI p0_address p1_width).bind fun v1 => some v1
def g_Near_state (p0_self : Ty_Near) (p1_line : Int) : Option Hs :=
  if (mHas p1_line p0_self.2.2.2.1) = true then (mGet p1_line p0_self.2.2.2.1).bind fun v2 => some v2 else some Hs.away
def g_spot_of (p0_address : Int) (p1_width : Int) : Option Int :=
  (modI p0_address p1_width).bind fun v1 => some v1
def g_put_in (p0_words : (List Int)) (p1_spot : Int) (p2_value : Int) : Option (List Int) :=
  (addU (cutA p0_words none (some p1_spot)) ([p2_value])).bind fun v1 => (addU v1 (cutA p0_words (some (p1_spot + (1 : Int))) none)).bind fun v2 => some v2
def g_Near_do_first (p0_self : Ty_Near) (p1_deed : Dd) (p2_line : Int) (p3_state : Hs) : Option (Unit × Ty_Near) :=
  (dd_place p1_deed).bind fun r1 => (g_spot_of r1 p0_self.2.1).bind fun r2 => (some r2).bind fun spot3 => (hs_words p3_state).bind fun r4 => (r4).bind fun w5 => (getI w5 spot3).bind fun v6 => (some v6).bind fun found7 => (dd_wants p1_deed).bind fun r8 => Option.bind (α := Ty_Near) (if (decide (r8 = "write")) = true then (hs_words p3_state).bind fun r12 => (dd_behind p1_deed found7).bind fun r13 => (r12).bind fun w14 => (g_put_in w14 spot3 r13).bind fun r15 => (if p0_self.2.2.2.1.length < 10000000 then some () else none).bind fun m16 => some (p0_self.1, p0_self.2.1, p0_self.2.2.1, (mPut p2_line (Hs.wr (some r15)) p0_self.2.2.2.1), p0_self.2.2.2.2.1, p0_self.2.2.2.2.2.1, p0_self.2.2.2.2.2.2) else some p0_self) fun s10 => (lcM (fun x18 => some (!decide (x18 = p2_line))) (fun x18 => some x18) s10.2.2.2.2.1).bind fun l19 => (ckL s10.2.2.2.2.1 l19).bind fun l20 => (appL l20 p2_line).bind fun l21 => (dd_plain p1_deed).bind fun r22 => (appL s10.2.2.2.2.2.2 (r22, found7)).bind fun l23 => (popI s10.2.2.2.2.2.1).bind fun q24 => some ((), (s10.1, s10.2.1, s10.2.2.1, s10.2.2.2.1, l21, q24.2, l23))
def g_Near_give_back (p0_self : Ty_Near) : Option ((List tLT) × Ty_Near) :=
  Option.bind (α := (Unit) ⊕ ((List tLT) × Ty_Near)) (loopM (fun (s1 : Unit) x2 => (mGet x2 p0_self.2.2.2.1).bind fun v5 => (mGet x2 p0_self.2.2.2.1).bind fun v6 => (hs_kind v6).bind fun r7 => if (decide (r7 ∈ ["leaving writer", "leaving reader", "leaving empty"])) = true then some (Lo.rt (([] : (List tLT)), p0_self)) else some (Lo.nx ())) (p0_self.2.2.2.1.map (·.1)) ()) (Sum.elim (fun s9 => (popI p0_self.2.2.2.2.1).bind fun q13 => (some q13.1).bind fun line14 => (mGet line14 p0_self.2.2.2.1).bind fun v15 => (some v15).bind fun state16 => (hs_kind state16).bind fun r17 => if (decide (r17 = "writer")) = true then (hs_words state16).bind fun r19 => (if p0_self.2.2.2.1.length < 10000000 then some () else none).bind fun m20 => (hs_words state16).bind fun r21 => (g_make_letter ("back") line14 p0_self.1 r21).bind fun r22 => some ([r22], (p0_self.1, p0_self.2.1, p0_self.2.2.1, (mPut line14 (Hs.lvW r19) p0_self.2.2.2.1), q13.2, p0_self.2.2.2.2.2.1, p0_self.2.2.2.2.2.2)) else (if p0_self.2.2.2.1.length < 10000000 then some () else none).bind fun m23 => (g_make_letter ("back") line14 p0_self.1 none).bind fun r24 => some ([r24], (p0_self.1, p0_self.2.1, p0_self.2.2.1, (mPut line14 Hs.lvR p0_self.2.2.2.1), q13.2, p0_self.2.2.2.2.2.1, p0_self.2.2.2.2.2.2))) (fun y12 => some y12))
def g_Near_send_for (p0_self : Ty_Near) (p1_deed : Dd) (p2_line : Int) (p3_state : Hs) : Option ((List tLT) × Ty_Near) :=
  (hs_kind p3_state).bind fun r1 => if (decide (r1 = "reader")) = true then (hs_words p3_state).bind fun r3 => (if p0_self.2.2.2.1.length < 10000000 then some () else none).bind fun m4 => (g_make_letter ("write") p2_line p0_self.1 none).bind fun r5 => some ([r5], (p0_self.1, p0_self.2.1, p0_self.2.2.1, (mPut p2_line (Hs.wantW r3) p0_self.2.2.2.1), p0_self.2.2.2.2.1, p0_self.2.2.2.2.2.1, p0_self.2.2.2.2.2.2)) else (hs_kind p3_state).bind fun r6 => if (!decide (r6 = "away")) = true then some (([] : (List tLT)), p0_self) else (if p0_self.2.2.2.1.length ≤ 10000000 then some (p0_self.2.2.2.1.length : Int) else none).bind fun v8 => if (decide (p0_self.2.2.1 ≤ v8)) = true then (g_Near_give_back p0_self).bind fun r10 => some (r10.1, r10.2) else (dd_wants p1_deed).bind fun r11 => if (decide (r11 = "read")) = true then (if p0_self.2.2.2.1.length < 10000000 then some () else none).bind fun m13 => (g_make_letter ("read") p2_line p0_self.1 none).bind fun r14 => some ([r14], (p0_self.1, p0_self.2.1, p0_self.2.2.1, (mPut p2_line Hs.wantR p0_self.2.2.2.1), p0_self.2.2.2.2.1, p0_self.2.2.2.2.2.1, p0_self.2.2.2.2.2.2)) else (if p0_self.2.2.2.1.length < 10000000 then some () else none).bind fun m15 => (g_make_letter ("write") p2_line p0_self.1 none).bind fun r16 => some ([r16], (p0_self.1, p0_self.2.1, p0_self.2.2.1, (mPut p2_line (Hs.wantW none) p0_self.2.2.2.1), p0_self.2.2.2.2.1, p0_self.2.2.2.2.2.1, p0_self.2.2.2.2.2.2))
def g_Near_work_on (p0_self : Ty_Near) : Option ((List tLT) × Ty_Near) :=
  Option.bind (α := (Ty_Near) ⊕ ((List tLT) × Ty_Near)) (whileM (fun (s1 : Ty_Near) => some (decide ((0 : Int) < (s1.2.2.2.2.2.1.length : Int)))) (fun (s1 : Ty_Near) => (getI s1.2.2.2.2.2.1 (0 : Int)).bind fun v4 => (some v4).bind fun deed5 => (dd_place deed5).bind fun r6 => (g_line_of r6 s1.2.1).bind fun r7 => (some r7).bind fun line8 => (g_Near_state s1 line8).bind fun r9 => (some r9).bind fun state10 => (hs_may state10).bind fun r11 => (if (!decide (r11 = "write")) = true then (hs_may state10).bind fun r12 => (dd_wants deed5).bind fun r13 => some (!decide (r12 = r13)) else some false).bind fun b14 => if b14 = true then (g_Near_send_for s1 deed5 line8 state10).bind fun r17 => some (Lo.rt (r17.1, r17.2)) else (g_Near_do_first s1 deed5 line8 state10).bind fun r18 => some (Lo.nx r18.2)) fuelW p0_self) (Sum.elim (fun s19 => some (([] : (List tLT)), s19)) (fun y22 => some y22))
def g_Roads_send (p0_self : Ty_Roads) (p1_letter : tLT) : Option (Int × Ty_Roads) :=
  (if p0_self.2.2.length < 10000000 then some () else none).bind fun m1 => some ((p0_self.2.1 + (1 : Int)), (p0_self.1, (p0_self.2.1 + (1 : Int)), (mPut (p0_self.2.1 + (1 : Int)) p1_letter p0_self.2.2)))
def g_House_post (p0_self : Ty_House) (p1_sent : (List tLT)) : Option (Unit × Ty_House) :=
  Option.bind (α := Ty_House) (List.foldlM (m := Option) (fun (s1 : Ty_House) x2 => (g_Roads_send s1.2.2.2.2.2.1 x2).bind fun r5 => some (s1.1, s1.2.1, s1.2.2.1, s1.2.2.2.1, s1.2.2.2.2.1, r5.2, s1.2.2.2.2.2.2.1, s1.2.2.2.2.2.2.2)) p0_self p1_sent) fun s6 => some ((), s6)
def g_Near_told (p0_self : Ty_Near) : Option (List (Dd × Int)) :=
  some p0_self.2.2.2.2.2.2
def g_House_note (p0_self : Ty_House) (p1_near : Int) : Option (Unit × Ty_House) :=
  (ixN p0_self.2.2.2.1.length p1_near).bind fun n1 => (p0_self.2.2.2.1[n1]?).bind fun o2 => (g_Near_told o2).bind fun r3 => (some r3).bind fun rows4 => (getI p0_self.2.2.2.2.2.2.2 p1_near).bind fun v5 => Option.bind (α := Ty_House) (List.foldlM (m := Option) (fun (s6 : Ty_House) x7 => (appL s6.2.2.2.2.2.2.1 (p1_near, x7.1, x7.2)).bind fun l10 => some (s6.1, s6.2.1, s6.2.2.1, s6.2.2.2.1, s6.2.2.2.2.1, s6.2.2.2.2.2.1, l10, s6.2.2.2.2.2.2.2)) p0_self (cutA rows4 (some v5) none)) fun s11 => (setI s11.2.2.2.2.2.2.2 p1_near (rows4.length : Int)).bind fun m13 => some ((), (s11.1, s11.2.1, s11.2.2.1, s11.2.2.2.1, s11.2.2.2.2.1, s11.2.2.2.2.2.1, s11.2.2.2.2.2.2.1, m13))
def g_House_store (p0_self : Ty_House) (p1_near : Int) : Option Nat :=
  if ((decide (p1_near < (0 : Int))) || (decide ((p0_self.2.2.2.1.length : Int) ≤ p1_near))) = true then none else (ixN p0_self.2.2.2.1.length p1_near).bind fun n2 => (p0_self.2.2.2.1[n2]?).bind fun o3 => some n2
def g_House_home (p0_self : Ty_House) (p1_line : Int) : Option Nat :=
  if ((decide (p1_line < (0 : Int))) || (decide ((p0_self.2.2.2.2.1.length : Int) ≤ p1_line))) = true then none else (ixN p0_self.2.2.2.2.1.length p1_line).bind fun n2 => (p0_self.2.2.2.2.1[n2]?).bind fun o3 => some n2
def g_Near_ask (p0_self : Ty_Near) (p1_deed : Dd) : Option ((List tLT) × Ty_Near) :=
  (dd_of p1_deed).bind fun r1 => (appL p0_self.2.2.2.2.2.1 r1).bind fun l2 => (g_Near_work_on (p0_self.1, p0_self.2.1, p0_self.2.2.1, p0_self.2.2.2.1, p0_self.2.2.2.2.1, l2, p0_self.2.2.2.2.2.2)).bind fun r3 => some (r3.1, r3.2)
def g_Near_waiting (p0_self : Ty_Near) : Option (List Dd) :=
  (lcM (fun x1 => some true) (fun x1 => (dd_plain x1).bind fun r2 => some r2) p0_self.2.2.2.2.2.1).bind fun l3 => (ckL p0_self.2.2.2.2.2.1 l3).bind fun l4 => some l4
def g_House_ask (p0_self : Ty_House) (p1_near : Int) (p2_deed : Dd) : Option (Int × Ty_House) :=
  (g_House_store p0_self p1_near).bind fun r1 => (p0_self.2.2.2.1[r1]?).bind fun o2 => (dd_of p2_deed).bind fun r3 => (dd_of p2_deed).bind fun r4 => (dd_place r4).bind fun r5 => (g_line_of r5 p0_self.1).bind fun r6 => (g_House_home p0_self r6).bind fun r7 => (p0_self.2.2.2.2.1[r7]?).bind fun o8 => (g_Near_told o2).bind fun r9 => (g_Near_waiting o2).bind fun r10 => (some ((r9.length : Int) + (r10.length : Int))).bind fun ahead11 => (g_Near_ask o2 p2_deed).bind fun r12 => (g_House_post (p0_self.1, p0_self.2.1, p0_self.2.2.1, (p0_self.2.2.2.1.set r1 r12.2), p0_self.2.2.2.2.1, p0_self.2.2.2.2.2.1, p0_self.2.2.2.2.2.2.1, p0_self.2.2.2.2.2.2.2) r12.1).bind fun r13 => (g_House_note r13.2 p1_near).bind fun r14 => some (ahead11, r14.2)
end PG
namespace PG
open PySem L2 VL
abbrev Lt := String × Int × Int × (Option (List Int))
theorem make (w : String) (l n : Int) (x : Option (List Int)) (h : w ∈ ["read", "write", "back", "lowered", "yielded", "took", "lower", "yield", "share", "own", "gone"]) : g_make_letter w l n x = some (w, l, n, x) := by
  unfold g_make_letter g_to_home
  simp only [List.mem_cons, List.not_mem_nil, or_false] at h
  rcases h with rfl | rfl | rfl | rfl | rfl | rfl | rfl | rfl | rfl | rfl | rfl <;> simp
end PG
namespace PG
open PySem L2 VL
structure HM where
  line : Int
  n : Nat
  far : WD
  ow : Option Nat
  sh : List Bool
  q : List Lt
  task : Option Lt
  due : List (String × Int)
namespace HM
def enc (h : HM) : Ty_Home := (h.line, (h.n : Int), h.far, (h.ow.map Int.ofNat, (bitsOf h.sh : Int)), h.q, h.task, h.due.map fun x => (x, true))
def hasReq (h : HM) (k : Int) : Bool := h.q.any (fun l => decide (l.2.2.1 = k)) || match h.task with
  | none => false
  | some t => decide (t.2.2.1 = k) && !decide (("took", k) ∈ h.due)
def awaited (h : HM) (l : Lt) : Bool := decide (l.2.1 = h.line) && decide (0 ≤ l.2.2.1) && decide (l.2.2.1 < (h.n : Int)) && if l.1 ∈ ["read", "write", "back"] then !h.hasReq l.2.2.1 else decide ((l.1, l.2.2.1) ∈ h.due)
def strike (h : HM) (k : Nat) : HM := { h with ow := if h.ow = some k then none else h.ow, sh := h.sh.set k false }
def take (h : HM) (l : Lt) : HM :=
  let h1 := { h with far := if h.ow = some l.2.2.1.toNat then l.2.2.2 else h.far, due := h.due.erase (l.1, l.2.2.1) }
  if l.1 = "lowered" then { h1 with ow := none, sh := match h.ow with | some o => h.sh.set o true | none => h.sh } else h1.strike l.2.2.1.toNat
def grant (h : HM) (t : Lt) : Lt × HM :=
  if t.1 = "write" then (("own", h.line, t.2.2.1, h.far), { h with ow := some t.2.2.1.toNat, sh := List.replicate h.n false, due := [("took", t.2.2.1)] })
  else (("share", h.line, t.2.2.1, h.far), { h with sh := h.sh.set t.2.2.1.toNat true, due := [("took", t.2.2.1)] })
def held (h : HM) : List Bool := match h.ow with | some o => h.sh.set o true | none => h.sh
def others (h : HM) (k : Nat) : List Int := tru (h.held.set k false)
def start (h : HM) (l : Lt) : List Lt × HM :=
  if l.1 = "back" then ([("gone", h.line, l.2.2.1, none)], { h with far := if h.ow = some l.2.2.1.toNat then l.2.2.2 else h.far }.strike l.2.2.1.toNat)
  else
    let h1 := { h with task := some l }
    if l.1 = "write" then
      if h.others l.2.2.1.toNat = [] then ([(h1.grant l).1], (h1.grant l).2)
      else ((h.others l.2.2.1.toNat).map fun o => ("yield", h.line, o, none), { h1 with due := (h.others l.2.2.1.toNat).map fun o => ("yielded", o) })
    else match h.ow with
      | some o => ([("lower", h.line, (o : Int), none)], { h1 with due := [("lowered", (o : Int))] })
      | none => ([(h1.grant l).1], (h1.grant l).2)
def drain : List Lt → HM → List Lt × HM
  | [], h => ([], { h with q := [] })
  | l :: r, h => if h.task.isSome then ([], { h with q := l :: r }) else (((h.start l).1 ++ (drain r (h.start l).2).1), (drain r (h.start l).2).2)
def come (h : HM) (l : Lt) : List Lt × HM :=
  if l.1 ∈ ["read", "write", "back"] then drain (h.q ++ [l]) h
  else if l.1 = "took" then drain h.q { h with task := none, due := [] }
  else
    let h1 := h.take l
    if h1.due = [] then match h1.task with
      | some t => ((h1.grant t).1 :: (drain h1.q (h1.grant t).2).1, (drain h1.q (h1.grant t).2).2)
      | none => ([], h1)
    else ([], h1)
structure WF (h : HM) : Prop where
  len : h.sh.length = h.n
  le : h.n ≤ 64
  ow : ∀ o, h.ow = some o → o < h.n
end HM
theorem mPut_new {α β : Type} [DecidableEq α] {a : α} {b : β} {m : List (α × β)} (h : ∀ q ∈ m, q.1 ≠ a) : mPut a b m = m ++ [(a, b)] := by
  unfold mPut
  have : mIdx a m = none := by
    unfold mIdx
    rw [List.findIdx?_eq_none_iff]
    intro x hx
    simpa using h x hx
  rw [this]
section
variable {h : HM} {l : Lt}
theorem held_len : h.held.length = h.sh.length := by unfold HM.held; split <;> simp
end
end PG
namespace PG
open PySem L2 VL
def inR (n : Nat) (l : Lt) : Prop := 0 ≤ l.2.2.1 ∧ l.2.2.1 < (n : Int)
theorem strike_wf {h : HM} (wf : h.WF) (k : Nat) : (h.strike k).WF := by
  refine ⟨by simp [HM.strike, wf.len], wf.le, fun o ho => ?_⟩
  unfold HM.strike at ho
  dsimp only at ho
  split at ho
  · cases ho
  · exact wf.ow o ho
theorem grant_wf {h : HM} (wf : h.WF) {t : Lt} (ht : inR h.n t) : (h.grant t).2.WF := by
  unfold HM.grant
  split
  · refine ⟨by simp, wf.le, fun o ho => ?_⟩
    cases ho
    have := ht.1; have := ht.2
    show _ < h.n
    omega
  · exact ⟨by simp [wf.len], wf.le, wf.ow⟩
theorem grant_n {h : HM} (t : Lt) : (h.grant t).2.n = h.n := by unfold HM.grant; split <;> rfl
theorem grant_line {h : HM} (t : Lt) : (h.grant t).2.line = h.line := by unfold HM.grant; split <;> rfl
theorem grant_task {h : HM} (t : Lt) : (h.grant t).2.task = h.task := by unfold HM.grant; split <;> rfl
theorem start_n {h : HM} (l : Lt) : (h.start l).2.n = h.n := by
  unfold HM.start
  split
  · rfl
  · dsimp only
    split
    · split
      · exact grant_n _
      · rfl
    · split
      · rfl
      · exact grant_n _
theorem start_line {h : HM} (l : Lt) : (h.start l).2.line = h.line := by
  unfold HM.start
  split
  · rfl
  · dsimp only
    split
    · split
      · exact grant_line _
      · rfl
    · split
      · rfl
      · exact grant_line _
theorem start_wf {h : HM} (wf : h.WF) {l : Lt} (hl : inR h.n l) : (h.start l).2.WF := by
  have w1 : ({ h with task := some l } : HM).WF := ⟨wf.len, wf.le, wf.ow⟩
  unfold HM.start
  split
  · exact strike_wf (h := { h with far := if h.ow = some l.2.2.1.toNat then l.2.2.2 else h.far }) ⟨wf.len, wf.le, wf.ow⟩ _
  · dsimp only
    split
    · split
      · exact grant_wf w1 hl
      · exact ⟨wf.len, wf.le, wf.ow⟩
    · split
      · exact ⟨wf.len, wf.le, wf.ow⟩
      · exact grant_wf w1 hl
theorem whileM_succ {V ρ : Type} (c : V → Option Bool) (b : V → Option (Lo V ρ)) (n : Nat) (s : V) : whileM c b (n + 1) s = (c s).bind fun t => if t = true then (b s).bind fun o => match o with
    | .nx s' => whileM c b n s'
    | .bk s' => some (.inl s')
    | .rt r => some (.inr r) else some (.inl s) := rfl
structure HM.Ok (h : HM) : Prop where
  wf : h.WF
  idle : h.task = none → h.q = [] ∧ h.due = []
  qr : ∀ l ∈ h.q, l.1 ∈ ["read", "write", "back"] ∧ inR h.n l
  tr : ∀ t, h.task = some t → (t.1 = "read" ∨ t.1 = "write") ∧ inR h.n t
  ql : h.q.length < 1000
  dl : h.due.length < 1000
end PG
namespace PG
open PySem L2 VL
section
variable {α β : Type} [DecidableEq α]
def mDel (a : α) : List (α × β) → List (α × β)
  | [] => []
  | q :: r => if q.1 = a then r else q :: mDel a r
abbrev keys (m : List (α × β)) : List α := m.map (·.1)
theorem mGet_none {a : α} : ∀ {m : List (α × β)}, a ∉ keys m → mGet a m = none
  | [], _ => rfl
  | q :: r, h => by
    simp only [List.map_cons, List.mem_cons, not_or] at h
    unfold mGet
    rw [if_neg (fun e => h.1 e.symm), mGet_none h.2]
theorem mGet_mem {a : α} {v : β} : ∀ {m : List (α × β)}, mGet a m = some v → (a, v) ∈ m
  | [], h => by cases h
  | q :: r, h => by
    unfold mGet at h
    split at h
    · rename_i e; cases h; subst e; exact List.mem_cons_self
    · exact List.mem_cons_of_mem _ (mGet_mem h)
theorem mGet_of {a : α} {v : β} : ∀ {m : List (α × β)}, (keys m).Nodup → (a, v) ∈ m → mGet a m = some v
  | [], _, h => by cases h
  | q :: r, nd, h => by
    simp only [List.map_cons, List.nodup_cons] at nd
    unfold mGet
    rcases List.mem_cons.mp h with e | h
    · rw [← e]; simp
    · rw [if_neg, mGet_of nd.2 h]
      intro e
      exact nd.1 (e ▸ List.mem_map_of_mem (f := (·.1)) h)
theorem mem_keys {a : α} {m : List (α × β)} : a ∈ keys m ↔ ∃ v, mGet a m = some v := by
  constructor
  · intro h
    induction m with
    | nil => cases h
    | cons q r ih =>
      unfold mGet
      by_cases e : q.1 = a
      · exact ⟨q.2, if_pos e⟩
      · rw [if_neg e]
        simp only [List.map_cons, List.mem_cons] at h
        exact ih (h.resolve_left fun x => e x.symm)
  · rintro ⟨v, h⟩
    exact List.mem_map_of_mem (f := (·.1)) (mGet_mem h)
theorem mHas_keys {a : α} {m : List (α × β)} : mHas a m = decide (a ∈ keys m) := by
  unfold mHas mIdx
  rw [List.findIdx?_isSome]
  apply Bool.eq_iff_iff.mpr
  simp only [List.any_eq_true, decide_eq_true_eq, List.mem_map]
theorem mHas_get {a : α} {m : List (α × β)} : mHas a m = (mGet a m).isSome := by
  rw [mHas_keys]
  cases h : mGet a m with
  | none =>
    have : a ∉ keys m := fun q => by obtain ⟨v, e⟩ := mem_keys.mp q; rw [h] at e; cases e
    simp [this]
  | some v => simp [mem_keys.mpr ⟨v, h⟩]
theorem mPut_cons {a : α} {b : β} {q : α × β} {r : List (α × β)} : mPut a b (q :: r) = if q.1 = a then (a, b) :: r else q :: mPut a b r := by
  unfold mPut mIdx
  rw [List.findIdx?_cons]
  by_cases e : q.1 = a
  · simp [e]
  · simp only [e, decide_false, Bool.false_eq_true, if_false]
    cases List.findIdx? (fun q => decide (q.1 = a)) r with
    | none => rfl
    | some i => rfl
theorem mGet_put {a c : α} {b : β} : ∀ {m : List (α × β)}, mGet c (mPut a b m) = if a = c then some b else mGet c m
  | [] => by
    show mGet c [(a, b)] = _
    unfold mGet
    split <;> rfl
  | q :: r => by
    rw [mPut_cons]
    by_cases e : q.1 = a
    · rw [if_pos e]
      unfold mGet
      by_cases e2 : a = c
      · rw [if_pos e2, if_pos e2]
      · rw [if_neg e2, if_neg e2, if_neg (by rw [e]; exact e2)]
    · rw [if_neg e]
      unfold mGet
      rw [mGet_put]
      by_cases e2 : q.1 = c
      · have : a ≠ c := fun x => e (e2.trans x.symm)
        rw [if_pos e2, if_neg this, if_pos e2]
      · rw [if_neg e2, if_neg e2]
theorem keys_put {a : α} {b : β} : ∀ {m : List (α × β)}, keys (mPut a b m) = if a ∈ keys m then keys m else keys m ++ [a]
  | [] => rfl
  | q :: r => by
    rw [mPut_cons]
    by_cases e : q.1 = a
    · rw [if_pos e, if_pos (by simp [e])]
      simp [e]
    · have e' : ¬ a = q.1 := fun x => e x.symm
      rw [if_neg e]
      simp only [List.map_cons, List.mem_cons, e', false_or]
      have ih := keys_put (a := a) (b := b) (m := r)
      unfold keys at ih
      rw [ih]
      split <;> simp
theorem put_nodup {a : α} {b : β} {m : List (α × β)} (h : (keys m).Nodup) : (keys (mPut a b m)).Nodup := by
  rw [keys_put]
  split
  · exact h
  · rename_i hn
    rw [List.nodup_append]
    exact ⟨h, by simp, fun x hx y hy e => by rw [List.mem_singleton.mp hy] at e; exact hn (e ▸ hx)⟩
theorem put_len {a : α} {b : β} {m : List (α × β)} : (mPut a b m).length = if a ∈ keys m then m.length else m.length + 1 := by
  have h := congrArg List.length (keys_put (a := a) (b := b) (m := m))
  unfold keys at h
  rw [List.length_map] at h
  rw [h]
  split <;> simp
theorem mem_put {a : α} {b : β} {m : List (α × β)} {q : α × β} (h : q ∈ mPut a b m) : q = (a, b) ∨ q ∈ m := by
  induction m with
  | nil => exact .inl (List.mem_singleton.mp h)
  | cons p r ih =>
    rw [mPut_cons] at h
    split at h
    · rcases List.mem_cons.mp h with e | h
      · exact .inl e
      · exact .inr (List.mem_cons_of_mem _ h)
    · rcases List.mem_cons.mp h with e | h
      · exact .inr (e ▸ List.mem_cons_self)
      · exact (ih h).imp id (List.mem_cons_of_mem _)
theorem keys_del {a : α} : ∀ {m : List (α × β)}, keys (mDel a m) = (keys m).erase a
  | [] => rfl
  | q :: r => by
    unfold mDel
    by_cases e : q.1 = a
    · rw [if_pos e]; simp [e]
    · rw [if_neg e]
      simp only [List.map_cons]
      rw [List.erase_cons_tail (by simpa using e)]
      have ih := keys_del (a := a) (m := r)
      unfold keys at ih
      rw [ih]
theorem mem_del {a : α} {q : α × β} : ∀ {m : List (α × β)}, q ∈ mDel a m → q ∈ m
  | [], h => by cases h
  | p :: r, h => by
    unfold mDel at h
    split at h
    · exact List.mem_cons_of_mem _ h
    · rcases List.mem_cons.mp h with e | h
      · exact e ▸ List.mem_cons_self
      · exact List.mem_cons_of_mem _ (mem_del h)
theorem del_nodup {a : α} {m : List (α × β)} (h : (keys m).Nodup) : (keys (mDel a m)).Nodup := by
  rw [keys_del]; exact h.erase a
theorem mGet_del {a c : α} {m : List (α × β)} (h : (keys m).Nodup) : mGet c (mDel a m) = if a = c then none else mGet c m := by
  by_cases e : a = c
  · rw [if_pos e]
    refine mGet_none ?_
    rw [keys_del, e]
    exact fun q => (h.mem_erase_iff.mp q).1 rfl
  · rw [if_neg e]
    induction m with
    | nil => rfl
    | cons q r ih =>
      simp only [List.map_cons, List.nodup_cons] at h
      unfold mDel
      by_cases e2 : q.1 = a
      · rw [if_pos e2]
        show _ = mGet c (q :: r)
        unfold mGet
        rw [if_neg (by rw [e2]; exact e)]
        cases r <;> rfl
      · rw [if_neg e2]
        show mGet c (q :: mDel a r) = mGet c (q :: r)
        unfold mGet
        split
        · rfl
        · have := ih h.2
          cases r <;> exact this
theorem del_len {a : α} {m : List (α × β)} (h : a ∈ keys m) : (mDel a m).length + 1 = m.length := by
  have e := congrArg List.length (keys_del (a := a) (m := m))
  rw [List.length_erase_of_mem h] at e
  unfold keys at e h
  simp only [List.length_map] at e
  have : 0 < m.length := by
    cases m with
    | nil => cases h
    | cons _ _ => simp
  omega
end
end PG
namespace PG
open PySem L2 VL
structure NS where
  num : Int
  width : Int
  room : Int
  st : List (Int × Hs)
  use : List Int
  q : List Dd
  done : List (Dd × Int)
def leaving : Hs → Bool
  | .lvW _ => true | .lvR => true | .lvE => true | _ => false
def wanted : Hs → Bool
  | .wantR => true | .wantW _ => true | _ => false
namespace NS
def enc (n : NS) : Ty_Near := (n.num, n.width, n.room, n.st, n.use, n.q, n.done)
def «at» (n : NS) (l : Int) : Hs := (mGet l n.st).getD .away
def line (n : NS) (d : Dd) : Int := d.addr / n.width
def spot (n : NS) (d : Dd) : Nat := (d.addr % n.width).toNat
def put (n : NS) (l : Int) (s : Hs) : NS :=
  { n with use := if s.may = "none" then n.use.filter (fun x => !decide (x = l)) else n.use, st := if s.kind = "away" then mDel l n.st else mPut l s n.st }
def found (n : NS) (d : Dd) : Int := ((n.at (n.line d)).words.getD []).getD (n.spot d) 0
def first (n : NS) (d : Dd) : NS :=
  { n with
    st := if d.wants = "write" then mPut (n.line d) (.wr (some (((n.at (n.line d)).words.getD []).set (n.spot d) (d.behind (n.found d))))) n.st else n.st
    use := (n.use.filter fun x => !decide (x = n.line d)) ++ [n.line d]
    q := n.q.tail
    done := n.done ++ [(d, n.found d)] }
def giveBack (n : NS) : List Lt × NS :=
  if n.st.any (fun q => leaving q.2) = true then ([], n)
  else match n.use with
    | [] => ([], n)
    | l :: r => if (n.at l).kind = "writer" then ([("back", l, n.num, (n.at l).words)], { n with st := mPut l (.lvW (n.at l).words) n.st, use := r })
      else ([("back", l, n.num, none)], { n with st := mPut l .lvR n.st, use := r })
def sendFor (n : NS) (d : Dd) : List Lt × NS :=
  if (n.at (n.line d)).kind = "reader" then ([("write", n.line d, n.num, none)], { n with st := mPut (n.line d) (.wantW (n.at (n.line d)).words) n.st })
  else if (n.at (n.line d)).kind ≠ "away" then ([], n)
  else if n.room ≤ (n.st.length : Int) then n.giveBack
  else if d.wants = "read" then ([("read", n.line d, n.num, none)], { n with st := mPut (n.line d) .wantR n.st })
  else ([("write", n.line d, n.num, none)], { n with st := mPut (n.line d) (.wantW none) n.st })
def fit (n : NS) (d : Dd) : Bool := decide ((n.at (n.line d)).may = "write") || decide ((n.at (n.line d)).may = d.wants)
def work : List Dd → NS → List Lt × NS
  | [], n => ([], n)
  | d :: r, n => if n.fit d = true then work r (n.first d) else n.sendFor d
def met (n : NS) (l : Lt) : Option (List Lt × NS) := ((n.at l.2.1).met l.1 l.2.2.2).map fun q => ((match q.2 with | some a => [(a.1, l.2.1, n.num, a.2)] | none => []), n.put l.2.1 q.1)
def come (n : NS) (l : Lt) : Option (List Lt × NS) := (n.met l).map fun q => (q.1 ++ (work q.2.q q.2).1, (work q.2.q q.2).2)
def ask (n : NS) (d : Dd) : List Lt × NS := work (n.q ++ [d]) { n with q := n.q ++ [d] }
end NS
def okS (w : Int) : Hs → Prop
  | .away => False
  | .rd x => ∃ ws, x = some ws ∧ (ws.length : Int) = w
  | .wr x => ∃ ws, x = some ws ∧ (ws.length : Int) = w
  | .lvW x => ∃ ws, x = some ws ∧ (ws.length : Int) = w
  | .wantW x => x = none ∨ ∃ ws, x = some ws ∧ (ws.length : Int) = w
  | _ => True
structure NI (n : NS) : Prop where
  wpos : 1 ≤ n.width
  wle : n.width ≤ 16
  room : 1 ≤ n.room
  rle : n.room ≤ 64
  kn : (keys n.st).Nodup
  vals : ∀ q ∈ n.st, okS n.width q.2
  useA : ∀ l ∈ n.use, (n.at l).may ≠ "none"
  useB : ∀ l, (n.at l).may ≠ "none" → l ∈ n.use ∨ ∃ d r, n.q = d :: r ∧ n.line d = l ∧ n.fit d = true
  useN : n.use.Nodup
  len : (n.st.length : Int) ≤ n.room
  want : ∀ l, wanted (n.at l) = true → ∃ d r, n.q = d :: r ∧ n.line d = l ∧ ((n.at l) = .wantR ↔ d.wants = "read")
  addr : ∀ d ∈ n.q, 0 ≤ d.addr
  lens : n.q.length + n.done.length ≤ 100000
theorem at_ok {n : NS} (h : ∀ q ∈ n.st, okS n.width q.2) {l : Int} (ha : n.at l ≠ .away) : okS n.width (n.at l) := by
  unfold NS.at at ha ⊢
  cases e : mGet l n.st with
  | none => rw [e] at ha; exact absurd rfl ha
  | some s => exact h _ (mGet_mem e)
theorem g_state (n : NS) (l : Int) : g_Near_state n.enc l = some (n.at l) := by
  unfold g_Near_state NS.at
  show (if mHas l n.st = true then (mGet l n.st).bind fun v2 => some v2 else some Hs.away) = _
  rw [mHas_get]
  cases mGet l n.st <;> rfl
theorem cutA_lo (xs : List Int) (k : Nat) : cutA xs none (some (k : Int)) = xs.take k := by
  unfold cutA
  have e : HT.sIx xs.length xs.length (some (k : Int)) = min k xs.length := by
    show (if (k : Int) < 0 then ((k : Int) + (xs.length : Int)).toNat else min (k : Int).toNat xs.length) = _
    rw [if_neg (by omega), Int.toNat_natCast]
  rw [e]
  show (xs.drop 0).take (min k xs.length - 0) = _
  rw [List.drop_zero, Nat.sub_zero]
  by_cases h : k ≤ xs.length
  · rw [Nat.min_eq_left h]
  · rw [Nat.min_eq_right (by omega), List.take_length, List.take_of_length_le (by omega)]
theorem g_put_in_ok {ws : List Int} {k : Nat} {v : Int} (h : k < ws.length) (hl : ws.length < 1000) : g_put_in ws (k : Int) v = some (ws.set k v) := by
  unfold g_put_in
  rw [cutA_lo]
  have e2 : cutA ws (some ((k : Int) + 1)) none = ws.drop (k + 1) := by
    rw [show (k : Int) + 1 = ((k + 1 : Nat) : Int) by omega, cutA_drop]
  rw [e2, addU_of (by simp only [List.length_take, List.length_singleton]; omega), Option.bind_some, addU_of (by simp only [List.length_append, List.length_take, List.length_drop, List.length_singleton]; omega), Option.bind_some]
  rw [List.set_eq_take_append_cons_drop, if_pos h]
  simp
theorem use_len {n : NS} (h : NI n) : n.use.length ≤ n.st.length := by
  have sub : ∀ l ∈ n.use, l ∈ keys n.st := fun l hl => by
    have := h.useA l hl
    unfold NS.at at this
    cases e : mGet l n.st with
    | none => rw [e] at this; exact absurd rfl this
    | some s => exact mem_keys.mpr ⟨s, e⟩
  have go : ∀ (us ks : List Int), us.Nodup → (∀ l ∈ us, l ∈ ks) → us.length ≤ ks.length := by
    intro us
    induction us with
    | nil => intro ks _ _; simp
    | cons a r ih =>
      intro ks hn hs
      have hn' := List.nodup_cons.mp hn
      have ha := hs a List.mem_cons_self
      have := ih (ks.erase a) hn'.2 (fun l hl => (List.mem_erase_of_ne (fun e => hn'.1 (by rw [← e]; exact hl))).mpr (hs l (List.mem_cons_of_mem _ hl)))
      rw [List.length_erase_of_mem ha] at this
      have : 0 < ks.length := List.length_pos_of_mem ha
      simp only [List.length_cons]; omega
  have := go n.use (keys n.st) h.useN sub
  unfold keys at this
  simpa using this
theorem may_read {s : Hs} (h : s.may = "read") : ∃ x, (s = .rd x) ∨ (s = .wantW x ∧ x.isSome = true) := by
  cases s with
  | rd x => exact ⟨x, .inl rfl⟩
  | wantW x => cases x with
    | none => simp [Hs.may] at h
    | some y => exact ⟨some y, .inr ⟨rfl, rfl⟩⟩
  | _ => simp [Hs.may] at h
theorem may_write {s : Hs} (h : s.may = "write") : ∃ x, s = .wr x := by
  cases s with
  | wr x => exact ⟨x, rfl⟩
  | wantW x => cases x <;> simp [Hs.may] at h
  | _ => simp [Hs.may] at h
theorem wants_or (d : Dd) : d.wants = "read" ∨ d.wants = "write" := by cases d <;> simp [Dd.wants]
theorem fit_words {n : NS} (h : NI n) {d : Dd} (hf : n.fit d = true) : ∃ ws, (n.at (n.line d)).words = some ws ∧ (ws.length : Int) = n.width ∧ (d.wants = "write" → n.at (n.line d) = .wr (some ws)) := by
  unfold NS.fit at hf
  simp only [Bool.or_eq_true, decide_eq_true_eq] at hf
  have wr : (n.at (n.line d)).may = "write" → ∃ ws, (n.at (n.line d)).words = some ws ∧ (ws.length : Int) = n.width ∧ n.at (n.line d) = .wr (some ws) := fun q => by
    obtain ⟨x, hx⟩ := may_write q
    have := at_ok h.vals (l := n.line d) (by rw [hx]; simp)
    rw [hx] at this
    obtain ⟨ws, rfl, hl⟩ := this
    exact ⟨ws, by rw [hx]; rfl, hl, hx⟩
  rcases hf with hf | hf
  · obtain ⟨ws, a, b, c⟩ := wr hf; exact ⟨ws, a, b, fun _ => c⟩
  · rcases wants_or d with e | e
    · rw [e] at hf
      obtain ⟨x, hx | ⟨hx, hs⟩⟩ := may_read hf
      · have := at_ok h.vals (l := n.line d) (by rw [hx]; simp)
        rw [hx] at this
        obtain ⟨ws, rfl, hl⟩ := this
        exact ⟨ws, by rw [hx]; rfl, hl, fun q => by rw [e] at q; simp at q⟩
      · have := at_ok h.vals (l := n.line d) (by rw [hx]; simp)
        rw [hx] at this
        rcases this with rfl | ⟨ws, rfl, hl⟩
        · cases hs
        · exact ⟨ws, by rw [hx]; rfl, hl, fun q => by rw [e] at q; simp at q⟩
    · rw [e] at hf
      obtain ⟨ws, a, b, c⟩ := wr hf; exact ⟨ws, a, b, fun _ => c⟩
theorem spot_lt {n : NS} (h : NI n) {d : Dd} : (n.spot d : Int) < n.width ∧ (n.spot d : Int) = d.addr % n.width := by
  unfold NS.spot
  have := h.wpos
  have h1 := Int.emod_nonneg d.addr (show n.width ≠ 0 by omega)
  have h2 := Int.emod_lt_of_pos d.addr (show 0 < n.width by omega)
  omega
theorem g_first {n : NS} (h : NI n) {d : Dd} {r : List Dd} (hq : n.q = d :: r) (hf : n.fit d = true) : g_Near_do_first n.enc d (n.line d) (n.at (n.line d)) = some ((), (n.first d).enc) := by
  obtain ⟨ws, hw, hl, hwr⟩ := fit_words h hf
  obtain ⟨sp1, sp2⟩ := spot_lt h (d := d)
  have hul := use_len h
  have hsl : n.st.length ≤ 64 := by have := h.len; have := h.rle; omega
  have hlens := h.lens
  have hwle := h.wle
  unfold g_Near_do_first NS.first NS.found
  have e0 : n.enc.2.1 = n.width := rfl
  simp only [dd_place, Option.bind_some, g_spot_of, e0]
  rw [modI_of (by have := h.wpos; omega)]
  simp only [Option.bind_some, hs_words, hw, dd_wants]
  have hk : n.spot d < ws.length := by omega
  have hg : getI ws (d.addr % n.width) = some (ws.getD (n.spot d) 0) := by
    rw [← sp2, getI_nat, List.getElem?_eq_getElem hk, List.getD_eq_getElem?_getD, List.getElem?_eq_getElem hk]; rfl
  rw [hg]
  simp only [Option.bind_some, Option.getD_some, dd_behind, ← sp2]
  have tailE : ∀ (st : List (Int × Hs)), (lcM (fun x18 => some (!decide (x18 = n.line d))) (fun x18 => some x18) n.use).bind (fun l19 => (ckL n.use l19).bind fun l20 => (appL l20 (n.line d)).bind fun l21 => (dd_plain d).bind fun r22 => (appL n.done (r22, ws.getD (n.spot d) 0)).bind fun l23 => (popI n.q).bind fun q24 => some ((), ((n.num, n.width, n.room, st, l21, q24.2, l23) : Ty_Near))) = some ((), ({ n with st := st, use := (n.use.filter fun x => !decide (x = n.line d)) ++ [n.line d], q := n.q.tail, done := n.done ++ [(d, ws.getD (n.spot d) 0)] } : NS).enc) := by
    intro st
    have fl : (n.use.filter fun x => !decide (x = n.line d)).length ≤ n.use.length := List.length_filter_le _ _
    rw [lcM_filter, Option.bind_some, ckL_of (by omega), Option.bind_some, appL_of (by omega), Option.bind_some]
    simp only [dd_plain, Option.bind_some]
    rw [appL_of (by omega), Option.bind_some, hq]
    rfl
  by_cases c : d.wants = "write"
  · simp only [c, decide_true, if_true]
    rw [g_put_in_ok hk (by omega)]
    simp only [Option.bind_some]
    have e1 : n.enc.2.2.2.1.length < 10000000 := by show n.st.length < _; omega
    rw [if_pos e1]
    simp only [Option.bind_some]
    exact tailE (mPut (n.line d) (Hs.wr (some (ws.set (n.spot d) (d.behind (ws.getD (n.spot d) 0))))) n.st)
  · simp only [c, decide_false, Bool.false_eq_true, if_false, Option.bind_some]
    exact tailE n.st
theorem kind_reader {s : Hs} (h : s.kind = "reader") : ∃ x, s = .rd x := by cases s <;> simp [Hs.kind] at h; exact ⟨_, rfl⟩
theorem kind_writer {s : Hs} (h : s.kind = "writer") : ∃ x, s = .wr x := by cases s <;> simp [Hs.kind] at h; exact ⟨_, rfl⟩
theorem kind_away {s : Hs} : s.kind = "away" ↔ s = .away := by cases s <;> simp [Hs.kind]
theorem kind_leaving {s : Hs} : decide (s.kind ∈ ["leaving writer", "leaving reader", "leaving empty"]) = leaving s := by cases s <;> simp [Hs.kind, leaving]
theorem at_get {n : NS} {l : Int} {s : Hs} (h : mGet l n.st = some s) : n.at l = s := by unfold NS.at; rw [h]; rfl
theorem at_some {n : NS} {l : Int} (h : n.at l ≠ .away) : mGet l n.st = some (n.at l) := by
  unfold NS.at at h ⊢
  cases e : mGet l n.st with
  | none => rw [e] at h; exact absurd rfl h
  | some s => rfl
theorem at_key {n : NS} {l : Int} (h : n.at l ≠ .away) : l ∈ keys n.st := mem_keys.mpr ⟨_, at_some h⟩
theorem g_give {n : NS} (h : NI n) (hu : n.st.any (fun q => leaving q.2) = false → n.use ≠ []) : g_Near_give_back n.enc = some ((n.giveBack).1, (n.giveBack).2.enc) := by
  have loop : ∀ (xs : List (Int × Hs)), (∀ q ∈ xs, mGet q.1 n.st = some q.2) → loopM (ρ := (List Lt) × Ty_Near) (fun (s1 : Unit) x2 => (mGet x2 n.st).bind fun v5 => (mGet x2 n.st).bind fun v6 => (hs_kind v6).bind fun r7 => if (decide (r7 ∈ ["leaving writer", "leaving reader", "leaving empty"])) = true then some (Lo.rt (([] : (List Lt)), n.enc)) else some (Lo.nx ())) (xs.map (·.1)) () = some (if xs.any (fun q => leaving q.2) = true then .inr ([], n.enc) else .inl ()) := by
    intro xs
    induction xs with
    | nil => intro _; rfl
    | cons q r ih =>
      intro hx
      rw [List.map_cons]
      unfold loopM
      rw [hx q List.mem_cons_self]
      simp only [Option.bind_some, hs_kind, List.any_cons]
      have hk := kind_leaving (s := q.2)
      by_cases hq : leaving q.2 = true
      · rw [hq] at hk
        rw [hk]
        simp [hq]
      · have hq' : leaving q.2 = false := by simpa using hq
        rw [hq'] at hk
        rw [hk]
        simp only [Bool.false_eq_true, if_false, Option.bind_some, hq', Bool.false_or]
        exact ih fun p hp => hx p (List.mem_cons_of_mem _ hp)
  have hl := loop n.st (fun q hq => mGet_of h.kn hq)
  have hsl : n.st.length ≤ 64 := by have := h.len; have := h.rle; omega
  unfold g_Near_give_back NS.giveBack
  refine (congrArg (fun o => Option.bind o _) (show loopM _ (n.st.map (·.1)) () = _ from hl)).trans ?_
  rw [Option.bind_some]
  cases ha : n.st.any (fun q => leaving q.2) with
  | true => simp
  | false =>
    simp only [Bool.false_eq_true, if_false, Sum.elim_inl]
    have e0 : n.enc.2.2.2.2.1 = n.use := rfl
    have e1 : n.enc.2.2.2.1 = n.st := rfl
    rw [e0, e1]
    cases hn : n.use with
    | nil => exact absurd hn (hu ha)
    | cons l r =>
      have hm : (n.at l).may ≠ "none" := h.useA l (by rw [hn]; exact List.mem_cons_self)
      have hna : n.at l ≠ .away := fun e => hm (by rw [e]; rfl)
      simp only [popI, Option.bind_some, at_some hna, hs_kind, hs_words]
      rw [if_pos (show n.st.length < 10000000 by omega)]
      simp only [Option.bind_some]
      rw [make _ _ _ _ (by simp), make _ _ _ _ (by simp)]
      by_cases c : (n.at l).kind = "writer"
      · simp only [c, decide_true, if_true, Option.bind_some]; rfl
      · simp only [c, decide_false, Bool.false_eq_true, if_false, Option.bind_some]; rfl
theorem full_use {n : NS} (h : NI n) {d : Dd} {r : List Dd} (hq : n.q = d :: r) (ha : n.at (n.line d) = .away) (hf : n.room ≤ (n.st.length : Int)) (hl : n.st.any (fun q => leaving q.2) = false) : n.use ≠ [] := by
  intro hu
  cases hs : n.st with
  | nil => rw [hs] at hf; have := h.room; simp at hf; omega
  | cons q s =>
    have hq0 : q ∈ n.st := by rw [hs]; exact List.mem_cons_self
    have e : n.at q.1 = q.2 := at_get (mGet_of h.kn hq0)
    have ok := h.vals q hq0
    have nl : leaving q.2 = false := by
      have := List.any_eq_false.mp hl q hq0
      simpa using this
    have nw : wanted q.2 = false := by
      cases hw : wanted q.2 with
      | false => rfl
      | true =>
        obtain ⟨d', r', h1, h2, _⟩ := h.want q.1 (by rw [e]; exact hw)
        rw [hq] at h1; cases h1
        rw [← h2, ha] at e
        rw [← e] at hw
        cases hw
    have : q.1 ∈ n.use := (h.useB q.1 (by
      rw [e]
      cases hh : q.2 with
      | away => rw [hh] at ok; exact absurd ok id
      | rd x => simp [Hs.may]
      | wr x => simp [Hs.may]
      | wantR => rw [hh] at nw; cases nw
      | wantW x => rw [hh] at nw; cases nw
      | lvW x => rw [hh] at nl; cases nl
      | lvR => rw [hh] at nl; cases nl
      | lvE => rw [hh] at nl; cases nl)).resolve_right (by
      rintro ⟨d', r', h1, h2, h3⟩
      rw [hq] at h1; cases h1
      unfold NS.fit at h3
      rw [ha] at h3
      rcases wants_or d with w | w <;> rw [w] at h3 <;> simp [Hs.may] at h3)
    rw [hu] at this; cases this
theorem g_send {n : NS} (h : NI n) {d : Dd} {r : List Dd} (hq : n.q = d :: r) : g_Near_send_for n.enc d (n.line d) (n.at (n.line d)) = some ((n.sendFor d).1, (n.sendFor d).2.enc) := by
  have hsl : n.st.length ≤ 64 := by have := h.len; have := h.rle; omega
  unfold g_Near_send_for NS.sendFor
  simp only [hs_kind, hs_words, dd_wants, Option.bind_some]
  have e1 : n.enc.2.2.2.1 = n.st := rfl
  have e2 : n.enc.2.2.1 = n.room := rfl
  rw [e1, e2, if_pos (show n.st.length < 10000000 by omega), if_pos (show n.st.length ≤ 10000000 by omega)]
  simp only [Option.bind_some]
  rw [make _ _ _ _ (by simp), make _ _ _ _ (by simp)]
  simp only [Option.bind_some]
  by_cases c1 : (n.at (n.line d)).kind = "reader"
  · simp only [c1, decide_true, if_true]; rfl
  · simp only [c1, decide_false, Bool.false_eq_true, if_false]
    by_cases c2 : (n.at (n.line d)).kind = "away"
    · simp only [c2, decide_true, Bool.not_true, Bool.false_eq_true, if_false, ne_eq, not_true_eq_false]
      by_cases c3 : n.room ≤ (n.st.length : Int)
      · simp only [c3, decide_true, if_true]
        rw [g_give h (fun hl => full_use h hq (kind_away.mp c2) c3 hl), Option.bind_some]
      · simp only [c3, decide_false, Bool.false_eq_true, if_false]
        by_cases c4 : d.wants = "read"
        · simp only [c4, decide_true, if_true]; rfl
        · simp only [c4, decide_false, Bool.false_eq_true, if_false]; rfl
    · simp only [c2, decide_false, Bool.not_false, if_true, ne_eq, not_false_eq_true]
theorem at_mk {n m : NS} {l k : Int} {s : Hs} (h : m.st = mPut l s n.st) : m.at k = if l = k then s else n.at k := by
  unfold NS.at
  rw [h, mGet_put]
  split <;> rfl
theorem at_st {n m : NS} {k : Int} (h : m.st = n.st) : m.at k = n.at k := by unfold NS.at; rw [h]
theorem fit_false {n : NS} {d : Dd} (h : n.fit d = true) (hs : wanted (n.at (n.line d)) = true) : (n.at (n.line d)) ≠ .wantR ∧ d.wants = "read" := by
  unfold NS.fit at h
  simp only [Bool.or_eq_true, decide_eq_true_eq] at h
  cases e : n.at (n.line d) with
  | wantR =>
    rw [e] at h
    simp only [Hs.may] at h
    rcases wants_or d with q | q <;> rw [q] at h <;> simp at h
  | wantW x =>
    refine ⟨by simp, ?_⟩
    rw [e] at h
    cases x with
    | none => simp only [Hs.may] at h; rcases wants_or d with q | q <;> rw [q] at h <;> simp at h
    | some y => simp only [Hs.may] at h; rcases wants_or d with q | q <;> rw [q] at h <;> simp at h; exact q
  | _ => rw [e] at hs; cases hs
theorem no_want {n : NS} (h : NI n) {d : Dd} {r : List Dd} (hq : n.q = d :: r) (hf : n.fit d = true) (l : Int) : wanted (n.at l) = false := by
  cases hw : wanted (n.at l) with
  | false => rfl
  | true =>
    obtain ⟨d', r', h1, h2, h3⟩ := h.want l hw
    rw [hq] at h1; cases h1
    subst h2
    obtain ⟨a, b⟩ := fit_false hf hw
    exact absurd (h3.mpr b) a
theorem ni_first {n : NS} (h : NI n) {d : Dd} {r : List Dd} (hq : n.q = d :: r) (hf : n.fit d = true) : NI (n.first d) := by
  obtain ⟨ws, hw, hl, hwr⟩ := fit_words h hf
  have hmay : (n.at (n.line d)).may ≠ "none" := by
    unfold NS.fit at hf
    simp only [Bool.or_eq_true, decide_eq_true_eq] at hf
    rcases hf with hf | hf <;> rw [hf]
    · simp
    · rcases wants_or d with q | q <;> rw [q] <;> simp
  have hna : n.at (n.line d) ≠ .away := fun e => hmay (by rw [e]; rfl)
  have hk := at_key hna
  have hat : ∀ l, (n.first d).at l = if n.line d = l ∧ d.wants = "write" then .wr (some (ws.set (n.spot d) (d.behind (n.found d)))) else n.at l := fun l => by
    by_cases c : d.wants = "write"
    · have := at_mk (n := n) (m := n.first d) (l := n.line d) (k := l) (s := .wr (some (((n.at (n.line d)).words.getD []).set (n.spot d) (d.behind (n.found d))))) (by unfold NS.first; simp [c])
      rw [this, hw]
      simp [c]
    · rw [at_st (n := n) (by unfold NS.first; simp [c])]
      simp [c]
  have mayE : ∀ l, ((n.first d).at l).may ≠ "none" ↔ (n.at l).may ≠ "none" := fun l => by
    rw [hat]
    split
    · rename_i q; rw [← q.1]; exact ⟨fun _ => hmay, fun _ => by simp [Hs.may]⟩
    · exact Iff.rfl
  refine ⟨h.wpos, h.wle, h.room, h.rle, ?_, ?_, ?_, ?_, ?_, ?_, ?_, ?_, ?_⟩
  · unfold NS.first; dsimp only; split
    · exact put_nodup h.kn
    · exact h.kn
  · intro q hq2
    unfold NS.first at hq2; dsimp only at hq2
    split at hq2
    · rcases mem_put hq2 with e | e
      · subst e
        rw [hw]
        exact ⟨_, rfl, by simp [hl]; rfl⟩
      · exact h.vals q e
    · exact h.vals q hq2
  · intro l hl2
    rw [mayE]
    have hl3 : l ∈ (n.use.filter fun x => !decide (x = n.line d)) ++ [n.line d] := hl2
    rw [List.mem_append, List.mem_filter, List.mem_singleton] at hl3
    rcases hl3 with q | q
    · exact h.useA l q.1
    · rw [q]; exact hmay
  · intro l hl2
    rw [mayE] at hl2
    left
    show l ∈ (n.use.filter fun x => !decide (x = n.line d)) ++ [n.line d]
    rw [List.mem_append, List.mem_filter, List.mem_singleton]
    by_cases e : l = n.line d
    · exact .inr e
    · refine .inl ⟨(h.useB l hl2).resolve_right ?_, by simp [e]⟩
      rintro ⟨d', r', h1, h2, _⟩
      rw [hq] at h1; cases h1
      exact e h2.symm
  · show ((n.use.filter fun x => !decide (x = n.line d)) ++ [n.line d]).Nodup
    rw [List.nodup_append]
    refine ⟨h.useN.filter _, by simp, fun a ha b hb e => ?_⟩
    rw [List.mem_singleton.mp hb] at e
    have := (List.mem_filter.mp ha).2
    simp [e] at this
  · unfold NS.first; dsimp only; split
    · rw [put_len, if_pos hk]; exact h.len
    · exact h.len
  · intro l hl2
    rw [hat] at hl2
    split at hl2
    · cases hl2
    · rw [no_want h hq hf l] at hl2; cases hl2
  · intro d' hd'
    have : d' ∈ n.q.tail := hd'
    exact h.addr d' (List.mem_of_mem_tail this)
  · have := h.lens
    show n.q.tail.length + (n.done ++ [(d, n.found d)]).length ≤ _
    rw [hq] at this ⊢
    simp only [List.length_cons, List.tail_cons, List.length_append, List.length_singleton, List.length_nil] at this ⊢
    omega
def Settled (n : NS) : Prop := match n.q with
  | [] => True
  | d :: _ => wanted (n.at (n.line d)) = true ∨ leaving (n.at (n.line d)) = true ∨ (n.at (n.line d) = .away ∧ n.room ≤ (n.st.length : Int) ∧ n.st.any (fun q => leaving q.2) = true)
end PG
namespace PG
open PySem L2 VL
theorem fit_may {n m : NS} {d : Dd} (hw : m.width = n.width) (ha : m.at (n.line d) = n.at (n.line d)) : m.fit d = n.fit d := by
  unfold NS.fit NS.line
  rw [hw]
  unfold NS.line at ha
  rw [ha]
theorem ni_mk {n m : NS} (h : NI n) {l : Int} {s : Hs} {d : Dd} {r : List Dd} (hq : n.q = d :: r) (e1 : m.width = n.width) (e2 : m.room = n.room) (e3 : m.q = n.q) (e4 : m.done = n.done) (hs : m.st = mPut l s n.st) (ok : okS n.width s)
    (uA : ∀ k ∈ m.use, (if l = k then s else n.at k).may ≠ "none") (uB : ∀ k, (if l = k then s else n.at k).may ≠ "none" → k ∈ m.use) (uN : m.use.Nodup) (hl : l ∈ keys n.st ∨ (n.st.length : Int) < n.room)
    (hw : ∀ k, wanted (if l = k then s else n.at k) = true → n.line d = k ∧ ((if l = k then s else n.at k) = .wantR ↔ d.wants = "read")) : NI m := by
  have hat : ∀ k, m.at k = if l = k then s else n.at k := fun k => at_mk hs
  refine ⟨by rw [e1]; exact h.wpos, by rw [e1]; exact h.wle, by rw [e2]; exact h.room, by rw [e2]; exact h.rle, by rw [hs]; exact put_nodup h.kn, ?_, ?_, ?_, uN, ?_, ?_, by rw [e3]; exact h.addr, by rw [e3, e4]; exact h.lens⟩
  · intro q hq2
    rw [hs] at hq2
    rw [e1]
    rcases mem_put hq2 with e | e
    · subst e; exact ok
    · exact h.vals q e
  · intro k hk; rw [hat]; exact uA k hk
  · intro k hk; rw [hat] at hk; exact .inl (uB k hk)
  · rw [hs, put_len, e2]
    split
    · exact h.len
    · rename_i hn
      have := hl.resolve_left hn
      simp only [Int.natCast_add, Int.natCast_one]
      omega
  · intro k hk
    rw [hat] at hk ⊢
    obtain ⟨h1, h2⟩ := hw k hk
    exact ⟨d, r, by rw [e3]; exact hq, by unfold NS.line; rw [e1]; exact h1, h2⟩
theorem used {n : NS} (h : NI n) {d : Dd} {r : List Dd} (hq : n.q = d :: r) (hf : n.fit d = false) (l : Int) : l ∈ n.use ↔ (n.at l).may ≠ "none" :=
  ⟨h.useA l, fun q => (h.useB l q).resolve_right (by
    rintro ⟨d', r', h1, _, h3⟩
    rw [hq] at h1; cases h1
    rw [hf] at h3; cases h3)⟩
theorem only_want {n : NS} (h : NI n) {d : Dd} {r : List Dd} (hq : n.q = d :: r) {l : Int} (hw : wanted (n.at l) = true) : n.line d = l ∧ (n.at l = .wantR ↔ d.wants = "read") := by
  obtain ⟨d', r', h1, h2, h3⟩ := h.want l hw
  rw [hq] at h1; cases h1
  exact ⟨h2, h3⟩
theorem any_leaving {m : List (Int × Hs)} {l : Int} {s : Hs} (hs : leaving s = true) : (mPut l s m).any (fun q => leaving q.2) = true := by
  rw [List.any_eq_true]
  refine ⟨(l, s), ?_, hs⟩
  have : mGet l (mPut l s m) = some s := by rw [mGet_put, if_pos rfl]
  exact mGet_mem this
theorem ni_give {n : NS} (h : NI n) {d : Dd} {r : List Dd} (hq : n.q = d :: r) (hf : n.fit d = false) (ha : n.at (n.line d) = .away) (hr : n.room ≤ (n.st.length : Int)) : NI n.giveBack.2 ∧ Settled n.giveBack.2 ∧ n.giveBack.2.q = n.q ∧ n.giveBack.2.done = n.done ∧ n.giveBack.2.num = n.num ∧ n.giveBack.2.width = n.width ∧ n.giveBack.2.room = n.room := by
  unfold NS.giveBack
  by_cases hl : n.st.any (fun q => leaving q.2) = true
  · rw [if_pos hl]
    refine ⟨h, ?_, rfl, rfl, rfl, rfl, rfl⟩
    unfold Settled
    rw [hq]
    exact .inr (.inr ⟨ha, hr, hl⟩)
  · rw [if_neg hl]
    have hl' : n.st.any (fun q => leaving q.2) = false := by simpa using hl
    cases hu : n.use with
    | nil => exact absurd hu (full_use h hq ha hr hl')
    | cons l u =>
      have hm : (n.at l).may ≠ "none" := h.useA l (by rw [hu]; exact List.mem_cons_self)
      have hna : n.at l ≠ .away := fun e => hm (by rw [e]; rfl)
      have hne : l ≠ n.line d := fun e => hna (by rw [e]; exact ha)
      have hnd := h.useN
      rw [hu] at hnd
      have hnd' := List.nodup_cons.mp hnd
      have ku := used h hq hf
      rw [hu] at ku
      have core : ∀ (m : NS) (s : Hs), m.width = n.width → m.room = n.room → m.q = n.q → m.done = n.done → m.num = n.num → m.use = u → m.st = mPut l s n.st → okS n.width s → s.may = "none" → wanted s = false → leaving s = true → NI m ∧ Settled m := by
        intro m s e1 e2 e3 e4 e5 e6 e7 ok hs hw hlv
        refine ⟨ni_mk h hq e1 e2 e3 e4 e7 ok ?_ ?_ (by rw [e6]; exact hnd'.2) (.inl (at_key hna)) ?_, ?_⟩
        · intro k hk
          rw [e6] at hk
          have : l ≠ k := fun e => hnd'.1 (e ▸ hk)
          rw [if_neg this]
          exact (ku k).mp (List.mem_cons_of_mem _ hk)
        · intro k hk
          rw [e6]
          by_cases e : l = k
          · rw [if_pos e, hs] at hk; exact absurd rfl hk
          · rw [if_neg e] at hk
            rcases List.mem_cons.mp ((ku k).mpr hk) with q | q
            · exact absurd q.symm e
            · exact q
        · intro k hk
          by_cases e : l = k
          · rw [if_pos e, hw] at hk; cases hk
          · rw [if_neg e] at hk ⊢
            exact only_want h hq hk
        · unfold Settled
          rw [e3, hq]
          right; right
          have hln : m.line d = n.line d := by unfold NS.line; rw [e1]
          rw [hln, at_mk e7, if_neg hne, e2, e7, put_len, if_pos (at_key hna)]
          exact ⟨ha, hr, any_leaving hlv⟩
      have okl := at_ok h.vals hna
      dsimp only
      split
      · rename_i hk
        obtain ⟨x, hx⟩ := kind_writer hk
        rw [hx] at okl
        obtain ⟨a, b⟩ := core { n with st := mPut l (.lvW (n.at l).words) n.st, use := u } (.lvW (n.at l).words) rfl rfl rfl rfl rfl rfl rfl (by rw [hx]; exact okl) rfl rfl rfl
        exact ⟨a, b, rfl, rfl, rfl, rfl, rfl⟩
      · obtain ⟨a, b⟩ := core { n with st := mPut l .lvR n.st, use := u } .lvR rfl rfl rfl rfl rfl rfl rfl trivial rfl rfl rfl
        exact ⟨a, b, rfl, rfl, rfl, rfl, rfl⟩
theorem ni_send {n : NS} (h : NI n) {d : Dd} {r : List Dd} (hq : n.q = d :: r) (hf : n.fit d = false) : NI (n.sendFor d).2 ∧ Settled (n.sendFor d).2 ∧ (n.sendFor d).2.q = n.q ∧ (n.sendFor d).2.done = n.done ∧ (n.sendFor d).2.num = n.num ∧ (n.sendFor d).2.width = n.width ∧ (n.sendFor d).2.room = n.room := by
  have ku := used h hq hf
  have nf : (n.at (n.line d)).may ≠ "write" ∧ (n.at (n.line d)).may ≠ d.wants := by
    unfold NS.fit at hf
    simpa using hf
  have core : ∀ (m : NS) (s : Hs), m.width = n.width → m.room = n.room → m.q = n.q → m.done = n.done → m.use = n.use → m.st = mPut (n.line d) s n.st → okS n.width s → ((s.may ≠ "none") ↔ ((n.at (n.line d)).may ≠ "none")) → wanted s = true → (s = .wantR ↔ d.wants = "read") → (n.line d ∈ keys n.st ∨ (n.st.length : Int) < n.room) → NI m ∧ Settled m := by
    intro m s e1 e2 e3 e4 e6 e7 ok hs hw hr hl
    refine ⟨ni_mk h hq e1 e2 e3 e4 e7 ok ?_ ?_ (by rw [e6]; exact h.useN) hl ?_, ?_⟩
    · intro k hk
      rw [e6] at hk
      have := (ku k).mp hk
      by_cases e : n.line d = k
      · rw [if_pos e]; exact hs.mpr (e ▸ this)
      · rw [if_neg e]; exact this
    · intro k hk
      rw [e6]
      by_cases e : n.line d = k
      · rw [if_pos e] at hk; exact (ku k).mpr (e ▸ hs.mp hk)
      · rw [if_neg e] at hk; exact (ku k).mpr hk
    · intro k hk
      by_cases e : n.line d = k
      · rw [if_pos e]; exact ⟨e, hr⟩
      · rw [if_neg e] at hk ⊢
        exact only_want h hq hk
    · unfold Settled
      rw [e3, hq]
      left
      have hln : m.line d = n.line d := by unfold NS.line; rw [e1]
      rw [hln, at_mk e7, if_pos rfl]
      exact hw
  unfold NS.sendFor
  by_cases c1 : (n.at (n.line d)).kind = "reader"
  · rw [if_pos c1]
    obtain ⟨x, hx⟩ := kind_reader c1
    have ok := at_ok h.vals (l := n.line d) (by rw [hx]; simp)
    rw [hx] at ok
    obtain ⟨ws, rfl, hwl⟩ := ok
    have hwr : d.wants = "write" := by
      have := nf.2
      rw [hx] at this
      exact (wants_or d).resolve_left fun e => this (by rw [e]; rfl)
    obtain ⟨a, b⟩ := core { n with st := mPut (n.line d) (.wantW (n.at (n.line d)).words) n.st } (.wantW (n.at (n.line d)).words) rfl rfl rfl rfl rfl rfl (by rw [hx]; exact .inr ⟨ws, rfl, hwl⟩) (by rw [hx]; simp [Hs.may, Hs.words]) rfl (by rw [hwr]; simp) (.inl (at_key (by rw [hx]; simp)))
    exact ⟨a, b, rfl, rfl, rfl, rfl, rfl⟩
  · rw [if_neg c1]
    by_cases c2 : (n.at (n.line d)).kind = "away"
    · rw [if_neg (by simpa using c2)]
      have ha := kind_away.mp c2
      by_cases c3 : n.room ≤ (n.st.length : Int)
      · rw [if_pos c3]
        exact ni_give h hq hf ha c3
      · rw [if_neg c3]
        by_cases c4 : d.wants = "read"
        · rw [if_pos c4]
          obtain ⟨a, b⟩ := core { n with st := mPut (n.line d) .wantR n.st } .wantR rfl rfl rfl rfl rfl rfl trivial (by rw [ha]; simp [Hs.may]) rfl (by rw [c4]; simp) (.inr (by omega))
          exact ⟨a, b, rfl, rfl, rfl, rfl, rfl⟩
        · rw [if_neg c4]
          obtain ⟨a, b⟩ := core { n with st := mPut (n.line d) (.wantW none) n.st } (.wantW none) rfl rfl rfl rfl rfl rfl (.inl rfl) (by rw [ha]; simp [Hs.may]) rfl (by simp [c4]) (.inr (by omega))
          exact ⟨a, b, rfl, rfl, rfl, rfl, rfl⟩
    · rw [if_pos (by simpa using c2)]
      refine ⟨h, ?_, rfl, rfl, rfl, rfl, rfl⟩
      unfold Settled
      rw [hq]
      dsimp only
      cases hs : n.at (n.line d) with
      | away => rw [hs] at c2; exact absurd rfl c2
      | rd x => rw [hs] at c1; exact absurd rfl c1
      | wr x => rw [hs] at nf; exact absurd rfl nf.1
      | wantR => exact .inl rfl
      | wantW x => exact .inl rfl
      | lvW x => exact .inr (.inl rfl)
      | lvR => exact .inr (.inl rfl)
      | lvE => exact .inr (.inl rfl)
theorem ni_work : ∀ (q : List Dd) {n : NS}, NI n → n.q = q → NI (NS.work q n).2 ∧ Settled (NS.work q n).2 ∧ (NS.work q n).2.num = n.num ∧ (NS.work q n).2.width = n.width ∧ (NS.work q n).2.room = n.room ∧ (∃ m, (NS.work q n).2.done = n.done ++ m ∧ m.map (·.1) ++ (NS.work q n).2.q = q)
  | [], n, h, hq => ⟨h, by unfold Settled NS.work; rw [hq]; trivial, rfl, rfl, rfl, [], by simp [NS.work], by simp [NS.work, hq]⟩
  | d :: r, n, h, hq => by
    unfold NS.work
    cases hf : n.fit d with
    | true =>
      rw [if_pos rfl]
      obtain ⟨a, b, c, d1, e, m, f, g⟩ := ni_work r (ni_first h hq hf) (by show n.q.tail = r; rw [hq]; rfl)
      exact ⟨a, b, c, d1, e, (d, n.found d) :: m, by rw [f]; show (n.done ++ [(d, n.found d)]) ++ m = _; simp, by simp [g]⟩
    | false =>
      rw [if_neg (by simp)]
      obtain ⟨a, b, c, d1, e, f, g⟩ := ni_send h hq hf
      exact ⟨a, b, e, f, g, [], by simp [d1], by simp [c, hq]⟩
theorem g_work : ∀ (q : List Dd) {n : NS} (m : Nat), NI n → n.q = q → whileM (ρ := (List Lt) × Ty_Near) (fun (s1 : Ty_Near) => some (decide ((0 : Int) < (s1.2.2.2.2.2.1.length : Int)))) (fun (s1 : Ty_Near) => (getI s1.2.2.2.2.2.1 (0 : Int)).bind fun v4 => (some v4).bind fun deed5 => (dd_place deed5).bind fun r6 => (g_line_of r6 s1.2.1).bind fun r7 => (some r7).bind fun line8 => (g_Near_state s1 line8).bind fun r9 => (some r9).bind fun state10 => (hs_may state10).bind fun r11 => (if (!decide (r11 = "write")) = true then (hs_may state10).bind fun r12 => (dd_wants deed5).bind fun r13 => some (!decide (r12 = r13)) else some false).bind fun b14 => if b14 = true then (g_Near_send_for s1 deed5 line8 state10).bind fun r17 => some (Lo.rt (r17.1, r17.2)) else (g_Near_do_first s1 deed5 line8 state10).bind fun r18 => some (Lo.nx r18.2)) (m + q.length + 1) n.enc = some (if (NS.work q n).2.q = [] then .inl (NS.work q n).2.enc else .inr ((NS.work q n).1, (NS.work q n).2.enc))
  | [], n, m, h, hq => by
    rw [whileM_succ]
    have e : n.enc.2.2.2.2.2.1 = [] := hq
    simp [e, NS.work, hq]
  | d :: r, n, m, h, hq => by
    rw [whileM_succ]
    have e : n.enc.2.2.2.2.2.1 = d :: r := hq
    have e1 : n.enc.2.1 = n.width := rfl
    have hlt : (decide ((0 : Int) < ((d :: r).length : Int))) = true := by simp only [List.length_cons, decide_eq_true_eq]; omega
    have hg : getI (d :: r) 0 = some d := getI_nat (k := 0)
    have hdiv : g_line_of d.addr n.width = some (n.line d) := by
      unfold g_line_of; rw [divI_of (by have := h.wpos; have := h.wle; omega)]; rfl
    simp only [e, hlt, Option.bind_some, if_true, hg, dd_place, e1, hdiv, g_state, hs_may, dd_wants]
    have hb : (if (!decide ((n.at (n.line d)).may = "write")) = true then some (!decide ((n.at (n.line d)).may = d.wants)) else some false) = some (!n.fit d) := by
      unfold NS.fit
      by_cases c : (n.at (n.line d)).may = "write"
      · simp [c]
      · simp [c]
    rw [hb]
    simp only [Option.bind_some]
    unfold NS.work
    cases hf : n.fit d with
    | true =>
      simp only [Bool.not_true, Bool.false_eq_true, if_false, if_true]
      rw [g_first h hq hf]
      simp only [Option.bind_some]
      exact g_work r m (ni_first h hq hf) (by show n.q.tail = r; rw [hq]; rfl)
    | false =>
      simp only [Bool.not_false, if_true, Bool.false_eq_true, if_false]
      rw [g_send h hq]
      simp only [Option.bind_some]
      rw [if_neg]
      rw [(ni_send h hq hf).2.2.1, hq]; simp
theorem work_q {q : List Dd} {n : NS} (h : NI n) (hq : n.q = q) (he : (NS.work q n).2.q = []) : (NS.work q n).1 = [] := by
  induction q generalizing n with
  | nil => rfl
  | cons d r ih =>
    unfold NS.work at he ⊢
    cases hf : n.fit d with
    | true =>
      rw [hf, if_pos rfl] at he
      rw [if_pos rfl]
      exact ih (ni_first h hq hf) (by show n.q.tail = r; rw [hq]; rfl) he
    | false =>
      rw [hf, if_neg (by simp), (ni_send h hq hf).2.2.1, hq] at he
      cases he
theorem g_work_on {n : NS} (h : NI n) : g_Near_work_on n.enc = some ((NS.work n.q n).1, (NS.work n.q n).2.enc) := by
  unfold g_Near_work_on
  have g := g_work n.q (fuelW - n.q.length - 1) h rfl
  have hl : n.q.length ≤ 100000 := by have := h.lens; omega
  rw [show fuelW - n.q.length - 1 + n.q.length + 1 = fuelW from by show 1000000000 - n.q.length - 1 + n.q.length + 1 = 1000000000; omega] at g
  refine (congrArg (fun o => Option.bind o _) (show whileM _ _ fuelW n.enc = _ from g)).trans ?_
  rw [Option.bind_some]
  by_cases c : (NS.work n.q n).2.q = []
  · rw [if_pos c, work_q h rfl c]; rfl
  · rw [if_neg c]; rfl
theorem ni_push {n : NS} (h : NI n) (d : Dd) (hd : 0 ≤ d.addr) (hl : n.q.length + n.done.length < 100000) : NI { n with q := n.q ++ [d] } := by
  have hat : ∀ k, ({ n with q := n.q ++ [d] } : NS).at k = n.at k := fun k => at_st rfl
  refine ⟨h.wpos, h.wle, h.room, h.rle, h.kn, h.vals, fun l hl2 => by rw [hat]; exact h.useA l hl2, fun l hl2 => ?_, h.useN, h.len, fun l hl2 => ?_, fun x hx => ?_, ?_⟩
  · rw [hat] at hl2
    rcases h.useB l hl2 with q | ⟨d', r', h1, h2, h3⟩
    · exact .inl q
    · exact .inr ⟨d', r' ++ [d], by show n.q ++ [d] = _; rw [h1]; rfl, h2, h3⟩
  · rw [hat] at hl2 ⊢
    obtain ⟨d', r', h1, h2, h3⟩ := h.want l hl2
    exact ⟨d', r' ++ [d], by show n.q ++ [d] = _; rw [h1]; rfl, h2, h3⟩
  · rcases List.mem_append.mp hx with q | q
    · exact h.addr x q
    · rw [List.mem_singleton.mp q]; exact hd
  · show (n.q ++ [d]).length + n.done.length ≤ 100000
    simp only [List.length_append, List.length_singleton]; omega
theorem g_ask {n : NS} (h : NI n) {d : Dd} (hd : 0 ≤ d.addr) (hl : n.q.length + n.done.length < 100000) : g_Near_ask n.enc d = some ((n.ask d).1, (n.ask d).2.enc) := by
  unfold g_Near_ask NS.ask
  have e : n.enc.2.2.2.2.2.1 = n.q := rfl
  rw [show dd_of d = some d from if_pos hd, Option.bind_some, e, appL_of (by omega), Option.bind_some]
  have := g_work_on (ni_push h d hd hl)
  have ge : ((n.enc.1, n.enc.2.1, n.enc.2.2.1, n.enc.2.2.2.1, n.enc.2.2.2.2.1, n.q ++ [d], n.enc.2.2.2.2.2.2) : Ty_Near) = ({ n with q := n.q ++ [d] } : NS).enc := rfl
  rw [ge, this]
  rfl
end PG
namespace PG
open PySem L2 VL
theorem at_put {n : NS} (h : (keys n.st).Nodup) {l k : Int} {s : Hs} : (n.put l s).at k = if l = k then s else n.at k := by
  unfold NS.put NS.at
  dsimp only
  by_cases c : s.kind = "away"
  · rw [if_pos c, mGet_del h]
    split
    · rw [kind_away.mp c]; rfl
    · rfl
  · rw [if_neg c, mGet_put]
    split <;> rfl
theorem ni_put {n : NS} (h : NI n) {l : Int} {s : Hs} (hk : l ∈ keys n.st) (ok : s = .away ∨ okS n.width s)
    (hB : s.may ≠ "none" → l ∈ n.use ∨ ∃ d r, n.q = d :: r ∧ n.line d = l ∧ (s.may = "write" ∨ s.may = d.wants))
    (hw : wanted s = true → wanted (n.at l) = true ∧ (s = .wantR ↔ n.at l = .wantR)) : NI (n.put l s) := by
  have hat := fun k => at_put h.kn (l := l) (k := k) (s := s)
  refine ⟨h.wpos, h.wle, h.room, h.rle, ?_, ?_, ?_, ?_, ?_, ?_, ?_, h.addr, h.lens⟩
  · unfold NS.put; dsimp only; split
    · exact del_nodup h.kn
    · exact put_nodup h.kn
  · intro q hq
    unfold NS.put at hq; dsimp only at hq
    split at hq
    · exact h.vals q (mem_del hq)
    · rename_i hna
      rcases mem_put hq with e | e
      · subst e
        rcases ok with e | e
        · exact absurd (by rw [e]; rfl) hna
        · exact e
      · exact h.vals q e
  · intro k hk2
    rw [hat]
    unfold NS.put at hk2; dsimp only at hk2
    split at hk2
    · obtain ⟨h1, h2⟩ := List.mem_filter.mp hk2
      have : ¬ l = k := fun e => by simp [e] at h2
      rw [if_neg this]; exact h.useA k h1
    · rename_i hm
      split
      · exact hm
      · exact h.useA k hk2
  · intro k hk2
    rw [hat] at hk2
    by_cases e : l = k
    · subst e
      rw [if_pos rfl] at hk2
      rcases hB hk2 with q | ⟨d, r, h1, h2, h3⟩
      · left; unfold NS.put; dsimp only; rw [if_neg hk2]; exact q
      · right
        refine ⟨d, r, h1, h2, ?_⟩
        unfold NS.fit
        have hln : (n.put l s).line d = l := h2
        rw [hln, hat, if_pos rfl]
        simpa using h3
    · rw [if_neg e] at hk2
      rcases h.useB k hk2 with q | ⟨d, r, h1, h2, h3⟩
      · left
        unfold NS.put; dsimp only
        split
        · exact List.mem_filter.mpr ⟨q, by simp; exact fun x => e x.symm⟩
        · exact q
      · right
        refine ⟨d, r, h1, h2, ?_⟩
        exact (fit_may (n := n) (m := n.put l s) (d := d) rfl (by rw [hat, h2, if_neg e])).trans h3
  · unfold NS.put; dsimp only; split
    · exact h.useN.filter _
    · exact h.useN
  · unfold NS.put; dsimp only; split
    · have := del_len hk; have := h.len; omega
    · rw [put_len, if_pos hk]; exact h.len
  · intro k hk2
    rw [hat] at hk2 ⊢
    by_cases e : l = k
    · subst e
      rw [if_pos rfl] at hk2 ⊢
      obtain ⟨h1, h2⟩ := hw hk2
      obtain ⟨d, r, h3, h4, h5⟩ := h.want l h1
      exact ⟨d, r, h3, h4, h2.trans h5⟩
    · rw [if_neg e] at hk2 ⊢
      exact h.want k hk2
theorem settled_fit {n : NS} (h : NI n) (hs : Settled n) {d : Dd} {r : List Dd} (hq : n.q = d :: r) : n.fit d = false := by
  unfold Settled at hs
  rw [hq] at hs
  cases hf : n.fit d with
  | false => rfl
  | true =>
    have h1 := no_want h hq hf (n.line d)
    unfold NS.fit at hf
    rcases hs with q | q | ⟨q, _⟩
    · rw [h1] at q; cases q
    · cases e : n.at (n.line d) <;> rw [e] at q hf <;> first | (cases q; done) | (rcases wants_or d with w | w <;> rw [w] at hf <;> simp [Hs.may] at hf)
    · rw [q] at hf
      rcases wants_or d with w | w <;> rw [w] at hf <;> simp [Hs.may] at hf
theorem settled_use {n : NS} (h : NI n) (hs : Settled n) {l : Int} (hm : (n.at l).may ≠ "none") : l ∈ n.use :=
  (h.useB l hm).resolve_right (by
    rintro ⟨d, r, h1, h2, h3⟩
    rw [settled_fit h hs h1] at h3; cases h3)
def goodW (w : Int) (l : Lt) : Prop := (l.1 = "share" ∨ l.1 = "own") → ∃ ws, l.2.2.2 = some ws ∧ (ws.length : Int) = w
theorem ni_met {n : NS} (h : NI n) {l : Lt} {q : List Lt × NS} (hm : n.met l = some q) (hst : Settled n) (hg : goodW n.width l) : NI q.2 ∧ q.2.num = n.num ∧ q.2.width = n.width ∧ q.2.room = n.room ∧ q.2.q = n.q ∧ q.2.done = n.done ∧ q.1.length ≤ 1 := by
  unfold NS.met at hm
  obtain ⟨⟨s, a⟩, h1, rfl⟩ := Option.map_eq_some_iff.mp hm
  refine ⟨?_, rfl, rfl, rfl, rfl, rfl, by dsimp only; split <;> simp⟩
  have hna : n.at l.2.1 ≠ .away := fun e => by rw [e] at h1; cases h1
  have hk := at_key hna
  have ok := at_ok h.vals hna
  show NI (n.put l.2.1 s)
  cases hs : n.at l.2.1 with
  | away => exact absurd hs hna
  | rd x =>
    rw [hs] at h1
    simp only [Hs.met] at h1
    split at h1
    · cases h1; exact ni_put h hk (.inl rfl) (fun q => absurd rfl q) (fun q => by cases q)
    · cases h1
  | wr x =>
    rw [hs] at h1 ok
    simp only [Hs.met] at h1
    split at h1
    · cases h1
      refine ni_put h hk (.inr ok) (fun q => ?_) (fun q => by cases q)
      exact .inl (settled_use h hst (by rw [hs]; simp [Hs.may]))
    · split at h1
      · cases h1; exact ni_put h hk (.inl rfl) (fun q => absurd rfl q) (fun q => by cases q)
      · cases h1
  | wantR =>
    rw [hs] at h1
    simp only [Hs.met] at h1
    split at h1
    · rename_i hw
      cases h1
      obtain ⟨d, r, d1, d2, d3⟩ := h.want l.2.1 (by rw [hs]; rfl)
      exact ni_put h hk (.inr (hg (.inl hw))) (fun q => .inr ⟨d, r, d1, d2, .inr (by rw [d3.mp hs]; rfl)⟩) (fun q => by cases q)
    · cases h1
  | wantW x =>
    rw [hs] at h1 ok
    simp only [Hs.met] at h1
    split at h1
    · rename_i hw
      cases h1
      obtain ⟨d, r, d1, d2, d3⟩ := h.want l.2.1 (by rw [hs]; rfl)
      exact ni_put h hk (.inr (hg (.inr hw))) (fun q => .inr ⟨d, r, d1, d2, .inl rfl⟩) (fun q => by cases q)
    · split at h1
      · cases h1
        exact ni_put h hk (.inr (.inl rfl)) (fun q => absurd rfl q) (fun q => by rw [hs]; exact ⟨rfl, by simp⟩)
      · cases h1
  | lvW x =>
    rw [hs] at h1
    simp only [Hs.met] at h1
    split at h1
    · cases h1; exact ni_put h hk (.inr trivial) (fun q => absurd rfl q) (fun q => by cases q)
    · split at h1
      · cases h1; exact ni_put h hk (.inr trivial) (fun q => absurd rfl q) (fun q => by cases q)
      · split at h1
        · cases h1; exact ni_put h hk (.inl rfl) (fun q => absurd rfl q) (fun q => by cases q)
        · cases h1
  | lvR =>
    rw [hs] at h1
    simp only [Hs.met] at h1
    split at h1
    · cases h1; exact ni_put h hk (.inr trivial) (fun q => absurd rfl q) (fun q => by cases q)
    · split at h1
      · cases h1; exact ni_put h hk (.inl rfl) (fun q => absurd rfl q) (fun q => by cases q)
      · cases h1
  | lvE =>
    rw [hs] at h1
    simp only [Hs.met] at h1
    split at h1
    · cases h1; exact ni_put h hk (.inl rfl) (fun q => absurd rfl q) (fun q => by cases q)
    · cases h1
theorem send_len (n : NS) (d : Dd) : (n.sendFor d).1.length ≤ 1 := by
  unfold NS.sendFor NS.giveBack
  repeat' split
  all_goals simp
theorem work_len : ∀ (q : List Dd) (n : NS), (NS.work q n).1.length ≤ 1
  | [], n => by simp [NS.work]
  | d :: r, n => by
    unfold NS.work
    split
    · exact work_len r _
    · exact send_len n d
theorem met_word {s s' : Hs} {w : String} {g : WD} {a : String × WD} (h : s.met w g = some (s', some a)) : a.1 = "lowered" ∨ a.1 = "yielded" ∨ a.1 = "took" := by
  cases s <;> simp only [Hs.met] at h <;> repeat' (split at h)
  all_goals first | (cases h; done) | (cases h; simp; done) | (injection h with h; injection h with h1 h2; cases h2; simp)
end PG
namespace PG
open PySem L2 VL
inductive Role where
  | N | R | W
  deriving DecidableEq
abbrev Ls := List (String × WD)
inductive PairOk (F : WD) : Hs → Role → Ls → Ls → Ls → Option String → Prop
  | away0 : PairOk F .away .N [] [] [] none
  | rd0 : PairOk F (.rd F) .R [] [] [] none
  | wr0 (w) : PairOk F (.wr w) .W [] [] [] none
  | wantR0 (x) : PairOk F .wantR .N [] [] [("read", x)] none
  | wantW0 (x) : PairOk F (.wantW none) .N [] [] [("write", x)] none
  | wantW1 (x) : F.isSome = true → PairOk F (.wantW F) .R [] [] [("write", x)] none
  | lvW0 (w) : PairOk F (.lvW w) .W [] [] [("back", w)] none
  | lvR0 (x) : PairOk F .lvR .R [] [] [("back", x)] none
  | lvE0 (x) : PairOk F .lvE .N [] [] [("back", x)] none
  | lvW1 (w) : PairOk F (.lvW w) .N [("gone", none)] [] [] none
  | lvR1 : PairOk F .lvR .N [("gone", none)] [] [] none
  | lvE1 : PairOk F .lvE .N [("gone", none)] [] [] none
  | shr : PairOk F .wantR .R [("share", F)] [] [] (some "took")
  | own0 : PairOk F (.wantW none) .W [("own", F)] [] [] (some "took")
  | own1 : PairOk F (.wantW F) .W [("own", F)] [] [] (some "took")
  | tRd : PairOk F (.rd F) .R [] [("took", none)] [] (some "took")
  | tWr (w) : PairOk F (.wr w) .W [] [("took", none)] [] (some "took")
  | tWw (x) : F.isSome = true → PairOk F (.wantW F) .R [] [("took", none)] [("write", x)] (some "took")
  | tLw (w) : PairOk F (.lvW w) .W [] [("took", none)] [("back", w)] (some "took")
  | tLr (x) : PairOk F .lvR .R [] [("took", none)] [("back", x)] (some "took")
  | yRd : PairOk F (.rd F) .R [("yield", none)] [] [] (some "yielded")
  | yWr (w) : PairOk F (.wr w) .W [("yield", none)] [] [] (some "yielded")
  | yWw (x) : F.isSome = true → PairOk F (.wantW F) .R [("yield", none)] [] [("write", x)] (some "yielded")
  | yLw (w) : PairOk F (.lvW w) .W [("yield", none)] [] [("back", w)] (some "yielded")
  | yLr (x) : PairOk F .lvR .R [("yield", none)] [] [("back", x)] (some "yielded")
  | yA (r x) : (r = .R ∧ x = none) ∨ (r = .W) → PairOk F .away r [] [("yielded", x)] [] (some "yielded")
  | yR (r x y) : (r = .R ∧ x = none) ∨ (r = .W) → PairOk F .wantR r [] [("yielded", x)] [("read", y)] (some "yielded")
  | yW (r x y) : (r = .R ∧ x = none) ∨ (r = .W) → PairOk F (.wantW none) r [] [("yielded", x)] [("write", y)] (some "yielded")
  | yE (r x y) : (r = .R ∧ x = none) ∨ (r = .W) → PairOk F .lvE r [] [("yielded", x)] [("back", y)] (some "yielded")
  | lWr (w) : PairOk F (.wr w) .W [("lower", none)] [] [] (some "lowered")
  | lLw (w) : PairOk F (.lvW w) .W [("lower", none)] [] [("back", w)] (some "lowered")
  | dRd (w) : PairOk F (.rd w) .W [] [("lowered", w)] [] (some "lowered")
  | dWw (w x) : w.isSome = true → PairOk F (.wantW w) .W [] [("lowered", w)] [("write", x)] (some "lowered")
  | dLr (w x) : PairOk F .lvR .W [] [("lowered", w)] [("back", x)] (some "lowered")
def pv (F : WD) (s : Hs) (tn an : Ls) : WD := match tn with
  | [("own", g)] => g
  | _ => match an with
    | [(w, x)] => if w = "took" then s.words else x
    | _ => s.words
section
variable {F : WD} {s : Hs} {r : Role} {tn an rq : Ls} {du : Option String}
theorem p_len (h : PairOk F s r tn an rq du) : tn.length ≤ 1 ∧ an.length ≤ 1 ∧ rq.length ≤ 1 := by cases h <;> simp
theorem p_met {x : String × WD} {t : Ls} (h : PairOk F s r (x :: t) an rq du) : ∃ s' a, s.met x.1 x.2 = some (s', a) ∧ PairOk F s' r [] (an ++ a.toList) rq du ∧ t = [] ∧ an = [] := by
  cases h with
  | lvW1 w => exact ⟨_, _, rfl, .away0, rfl, rfl⟩
  | lvR1 => exact ⟨_, _, rfl, .away0, rfl, rfl⟩
  | lvE1 => exact ⟨_, _, rfl, .away0, rfl, rfl⟩
  | shr => exact ⟨_, _, rfl, .tRd, rfl, rfl⟩
  | own0 => exact ⟨_, _, rfl, .tWr _, rfl, rfl⟩
  | own1 => exact ⟨_, _, rfl, .tWr _, rfl, rfl⟩
  | yRd => exact ⟨_, _, rfl, .yA _ _ (.inl ⟨rfl, rfl⟩), rfl, rfl⟩
  | yWr w => exact ⟨_, _, rfl, .yA _ _ (.inr rfl), rfl, rfl⟩
  | yWw x hF => exact ⟨.wantW none, some ("yielded", none), by simp [Hs.met, hF], .yW _ _ _ (.inl ⟨rfl, rfl⟩), rfl, rfl⟩
  | yLw w => exact ⟨_, _, rfl, .yE _ _ _ (.inr rfl), rfl, rfl⟩
  | yLr x => exact ⟨_, _, rfl, .yE _ _ _ (.inl ⟨rfl, rfl⟩), rfl, rfl⟩
  | lWr w => exact ⟨_, _, rfl, .dRd _, rfl, rfl⟩
  | lLw w => exact ⟨_, _, rfl, .dLr _ _, rfl, rfl⟩
theorem p_grant {x : String × WD} {t : Ls} (h : PairOk F s r (x :: t) an rq du) (hx : x.1 = "share" ∨ x.1 = "own") : x.2 = F := by
  cases h <;> simp at hx <;> rfl
theorem p_met_pv {x : String × WD} {t : Ls} {s' : Hs} {a : Option (String × WD)} (h : PairOk F s r (x :: t) an rq du) (hm : s.met x.1 x.2 = some (s', a)) (hr : r = .W) : pv F s' [] (an ++ a.toList) = pv F s (x :: t) an := by
  subst hr
  cases h <;> simp [Hs.met] at hm <;> (try (obtain ⟨rfl, rfl⟩ := hm; rfl)) <;> (try (obtain ⟨h1, rfl, rfl⟩ := hm; rfl))
theorem p_val (h : PairOk F s r tn an rq du) (hm : s.may ≠ "none") : r ≠ .N ∧ (r = .R → s.words = F) ∧ (r = .W → s.words = pv F s tn an) := by
  cases h <;> simp [Hs.may] at hm <;> refine ⟨by simp, fun q => ?_, fun q => ?_⟩ <;> first | rfl | (cases q; done)
theorem p_writer {w : WD} (h : PairOk F (.wr w) r tn an rq du) : r = .W := by cases h <;> rfl
theorem p_write {w w' : WD} (h : PairOk F (.wr w) r tn an rq du) : PairOk F (.wr w') r tn an rq du ∧ pv F (.wr w') tn an = w' := by
  cases h with
  | wr0 => exact ⟨.wr0 _, rfl⟩
  | tWr => exact ⟨.tWr _, rfl⟩
  | yWr => exact ⟨.yWr _, rfl⟩
  | lWr => exact ⟨.lWr _, rfl⟩
theorem p_send_wr {x : WD} (h : PairOk F (.rd x) r tn an rq du) (hx : x.isSome = true) : rq = [] ∧ PairOk F (.wantW x) r tn an [("write", none)] du := by
  cases h with
  | rd0 => exact ⟨rfl, .wantW1 _ hx⟩
  | tRd => exact ⟨rfl, .tWw _ hx⟩
  | yRd => exact ⟨rfl, .yWw _ hx⟩
  | dRd => exact ⟨rfl, .dWw _ _ hx⟩
theorem p_send_a (h : PairOk F .away r tn an rq du) : rq = [] ∧ PairOk F .wantR r tn an [("read", none)] du ∧ PairOk F (.wantW none) r tn an [("write", none)] du := by
  cases h with
  | away0 => exact ⟨rfl, .wantR0 _, .wantW0 _⟩
  | yA r x q => exact ⟨rfl, .yR _ _ _ q, .yW _ _ _ q⟩
theorem p_back_w {x : WD} (h : PairOk F (.wr x) r tn an rq du) : rq = [] ∧ PairOk F (.lvW x) r tn an [("back", x)] du := by
  cases h with
  | wr0 => exact ⟨rfl, .lvW0 _⟩
  | tWr => exact ⟨rfl, .tLw _⟩
  | yWr => exact ⟨rfl, .yLw _⟩
  | lWr => exact ⟨rfl, .lLw _⟩
theorem p_back_r {x : WD} (h : PairOk F (.rd x) r tn an rq du) : rq = [] ∧ PairOk F .lvR r tn an [("back", none)] du := by
  cases h with
  | rd0 => exact ⟨rfl, .lvR0 _⟩
  | tRd => exact ⟨rfl, .tLr _⟩
  | yRd => exact ⟨rfl, .yLr _⟩
  | dRd => exact ⟨rfl, .dLr _ _⟩
theorem p_ans {x : String × WD} {t : Ls} (h : PairOk F s r tn (x :: t) rq du) : du = some x.1 ∧ t = [] ∧ tn = [] := by cases h <;> exact ⟨rfl, rfl, rfl⟩
theorem p_took {x : WD} (h : PairOk F s r tn [("took", x)] rq du) : PairOk F s r tn [] rq none := by
  generalize ha : [("took", x)] = an at h
  cases h <;> simp at ha <;> first | exact .rd0 | exact .wr0 _ | exact .wantW1 _ ‹_› | exact .lvW0 _ | exact .lvR0 _
theorem p_lowered {x : WD} (h : PairOk F s r tn [("lowered", x)] rq du) : PairOk x s .R tn [] rq none ∧ r = .W ∧ pv F s tn [("lowered", x)] = x := by
  generalize ha : [("lowered", x)] = an at h
  cases h <;> simp at ha <;> subst ha <;> first | exact ⟨.rd0, rfl, rfl⟩ | exact ⟨.wantW1 _ ‹_›, rfl, rfl⟩ | exact ⟨.lvR0 _, rfl, rfl⟩
theorem p_yielded {x : WD} (G : WD) (h : PairOk F s r tn [("yielded", x)] rq du) : PairOk G s .N tn [] rq none ∧ (r = .R ∨ (r = .W ∧ pv F s tn [("yielded", x)] = x)) := by
  generalize ha : [("yielded", x)] = an at h
  cases h <;> simp at ha <;> subst ha <;> refine ⟨by first | exact .away0 | exact .wantR0 _ | exact .wantW0 _ | exact .lvE0 _, ?_⟩ <;> rename_i q <;> exact q.imp (·.1) fun q => ⟨q, rfl⟩
theorem p_far (G : WD) (h : PairOk F s .N tn an rq du) : PairOk G s .N tn an rq du := by
  cases h with
  | away0 => exact .away0
  | wantR0 => exact .wantR0 _
  | wantW0 => exact .wantW0 _
  | lvE0 => exact .lvE0 _
  | lvW1 => exact .lvW1 _
  | lvR1 => exact .lvR1
  | lvE1 => exact .lvE1
  | yA _ _ q => simp at q
  | yR _ _ _ q => simp at q
  | yW _ _ _ q => simp at q
  | yE _ _ _ q => simp at q
theorem p_back {x : WD} (G : WD) (h : PairOk F s r tn an [("back", x)] none) : PairOk G s .N (tn ++ [("gone", none)]) an [] none ∧ (r = .W → pv F s tn an = x ∧ x = s.words) := by
  generalize ha : [("back", x)] = rq at h
  cases h <;> simp at ha <;> subst ha <;> first | exact ⟨.lvW1 _, fun _ => ⟨rfl, rfl⟩⟩ | exact ⟨.lvR1, fun q => by cases q⟩ | exact ⟨.lvE1, fun q => by cases q⟩
theorem p_read {x : WD} (h : PairOk F s r tn an [("read", x)] none) : r = .N ∧ PairOk F s .R (tn ++ [("share", F)]) an [] (some "took") := by
  generalize ha : [("read", x)] = rq at h
  cases h <;> simp at ha <;> exact ⟨rfl, .shr⟩
theorem p_write' {x : WD} (h : PairOk F s r tn an [("write", x)] none) : r ≠ .W ∧ PairOk F s .W (tn ++ [("own", F)]) an [] (some "took") ∧ pv F s (tn ++ [("own", F)]) an = F := by
  generalize ha : [("write", x)] = rq at h
  cases h <;> simp at ha <;> first | exact ⟨by simp, .own0, rfl⟩ | exact ⟨by simp, .own1, rfl⟩
theorem p_lower (h : PairOk F s .W tn an rq none) : PairOk F s .W (tn ++ [("lower", none)]) an rq (some "lowered") ∧ pv F s (tn ++ [("lower", none)]) an = pv F s tn an := by
  cases h with
  | wr0 => exact ⟨.lWr _, rfl⟩
  | lvW0 => exact ⟨.lLw _, rfl⟩
theorem p_yield (h : PairOk F s r tn an rq none) (hr : r ≠ .N) : PairOk F s r (tn ++ [("yield", none)]) an rq (some "yielded") ∧ pv F s (tn ++ [("yield", none)]) an = pv F s tn an := by
  cases h with
  | rd0 => exact ⟨.yRd, rfl⟩
  | wr0 => exact ⟨.yWr _, rfl⟩
  | wantW1 _ hF => exact ⟨.yWw _ hF, rfl⟩
  | lvW0 => exact ⟨.yLw _, rfl⟩
  | lvR0 => exact ⟨.yLr _, rfl⟩
  | _ => exact absurd rfl hr
end
end PG
namespace PG
open PySem L2 VL
def isRq (w : String) : Bool := decide (w ∈ ["read", "write", "back"])
def isAn (w : String) : Bool := decide (w ∈ ["lowered", "yielded", "took"])
def isNr (w : String) : Bool := decide (w ∈ ["lower", "yield", "share", "own", "gone"])
def sel (p : String → Bool) (R : List Lt) (l k : Int) : Ls := (R.filter fun x => decide (x.2.1 = l) && decide (x.2.2.1 = k) && p x.1).map fun x => (x.1, x.2.2.2)
theorem sel_app (p : String → Bool) (R R' : List Lt) (l k : Int) : sel p (R ++ R') l k = sel p R l k ++ sel p R' l k := by simp [sel]
theorem sel_nil (p : String → Bool) (l k : Int) : sel p [] l k = [] := rfl
theorem sel_cons (p : String → Bool) (x : Lt) (R : List Lt) (l k : Int) : sel p (x :: R) l k = (if x.2.1 = l ∧ x.2.2.1 = k ∧ p x.1 = true then [(x.1, x.2.2.2)] else []) ++ sel p R l k := by
  unfold sel
  rw [List.filter_cons]
  by_cases h : x.2.1 = l ∧ x.2.2.1 = k ∧ p x.1 = true
  · rw [if_pos h, if_pos (by simp [h.1, h.2.1, h.2.2])]; rfl
  · rw [if_neg h, if_neg (by simpa [and_assoc] using h)]; rfl
theorem sel_one (p : String → Bool) (w : String) (l a : Int) (x : WD) (k : Int) : sel p [(w, l, a, x)] l k = if a = k ∧ p w = true then [(w, x)] else [] := by
  rw [sel_cons, sel_nil, List.append_nil]
  simp
theorem sel_yields (p : String → Bool) (l k : Int) : ∀ {os : List Int}, os.Nodup → sel p (os.map fun o => (("yield", l, o, none) : Lt)) l k = if p "yield" = true ∧ k ∈ os then [("yield", none)] else []
  | [], _ => by simp [sel]
  | o :: os, nd => by
    have nd' := List.nodup_cons.mp nd
    rw [List.map_cons, sel_cons, sel_yields p l k nd'.2]
    by_cases hp : p "yield" = true
    · by_cases ho : o = k
      · subst ho
        simp [hp, nd'.1]
      · have : ¬ k = o := fun e => ho e.symm
        simp [hp, ho, this]
    · simp [hp]
namespace HM
def role (h : HM) (k : Nat) : Role := if h.ow = some k then .W else if h.sh[k]? = some true then .R else .N
def dueOf (h : HM) (k : Int) : Option String := (h.due.find? fun x => decide (x.2 = k)).map (·.1)
def rqs (h : HM) (k : Int) : Ls := (h.q.filter fun l => decide (l.2.2.1 = k)).map (fun l => (l.1, l.2.2.2)) ++ (match h.task with | some t => if t.2.2.1 = k ∧ ("took", k) ∉ h.due then [(t.1, t.2.2.2)] else [] | none => [])
end HM
def cur (h : HM) (S : Nat → Hs) (R : List Lt) : WD := match h.ow with
  | none => h.far
  | some o => pv h.far (S o) (sel isNr R h.line o) (sel isAn R h.line o)
structure LineInv (w : Int) (h : HM) (S : Nat → Hs) (R : List Lt) : Prop where
  wf : h.WF
  qr : ∀ l ∈ h.q, l.1 ∈ ["read", "write", "back"] ∧ inR h.n l
  tr : ∀ t, h.task = some t → (t.1 = "read" ∨ t.1 = "write") ∧ inR h.n t
  far : ∃ ws, h.far = some ws ∧ (ws.length : Int) = w
  cok : ∃ ws, cur h S R = some ws ∧ (ws.length : Int) = w
  excl : ∀ o, h.ow = some o → ∀ k : Nat, h.sh[k]? ≠ some true
  du : match h.task with
    | none => h.due = []
    | some t => h.due = [("took", t.2.2.1)] ∨ (t.1 = "read" ∧ ∃ o : Nat, h.ow = some o ∧ (o : Int) ≠ t.2.2.1 ∧ h.due = [("lowered", (o : Int))]) ∨
      (t.1 = "write" ∧ h.due ≠ [] ∧ h.due.Nodup ∧ (∀ x ∈ h.due, x.1 = "yielded" ∧ ∃ i : Nat, x.2 = i ∧ i < h.n) ∧ ∀ k : Nat, k < h.n → (("yielded", (k : Int)) ∈ h.due ↔ (k : Int) ≠ t.2.2.1 ∧ h.role k ≠ .N))
  pairs : ∀ k : Nat, k < h.n → PairOk h.far (S k) (h.role k) (sel isNr R h.line k) (sel isAn R h.line k) (sel isRq R h.line k ++ h.rqs k) (h.dueOf k)
section
variable {w : Int} {h : HM} {S : Nat → Hs} {R : List Lt}
theorem held_mem (wf : h.WF) {k : Nat} (hk : k < h.n) : h.held[k]? = some true ↔ h.role k ≠ .N := by
  unfold HM.held HM.role
  cases ho : h.ow with
  | none => by_cases hs : h.sh[k]? = some true <;> simp [hs]
  | some o =>
    by_cases e : o = k
    · subst e
      simp [List.getElem?_set, wf.len, hk]
    · have : ¬ some o = some k := by simpa using e
      rw [if_neg this, List.getElem?_set_ne e]
      by_cases hs : h.sh[k]? = some true <;> simp [hs]
theorem others_mem (wf : h.WF) {j k : Nat} (hk : k < h.n) : (k : Int) ∈ h.others j ↔ k ≠ j ∧ h.role k ≠ .N := by
  unfold HM.others
  rw [mem_tru]
  by_cases e : j = k
  · subst e
    have : j < h.held.length := by rw [held_len, wf.len]; exact hk
    simp [List.getElem?_set, this]
  · rw [List.getElem?_set_ne e, held_mem wf hk]
    exact ⟨fun q => ⟨fun x => e x.symm, q⟩, fun q => q.2⟩
theorem others_lt (wf : h.WF) {j : Nat} {x : Int} (hx : x ∈ h.others j) : ∃ i : Nat, x = i ∧ i < h.n := by
  unfold HM.others at hx
  obtain ⟨i, h1, h2⟩ := tru_nat hx
  refine ⟨i, h1, ?_⟩
  have := (List.getElem?_eq_some_iff.mp h2).1
  rw [List.length_set, held_len, wf.len] at this
  exact this
theorem others_nodup (j : Nat) : (h.others j).Nodup := (tru_up _).imp fun a => by omega
theorem find_one (a : String) (j k : Int) : (([(a, j)] : List (String × Int)).find? fun x => decide (x.2 = k)).map (·.1) = if j = k then some a else none := by
  by_cases e : j = k <;> simp [e]
theorem find_yields (k : Int) : ∀ os : List Int, ((os.map fun o => (("yielded", o) : String × Int)).find? fun x => decide (x.2 = k)).map (·.1) = if k ∈ os then some "yielded" else none
  | [] => rfl
  | o :: os => by
    rw [List.map_cons, List.find?_cons]
    by_cases e : o = k
    · simp [e]
    · have : ¬ k = o := fun x => e x.symm
      have ih := find_yields k os
      simp only [e, decide_false, List.mem_cons, this, false_or]
      exact ih
theorem app_one {a b : Ls} {x : String × WD} (h : (a ++ ([x] ++ b)).length ≤ 1) : a = [] ∧ b = [] := by
  simp only [List.length_append, List.length_singleton] at h
  exact ⟨List.length_eq_zero_iff.mp (by omega), List.length_eq_zero_iff.mp (by omega)⟩
theorem role_w {k : Nat} (hr : h.role k = .W) : h.ow = some k := by
  unfold HM.role at hr
  split at hr
  · assumption
  · split at hr <;> cases hr
theorem role_n (h1 : h.ow ≠ some k) (h2 : h.sh[k]? ≠ some true) : h.role k = .N := by unfold HM.role; rw [if_neg h1, if_neg h2]
def rowOf (r : List Lt) (k : Int) : Ls := (r.filter fun l => decide (l.2.2.1 = k)).map fun l => (l.1, l.2.2.2)
theorem rqs_none {m : HM} (h : m.task = none) (k : Int) : m.rqs k = rowOf m.q k := by unfold HM.rqs rowOf; rw [h, List.append_nil]
theorem rqs_some {m : HM} {t : Lt} (h : m.task = some t) (k : Int) : m.rqs k = rowOf m.q k ++ (if t.2.2.1 = k ∧ ("took", k) ∉ m.due then [(t.1, t.2.2.2)] else []) := by unfold HM.rqs rowOf; rw [h]
theorem rowOf_cons (l : Lt) (r : List Lt) (k : Int) : rowOf (l :: r) k = (if l.2.2.1 = k then [(l.1, l.2.2.2)] else []) ++ rowOf r k := by
  unfold rowOf
  rw [List.filter_cons]
  by_cases e : l.2.2.1 = k
  · rw [if_pos (by simp [e]), if_pos e]; rfl
  · rw [if_neg (by simp [e]), if_neg e]; rfl
structure Free (w : Int) (h : HM) (S : Nat → Hs) (R : List Lt) (r : List Lt) : Prop where
  wf : h.WF
  qr : ∀ l ∈ r, l.1 ∈ ["read", "write", "back"] ∧ inR h.n l
  far : ∃ ws, h.far = some ws ∧ (ws.length : Int) = w
  cok : ∃ ws, cur h S R = some ws ∧ (ws.length : Int) = w
  excl : ∀ o, h.ow = some o → ∀ k : Nat, h.sh[k]? ≠ some true
  pairs : ∀ k : Nat, k < h.n → PairOk h.far (S k) (h.role k) (sel isNr R h.line k) (sel isAn R h.line k) (sel isRq R h.line k ++ rowOf r k) none
theorem Free.inv {r : List Lt} (f : Free w h S R r) (ht : h.task = none) (hd : h.due = []) (hq : h.q = r) : LineInv w h S R := by
  refine ⟨f.wf, by rw [hq]; exact f.qr, (fun t e => by rw [ht] at e; cases e), f.far, f.cok, f.excl, by rw [ht]; exact hd, fun k hk => ?_⟩
  have := f.pairs k hk
  rw [rqs_none ht, hq]
  unfold HM.dueOf
  rw [hd]
  exact this
theorem LineInv.free (I : LineInv w h S R) (ht : h.task = none) : h.due = [] ∧ Free w h S R h.q := by
  have hd : h.due = [] := by have := I.du; rw [ht] at this; exact this
  refine ⟨hd, I.wf, I.qr, I.far, I.cok, I.excl, fun k hk => ?_⟩
  have := I.pairs k hk
  rw [rqs_none ht] at this
  unfold HM.dueOf at this
  rw [hd] at this
  exact this
theorem role_congr {m : HM} {k : Nat} (h1 : m.ow = h.ow) (h2 : m.sh[k]? = h.sh[k]?) : m.role k = h.role k := by unfold HM.role; rw [h1, h2]
theorem excl_n' (hx : ∀ o, h.ow = some o → ∀ k : Nat, h.sh[k]? ≠ some true) {o k : Nat} (ho : h.ow = some o) (hk : k ≠ o) : h.role k = .N := role_n (by rw [ho]; intro e; cases e; exact hk rfl) (hx o ho k)
theorem line_grant {m : HM} {l : Lt} {r : List Lt} {j : Nat} (wf : h.WF) (far : ∃ ws, h.far = some ws ∧ (ws.length : Int) = w) (cok : ∃ ws, cur h S R = some ws ∧ (ws.length : Int) = w) (excl : ∀ o, h.ow = some o → ∀ k : Nat, h.sh[k]? ≠ some true) (qr : ∀ l ∈ r, l.1 ∈ ["read", "write", "back"] ∧ inR h.n l)
    (hj : l.2.2.1 = (j : Int)) (hjn : j < h.n) (hw : l.1 = "read" ∨ l.1 = "write") (hrd : l.1 = "read" → h.ow = none) (hwr : l.1 = "write" → ∀ k : Nat, k < h.n → k ≠ j → h.role k = .N)
    (Pj : PairOk h.far (S j) (h.role j) (sel isNr R h.line j) (sel isAn R h.line j) [(l.1, l.2.2.2)] none) (q1 : sel isRq R h.line j = []) (q2 : rowOf r j = [])
    (Po : ∀ k : Nat, k < h.n → k ≠ j → PairOk h.far (S k) (h.role k) (sel isNr R h.line k) (sel isAn R h.line k) (sel isRq R h.line k ++ rowOf r k) none)
    (em : m = { (h.grant l).2 with q := r, task := some l }) : LineInv w m S (R ++ [(h.grant l).1]) ∧ cur m S (R ++ [(h.grant l).1]) = cur h S R := by
  have hj2 : l.2.2.1.toNat = j := by omega
  rcases hw with hw | hw
  · have ho := hrd hw
    have hPj := Pj
    rw [hw] at hPj
    obtain ⟨rN, pr⟩ := p_read hPj
    have eg : h.grant l = (("share", h.line, (j : Int), h.far), { h with sh := h.sh.set j true, due := [("took", (j : Int))] }) := by
      unfold HM.grant
      rw [if_neg (by rw [hw]; decide), hj2, hj]
    rw [eg] at em ⊢
    dsimp only at em ⊢
    obtain ⟨m1, m2, m3, m4, m5, m6, m7, m8⟩ : m.line = h.line ∧ m.n = h.n ∧ m.far = h.far ∧ m.ow = none ∧ m.sh = h.sh.set j true ∧ m.q = r ∧ m.task = some l ∧ m.due = [("took", (j : Int))] := by subst em; exact ⟨rfl, rfl, rfl, ho, rfl, rfl, rfl, rfl⟩
    have hc : cur m S (R ++ [("share", h.line, (j : Int), h.far)]) = cur h S R := by
      unfold cur
      rw [m4, ho, m3]
    refine ⟨⟨⟨by rw [m5, m2]; simp [wf.len], by rw [m2]; exact wf.le, fun o e => by rw [m4] at e; cases e⟩, by rw [m6, m2]; exact qr, fun t e => ?_, by rw [m3]; exact far, by rw [hc]; exact cok, (fun o e => by rw [m4] at e; cases e), ?_, ?_⟩, hc⟩
    · rw [m7] at e; cases e
      exact ⟨.inl hw, by unfold inR; rw [hj, m2]; omega⟩
    · rw [m7, m8]; exact .inl (by rw [hj])
    · intro k hk
      rw [m2] at hk
      rw [m1, m3, sel_app, sel_app, sel_app, sel_one, sel_one, sel_one, rqs_some m7, m6, m8, hj]
      have dE : m.dueOf k = if (j : Int) = k then some "took" else none := by unfold HM.dueOf; rw [m8, find_one]
      rw [dE]
      by_cases e : k = j
      · subst e
        have rE : m.role k = .R := by
          unfold HM.role
          rw [m4, m5]
          simp [List.getElem?_set, wf.len, hjn]
        rw [rE, q1, q2]
        simpa [isNr, isAn, isRq] using pr
      · have rE : m.role k = h.role k := role_congr (m4.trans ho.symm) (by rw [m5, List.getElem?_set_ne (fun x => e x.symm)])
        have e' : ¬ (j : Int) = k := by omega
        rw [rE]
        simp only [e', false_and, if_false, List.append_nil]
        exact Po k hk e
  · have hPj := Pj
    rw [hw] at hPj
    obtain ⟨rN, pr, pvE⟩ := p_write' hPj
    have hoth := hwr hw
    have ho : h.ow = none := by
      cases hh : h.ow with
      | none => rfl
      | some o =>
        have ron : h.role o = .W := by unfold HM.role; rw [hh, if_pos rfl]
        by_cases e : o = j
        · subst e; exact absurd ron rN
        · have := hoth o (wf.ow o hh) e
          rw [ron] at this; cases this
    have eg : h.grant l = (("own", h.line, (j : Int), h.far), { h with ow := some j, sh := List.replicate h.n false, due := [("took", (j : Int))] }) := by
      unfold HM.grant
      rw [if_pos hw, hj2, hj]
    rw [eg] at em ⊢
    dsimp only at em ⊢
    obtain ⟨m1, m2, m3, m4, m5, m6, m7, m8⟩ : m.line = h.line ∧ m.n = h.n ∧ m.far = h.far ∧ m.ow = some j ∧ m.sh = List.replicate h.n false ∧ m.q = r ∧ m.task = some l ∧ m.due = [("took", (j : Int))] := by subst em; exact ⟨rfl, rfl, rfl, rfl, rfl, rfl, rfl, rfl⟩
    have hrep : ∀ k : Nat, (List.replicate h.n false)[k]? ≠ some true := fun k e => by
      rw [List.getElem?_replicate] at e
      split at e <;> cases e
    have hc : cur m S (R ++ [("own", h.line, (j : Int), h.far)]) = cur h S R := by
      unfold cur
      rw [m4, ho]
      dsimp only
      rw [m1, m3, sel_app, sel_app, sel_one, sel_one]
      simpa [isNr, isAn] using pvE
    refine ⟨⟨⟨by rw [m5, m2]; simp, by rw [m2]; exact wf.le, fun o e => by rw [m4] at e; cases e; rw [m2]; exact hjn⟩, by rw [m6, m2]; exact qr, fun t e => ?_, by rw [m3]; exact far, by rw [hc]; exact cok, fun o e k => by rw [m5]; exact hrep k, ?_, ?_⟩, hc⟩
    · rw [m7] at e; cases e
      exact ⟨.inr hw, by unfold inR; rw [hj, m2]; omega⟩
    · rw [m7, m8]; exact .inl (by rw [hj])
    · intro k hk
      rw [m2] at hk
      rw [m1, m3, sel_app, sel_app, sel_app, sel_one, sel_one, sel_one, rqs_some m7, m6, m8, hj]
      have dE : m.dueOf k = if (j : Int) = k then some "took" else none := by unfold HM.dueOf; rw [m8, find_one]
      rw [dE]
      by_cases e : k = j
      · subst e
        have rE : m.role k = .W := by unfold HM.role; rw [m4, if_pos rfl]
        rw [rE, q1, q2]
        simpa [isNr, isAn, isRq] using pr
      · have rE : m.role k = .N := role_n (by rw [m4]; intro x; cases x; exact e rfl) (by rw [m5]; exact hrep k)
        have rO := hoth k hk e
        have e' : ¬ (j : Int) = k := by omega
        have := Po k hk e
        rw [rO] at this
        rw [rE]
        simp only [e', false_and, if_false, List.append_nil]
        exact this
theorem line_start {l : Lt} {r : List Lt} {m : HM} (I : Free w h S R (l :: r)) (ht : h.task = none) (hd : h.due = []) (em : m = { (h.start l).2 with q := r }) : LineInv w m S (R ++ (h.start l).1) ∧ cur m S (R ++ (h.start l).1) = cur h S R := by
  have wf := I.wf
  obtain ⟨hl1, hl2⟩ := I.qr l List.mem_cons_self
  have hr2 : ∀ x ∈ r, x.1 ∈ ["read", "write", "back"] ∧ inR h.n x := fun x hx => I.qr x (List.mem_cons_of_mem _ hx)
  obtain ⟨j, hj⟩ := Int.eq_ofNat_of_zero_le hl2.1
  have hj : l.2.2.1 = (j : Int) := hj
  have hjn : j < h.n := by have := hl2.2; omega
  have hj2 : l.2.2.1.toNat = j := by omega
  have P : ∀ k : Nat, k < h.n → PairOk h.far (S k) (h.role k) (sel isNr R h.line k) (sel isAn R h.line k) (sel isRq R h.line k ++ ((if (j : Int) = k then [(l.1, l.2.2.2)] else []) ++ rowOf r k)) none := fun k hk => by
    have := I.pairs k hk
    rw [rowOf_cons, hj] at this
    exact this
  have Pj := P j hjn
  rw [if_pos rfl] at Pj
  obtain ⟨q1, q2⟩ := app_one (p_len Pj).2.2
  rw [q1, q2] at Pj
  simp only [List.nil_append, List.append_nil] at Pj
  have Po : ∀ k : Nat, k < h.n → k ≠ j → PairOk h.far (S k) (h.role k) (sel isNr R h.line k) (sel isAn R h.line k) (sel isRq R h.line k ++ rowOf r k) none := fun k hk e => by
    have := P k hk
    rw [if_neg (by omega)] at this
    exact this
  by_cases cb : l.1 = "back"
  · -- back
    have hPj := Pj
    rw [cb] at hPj
    have eg : h.start l = ([("gone", h.line, (j : Int), none)], ({ h with far := if h.ow = some j then l.2.2.2 else h.far } : HM).strike j) := by
      unfold HM.start
      rw [if_pos cb, hj2, hj]
    rw [eg] at em ⊢
    dsimp only at em ⊢
    obtain ⟨m1, m2, m3, m4, m5, m6, m7, m8⟩ : m.line = h.line ∧ m.n = h.n ∧ m.far = (if h.ow = some j then l.2.2.2 else h.far) ∧ m.ow = (if h.ow = some j then none else h.ow) ∧ m.sh = h.sh.set j false ∧ m.q = r ∧ m.task = none ∧ m.due = [] := by subst em; exact ⟨rfl, rfl, rfl, rfl, rfl, rfl, ht, hd⟩
    have hsh : ∀ k : Nat, m.sh[k]? = some true → h.sh[k]? = some true ∧ k ≠ j := fun k e => by
      rw [m5] at e
      by_cases x : j = k
      · subst x
        rw [List.getElem?_set_self (by rw [wf.len]; exact hjn)] at e; cases e
      · rw [List.getElem?_set_ne x] at e
        exact ⟨e, fun y => x y.symm⟩
    have rN : m.role j = .N := by
      refine role_n ?_ (fun e => (hsh j e).2 rfl)
      rw [m4]; split
      · simp
      · assumption
    have hc : cur m S (R ++ [("gone", h.line, (j : Int), none)]) = cur h S R := by
      unfold cur
      rw [m4, m3, m1]
      by_cases c : h.ow = some j
      · have rW : h.role j = .W := by unfold HM.role; rw [if_pos c]
        have := ((p_back h.far hPj).2 rW).1
        rw [if_pos c, if_pos c, c]
        exact this.symm
      · rw [if_neg c, if_neg c]
        cases ho : h.ow with
        | none => rfl
        | some o =>
          have hne : ¬ (j : Int) = o := fun x => c (by rw [ho]; congr 1; omega)
          dsimp only
          rw [sel_app, sel_app, sel_one, sel_one]
          simp only [hne, false_and, if_false, List.append_nil]
    have farOk : ∃ ws, m.far = some ws ∧ (ws.length : Int) = w := by
      by_cases c : h.ow = some j
      · have : m.far = cur h S R := by
          rw [← hc]; unfold cur; rw [m4, if_pos c]
        rw [this]; exact I.cok
      · rw [m3, if_neg c]; exact I.far
    refine ⟨Free.inv ⟨⟨by rw [m5, m2]; simp [wf.len], by rw [m2]; exact wf.le, fun o e => ?_⟩, by rw [m2]; exact hr2, farOk, by rw [hc]; exact I.cok, fun o e k hk => ?_, fun k hk => ?_⟩ m7 m8 m6, hc⟩
    · rw [m4] at e; split at e
      · cases e
      · rw [m2]; exact wf.ow o e
    · rw [m4] at e; split at e
      · cases e
      · exact I.excl o e k (hsh k hk).1
    · rw [m2] at hk
      rw [m1, sel_app, sel_app, sel_app, sel_one, sel_one, sel_one]
      by_cases e : k = j
      · subst e
        rw [rN, q1, q2]
        have := (p_back m.far hPj).1
        simpa [isNr, isAn, isRq] using this
      · have e' : ¬ (j : Int) = k := by omega
        simp only [e', false_and, if_false, List.append_nil]
        by_cases c : h.ow = some j
        · have r1 : h.role k = .N := excl_n' I.excl c e
          have r2 : m.role k = .N := role_n (by rw [m4, if_pos c]; simp) (fun x => I.excl j c k (hsh k x).1)
          have := Po k hk e
          rw [r1] at this
          rw [r2]
          exact p_far _ this
        · rw [m3, if_neg c, role_congr (h := h) (by rw [m4, if_neg c]) (by rw [m5, List.getElem?_set_ne (fun x => e x.symm)])]
          exact Po k hk e
  · have hw : l.1 = "read" ∨ l.1 = "write" := by
      simp only [List.mem_cons, List.not_mem_nil, or_false] at hl1
      rcases hl1 with e | e | e
      · exact .inl e
      · exact .inr e
      · exact absurd e cb
    have grantOk : h.start l = ([(({ h with task := some l } : HM).grant l).1], (({ h with task := some l } : HM).grant l).2) → (l.1 = "read" → h.ow = none) → (l.1 = "write" → ∀ k : Nat, k < h.n → k ≠ j → h.role k = .N) → LineInv w m S (R ++ (h.start l).1) ∧ cur m S (R ++ (h.start l).1) = cur h S R := by
      intro eg hrd hwr
      rw [eg] at em ⊢
      have g1 : (({ h with task := some l } : HM).grant l).1 = (h.grant l).1 := by unfold HM.grant; split <;> rfl
      have g2 : ({ (({ h with task := some l } : HM).grant l).2 with q := r } : HM) = { (h.grant l).2 with q := r, task := some l } := by unfold HM.grant; split <;> rfl
      dsimp only at em ⊢
      rw [g2] at em
      rw [g1]
      exact line_grant wf I.far I.cok I.excl hr2 hj hjn hw hrd hwr Pj q1 q2 Po em
    by_cases cw : l.1 = "write"
    · by_cases co : h.others j = []
      · refine grantOk ?_ (fun e => by rw [cw] at e; simp at e) (fun _ k hk hkj => ?_)
        · unfold HM.start
          rw [if_neg cb]
          dsimp only
          rw [if_pos cw, hj2, if_pos co]
        · cases hr : h.role k with
          | N => rfl
          | _ =>
            have := (others_mem wf (j := j) hk).mpr ⟨hkj, by rw [hr]; simp⟩
            rw [co] at this; cases this
      · -- yields
        have eg : h.start l = ((h.others j).map fun o => ("yield", h.line, o, none), { h with task := some l, due := (h.others j).map fun o => ("yielded", o) }) := by
          unfold HM.start
          rw [if_neg cb]
          dsimp only
          rw [if_pos cw, hj2, if_neg co]
        rw [eg] at em ⊢
        dsimp only at em ⊢
        obtain ⟨m1, m2, m3, m4, m5, m6, m7, m8⟩ : m.line = h.line ∧ m.n = h.n ∧ m.far = h.far ∧ m.ow = h.ow ∧ m.sh = h.sh ∧ m.q = r ∧ m.task = some l ∧ m.due = (h.others j).map fun o => ("yielded", o) := by subst em; exact ⟨rfl, rfl, rfl, rfl, rfl, rfl, rfl, rfl⟩
        have hmr : ∀ k : Nat, m.role k = h.role k := fun k => role_congr m4 (by rw [m5])
        have hnt : ∀ k : Int, ("took", k) ∉ m.due := fun k x => by
          rw [m8] at x
          obtain ⟨y, _, y2⟩ := List.mem_map.mp x
          simp at y2
        have hc : cur m S (R ++ (h.others j).map fun o => (("yield", h.line, o, none) : Lt)) = cur h S R := by
          unfold cur
          rw [m4, m3, m1]
          cases ho : h.ow with
          | none => rfl
          | some o =>
            dsimp only
            have hon := wf.ow o ho
            have rW : h.role o = .W := by unfold HM.role; rw [if_pos ho]
            have oj : o ≠ j := fun e => by
              have hPj := Pj
              rw [cw] at hPj
              subst e
              exact (p_write' hPj).1 rW
            have x := (others_mem wf (j := j) hon).mpr ⟨oj, by rw [rW]; simp⟩
            rw [sel_app, sel_app, sel_yields _ _ _ (others_nodup j), sel_yields _ _ _ (others_nodup j)]
            have := (p_yield (Po o hon oj) (by rw [rW]; simp)).2
            simpa [x, isNr, isAn] using this
        refine ⟨⟨⟨by rw [m5, m2]; exact wf.len, by rw [m2]; exact wf.le, fun o e => by rw [m4] at e; rw [m2]; exact wf.ow o e⟩, by rw [m6, m2]; exact hr2, fun t e => ?_, by rw [m3]; exact I.far, by rw [hc]; exact I.cok, fun o e k => by rw [m4] at e; rw [m5]; exact I.excl o e k, ?_, fun k hk => ?_⟩, hc⟩
        · rw [m7] at e; cases e
          exact ⟨.inr cw, by unfold inR; rw [hj, m2]; omega⟩
        · rw [m7]
          right; right
          refine ⟨cw, by rw [m8]; simpa using co, by rw [m8]; exact List.pairwise_map.mpr ((others_nodup j).imp fun hne e => hne (by simpa using e)), fun x hx => ?_, fun k hk => ?_⟩
          · rw [m8] at hx
            obtain ⟨y, y1, rfl⟩ := List.mem_map.mp hx
            obtain ⟨i, i1, i2⟩ := others_lt wf y1
            exact ⟨rfl, i, i1, by rw [m2]; exact i2⟩
          · rw [m2] at hk
            rw [m8, hmr, hj]
            have := others_mem wf (j := j) hk
            constructor
            · intro x
              obtain ⟨y, y1, y2⟩ := List.mem_map.mp x
              simp only [Prod.mk.injEq, true_and] at y2
              subst y2
              have := this.mp y1
              exact ⟨by omega, this.2⟩
            · rintro ⟨x1, x2⟩
              exact List.mem_map.mpr ⟨k, this.mpr ⟨by omega, x2⟩, rfl⟩
        · rw [m2] at hk
          rw [m1, m3, hmr, sel_app, sel_app, sel_app, sel_yields _ _ _ (others_nodup j), sel_yields _ _ _ (others_nodup j), sel_yields _ _ _ (others_nodup j), rqs_some m7, m6, hj]
          have dE : m.dueOf k = if (k : Int) ∈ h.others j then some "yielded" else none := by unfold HM.dueOf; rw [m8, find_yields]
          rw [dE]
          have om := others_mem wf (j := j) hk
          by_cases e : k = j
          · subst e
            have : (k : Int) ∉ h.others k := fun x => (om.mp x).1 rfl
            rw [q1, q2]
            simpa [this, hnt, isNr, isAn, isRq] using Pj
          · have e' : ¬ (j : Int) = k := by omega
            have := Po k hk e
            by_cases x : (k : Int) ∈ h.others j
            · have py := (p_yield this (om.mp x).2).1
              simpa [x, e', isNr, isAn, isRq] using py
            · simpa [x, e', isNr, isAn, isRq] using this
    · have cr : l.1 = "read" := hw.resolve_right cw
      cases ho : h.ow with
      | none =>
        refine grantOk ?_ (fun _ => ho) (fun e => absurd e cw)
        unfold HM.start
        rw [if_neg cb]
        dsimp only
        rw [if_neg cw, ho]
      | some o =>
        have eg : h.start l = ([("lower", h.line, (o : Int), none)], { h with task := some l, due := [("lowered", (o : Int))] }) := by
          unfold HM.start
          rw [if_neg cb]
          dsimp only
          rw [if_neg cw, ho]
        rw [eg] at em ⊢
        dsimp only at em ⊢
        obtain ⟨m1, m2, m3, m4, m5, m6, m7, m8⟩ : m.line = h.line ∧ m.n = h.n ∧ m.far = h.far ∧ m.ow = h.ow ∧ m.sh = h.sh ∧ m.q = r ∧ m.task = some l ∧ m.due = [("lowered", (o : Int))] := by subst em; exact ⟨rfl, rfl, rfl, rfl, rfl, rfl, rfl, rfl⟩
        have hmr : ∀ k : Nat, m.role k = h.role k := fun k => role_congr m4 (by rw [m5])
        have hon := wf.ow o ho
        have rW : h.role o = .W := by unfold HM.role; rw [if_pos ho]
        have hPj := Pj
        rw [cr] at hPj
        have oj : o ≠ j := fun e => by
          subst e
          rw [(p_read hPj).1] at rW; cases rW
        have PoW := Po o hon oj
        rw [rW] at PoW
        have hc : cur m S (R ++ [("lower", h.line, (o : Int), none)]) = cur h S R := by
          unfold cur
          rw [m4, m3, m1, ho]
          dsimp only
          rw [sel_app, sel_app, sel_one, sel_one]
          simpa [isNr, isAn] using (p_lower PoW).2
        refine ⟨⟨⟨by rw [m5, m2]; exact wf.len, by rw [m2]; exact wf.le, fun o e => by rw [m4] at e; rw [m2]; exact wf.ow o e⟩, by rw [m6, m2]; exact hr2, fun t e => ?_, by rw [m3]; exact I.far, by rw [hc]; exact I.cok, fun o e k => by rw [m4] at e; rw [m5]; exact I.excl o e k, ?_, fun k hk => ?_⟩, hc⟩
        · rw [m7] at e; cases e
          exact ⟨.inl cr, by unfold inR; rw [hj, m2]; omega⟩
        · rw [m7]
          exact .inr (.inl ⟨cr, o, m4.trans ho, by rw [hj]; omega, m8⟩)
        · rw [m2] at hk
          rw [m1, m3, hmr, sel_app, sel_app, sel_app, sel_one, sel_one, sel_one, rqs_some m7, m6, m8, hj]
          have dE : m.dueOf k = if (o : Int) = k then some "lowered" else none := by unfold HM.dueOf; rw [m8, find_one]
          rw [dE]
          by_cases e : k = j
          · subst e
            have : ¬ (o : Int) = k := by omega
            rw [q1, q2]
            simpa [this, isNr, isAn, isRq] using Pj
          · have e' : ¬ (j : Int) = k := by omega
            by_cases x : k = o
            · subst x
              have := (p_lower PoW).1
              rw [rW]
              simpa [e', isNr, isAn, isRq] using this
            · have x' : ¬ (o : Int) = k := by omega
              simpa [x', e', isNr, isAn, isRq] using Po k hk e
end
end PG
namespace PG
open PySem L2 VL
section
variable {w : Int} {h : HM} {S : Nat → Hs} {R : List Lt}
theorem Free.setq {r q : List Lt} (f : Free w { h with q := q } S R r) : Free w h S R r := ⟨⟨f.wf.len, f.wf.le, f.wf.ow⟩, f.qr, f.far, f.cok, f.excl, f.pairs⟩
theorem line_drain : ∀ (r : List Lt) {h : HM} {R : List Lt}, Free w h S R r → h.task = none → h.due = [] → LineInv w (HM.drain r h).2 S (R ++ (HM.drain r h).1) ∧ cur (HM.drain r h).2 S (R ++ (HM.drain r h).1) = cur h S R ∧ ((HM.drain r h).2.task = none → (HM.drain r h).2.q = [])
  | [], h, R, f, ht, hd => by
    refine ⟨?_, ?_, fun _ => rfl⟩
    · show LineInv w { h with q := [] } S (R ++ [])
      rw [List.append_nil]
      exact Free.inv (h := { h with q := [] }) (r := []) ⟨⟨f.wf.len, f.wf.le, f.wf.ow⟩, f.qr, f.far, f.cok, f.excl, f.pairs⟩ ht hd rfl
    · show cur { h with q := [] } S (R ++ []) = _
      rw [List.append_nil]; rfl
  | l :: r, h, R, f, ht, hd => by
    obtain ⟨I, hc⟩ := line_start (m := { (h.start l).2 with q := r }) f ht hd rfl
    have hdr : HM.drain (l :: r) h = ((h.start l).1 ++ (HM.drain r (h.start l).2).1, (HM.drain r (h.start l).2).2) := by
      show (if h.task.isSome = true then _ else _) = _
      rw [ht]; rfl
    rw [hdr]
    dsimp only
    by_cases hb : (h.start l).2.task = none
    · have hfree := I.free hb
      obtain ⟨a, b, c⟩ := line_drain r (Free.setq hfree.2) hb hfree.1
      rw [← List.append_assoc]
      exact ⟨a, b.trans hc, c⟩
    · have hs : (h.start l).2.task.isSome = true := by cases e : (h.start l).2.task with | none => exact absurd e hb | some t => rfl
      have e : HM.drain r (h.start l).2 = ([], { (h.start l).2 with q := r }) := by
        cases r with
        | nil => rfl
        | cons a r =>
          show (if (h.start l).2.task.isSome = true then _ else _) = _
          rw [if_pos hs]
      rw [e, List.append_nil]
      exact ⟨I, hc, fun x => absurd x hb⟩
theorem drain_some {r : List Lt} (ht : h.task.isSome = true) : HM.drain r h = ([], { h with q := r }) := by
  cases r with
  | nil => rfl
  | cons a r => show (if h.task.isSome = true then _ else _) = _; rw [if_pos ht]
theorem sel_mid (p : String → Bool) (A B : List Lt) (l : Lt) (ln k : Int) : sel p (A ++ l :: B) ln k = sel p A ln k ++ ((if l.2.1 = ln ∧ l.2.2.1 = k ∧ p l.1 = true then [(l.1, l.2.2.2)] else []) ++ sel p B ln k) := by
  rw [sel_app, sel_cons]
theorem sel_other {p : String → Bool} {A B : List Lt} {l : Lt} {ln k : Int} (h : ¬ (l.2.1 = ln ∧ l.2.2.1 = k ∧ p l.1 = true)) : sel p (A ++ l :: B) ln k = sel p (A ++ B) ln k := by
  rw [sel_mid, if_neg h, sel_app]; rfl
theorem sel_own {p : String → Bool} {A B : List Lt} {l : Lt} {ln k : Int} (h : l.2.1 = ln ∧ l.2.2.1 = k ∧ p l.1 = true) (h1 : (sel p (A ++ l :: B) ln k).length ≤ 1) : sel p (A ++ l :: B) ln k = [(l.1, l.2.2.2)] ∧ sel p (A ++ B) ln k = [] := by
  rw [sel_mid, if_pos h] at h1 ⊢
  obtain ⟨a, b⟩ := app_one h1
  rw [sel_app, a, b]; exact ⟨rfl, rfl⟩
theorem find_gen (k : Int) : ∀ {ds : List (String × Int)}, (∀ x ∈ ds, x.1 = "yielded") → (ds.find? fun x => decide (x.2 = k)).map (·.1) = if ("yielded", k) ∈ ds then some "yielded" else none
  | [], _ => rfl
  | d :: ds, hd => by
    have h1 := hd d List.mem_cons_self
    obtain ⟨a, b⟩ := d
    dsimp only at h1
    subst h1
    rw [List.find?_cons]
    by_cases e : b = k
    · subst e; simp
    · have ih := find_gen k fun x hx => hd x (List.mem_cons_of_mem _ hx)
      have : ¬ (("yielded", k) : String × Int) = ("yielded", b) := fun x => e (by injection x with _ y; exact y.symm)
      simp only [e, decide_false, List.mem_cons, this, false_or]
      exact ih
theorem len_bound : ∀ (n : Nat) {xs : List Int}, xs.Nodup → (∀ x ∈ xs, 0 ≤ x ∧ x < (n : Int)) → xs.length ≤ n
  | 0, xs, _, h => by
    cases xs with
    | nil => simp
    | cons x r => have := h x List.mem_cons_self; omega
  | n + 1, xs, nd, h => by
    have := len_bound n (xs := xs.erase (n : Int)) (nd.erase _) (fun x hx => by
      have h1 := (nd.mem_erase_iff.mp hx)
      have h2 := h x h1.2
      have : x ≠ (n : Int) := h1.1
      omega)
    by_cases hm : (n : Int) ∈ xs
    · rw [List.length_erase_of_mem hm] at this; omega
    · rw [List.erase_of_not_mem hm] at this; omega
theorem nodup_of_row : ∀ {r : List Lt}, (∀ k : Int, (rowOf r k).length ≤ 1) → (r.map fun l => l.2.2.1).Nodup
  | [], _ => by simp
  | l :: r, h => by
    rw [List.map_cons, List.nodup_cons]
    refine ⟨fun hx => ?_, nodup_of_row fun k => ?_⟩
    · obtain ⟨x, hx, e⟩ := List.mem_map.mp hx
      have := h l.2.2.1
      rw [rowOf_cons, if_pos rfl] at this
      have h0 : (rowOf r l.2.2.1) = [] := (app_one (a := []) (x := (l.1, l.2.2.2)) (by rw [List.nil_append]; exact this)).2
      have : ((x.1, x.2.2.2) : String × WD) ∈ rowOf r l.2.2.1 := List.mem_map.mpr ⟨x, List.mem_filter.mpr ⟨hx, by simp [e]⟩, rfl⟩
      rw [h0] at this; cases this
    · have := h k
      rw [rowOf_cons, List.length_append] at this
      omega
theorem row_len (I : LineInv w h S R) : h.q.length ≤ 64 := by
  have nd : (h.q.map fun l => l.2.2.1).Nodup := nodup_of_row fun k => by
    by_cases hk : 0 ≤ k ∧ k < (h.n : Int)
    · obtain ⟨j, hj⟩ := Int.eq_ofNat_of_zero_le hk.1
      have := (p_len (I.pairs j (by omega))).2.2
      rw [List.length_append] at this
      have e : (h.rqs (j : Int)).length ≥ (rowOf h.q j).length := by unfold HM.rqs rowOf; simp
      rw [show k = (j : Int) from hj]
      omega
    · have : rowOf h.q k = [] := by
        unfold rowOf
        rw [List.map_eq_nil_iff, List.filter_eq_nil_iff]
        intro x hx e
        have := (I.qr x hx).2
        unfold inR at this
        simp only [decide_eq_true_eq] at e
        omega
      rw [this]; simp
  have := len_bound h.n nd (fun x hx => by
    obtain ⟨y, hy, rfl⟩ := List.mem_map.mp hx
    exact (I.qr y hy).2)
  rw [List.length_map] at this
  have := I.wf.le
  omega
theorem due_len (I : LineInv w h S R) : h.due.length ≤ 64 := by
  have du := I.du
  cases ht : h.task with
  | none => rw [ht] at du; rw [du]; simp
  | some t =>
    rw [ht] at du
    rcases du with e | ⟨_, o, _, _, e⟩ | ⟨_, _, nd, hx, _⟩
    · rw [e]; simp
    · rw [e]; simp
    · have nd2 : (h.due.map (·.2)).Nodup := by
        refine List.pairwise_map.mpr ((List.Pairwise.imp_of_mem ?_ nd))
        intro a b ha hb hne e
        refine hne (Prod.ext ?_ e)
        rw [(hx a ha).1, (hx b hb).1]
      have := len_bound h.n nd2 (fun x hx2 => by
        obtain ⟨y, hy, rfl⟩ := List.mem_map.mp hx2
        obtain ⟨i, i1, i2⟩ := (hx y hy).2
        rw [i1]; omega)
      rw [List.length_map] at this
      have := I.wf.le
      omega
structure LineOk (w : Int) (h : HM) (S : Nat → Hs) (R : List Lt) : Prop extends LineInv w h S R where
  idle : h.task = none → h.q = []
theorem LineOk.ok (I : LineOk w h S R) : h.Ok := by
  refine ⟨I.wf, fun ht => ⟨I.idle ht, (I.toLineInv.free ht).1⟩, I.qr, I.tr, ?_, ?_⟩
  · have := row_len I.toLineInv; omega
  · have := due_len I.toLineInv; omega
theorem due_took (I : LineInv w h S R) {k : Nat} (hd : h.dueOf k = some "took") : ∃ t, h.task = some t ∧ t.2.2.1 = (k : Int) ∧ h.due = [("took", (k : Int))] := by
  have du := I.du
  unfold HM.dueOf at hd
  cases ht : h.task with
  | none => rw [ht] at du; rw [du] at hd; simp at hd
  | some t =>
    rw [ht] at du
    rcases du with e | ⟨_, o, _, _, e⟩ | ⟨_, _, nd, hx, _⟩
    · rw [e, find_one] at hd
      split at hd
      · rename_i hk; exact ⟨t, rfl, hk, by rw [e, hk]⟩
      · cases hd
    · rw [e, find_one] at hd
      split at hd
      · simp at hd
      · cases hd
    · rw [find_gen k (fun x q => (hx x q).1)] at hd
      split at hd
      · simp at hd
      · cases hd
theorem due_lowered (I : LineInv w h S R) {k : Nat} (hd : h.dueOf k = some "lowered") : ∃ t, h.task = some t ∧ t.1 = "read" ∧ h.ow = some k ∧ (k : Int) ≠ t.2.2.1 ∧ h.due = [("lowered", (k : Int))] := by
  have du := I.du
  unfold HM.dueOf at hd
  cases ht : h.task with
  | none => rw [ht] at du; rw [du] at hd; simp at hd
  | some t =>
    rw [ht] at du
    rcases du with e | ⟨a, o, b, c, e⟩ | ⟨_, _, nd, hx, _⟩
    · rw [e, find_one] at hd
      split at hd
      · simp at hd
      · cases hd
    · rw [e, find_one] at hd
      split at hd
      · rename_i hk
        have : o = k := by omega
        subst this
        exact ⟨t, rfl, a, b, c, e⟩
      · cases hd
    · rw [find_gen k (fun x q => (hx x q).1)] at hd
      split at hd
      · simp at hd
      · cases hd
theorem due_yielded (I : LineInv w h S R) {k : Nat} (hd : h.dueOf k = some "yielded") : ∃ t, h.task = some t ∧ t.1 = "write" ∧ h.due.Nodup ∧ (∀ x ∈ h.due, x.1 = "yielded" ∧ ∃ i : Nat, x.2 = i ∧ i < h.n) ∧ (∀ k : Nat, k < h.n → (("yielded", (k : Int)) ∈ h.due ↔ (k : Int) ≠ t.2.2.1 ∧ h.role k ≠ .N)) ∧ ("yielded", (k : Int)) ∈ h.due := by
  have du := I.du
  unfold HM.dueOf at hd
  cases ht : h.task with
  | none => rw [ht] at du; rw [du] at hd; simp at hd
  | some t =>
    rw [ht] at du
    rcases du with e | ⟨a, o, b, c, e⟩ | ⟨a, _, nd, hx, hm⟩
    · rw [e, find_one] at hd
      split at hd
      · simp at hd
      · cases hd
    · rw [e, find_one] at hd
      split at hd
      · simp at hd
      · cases hd
    · rw [find_gen k (fun x q => (hx x q).1)] at hd
      split at hd
      · rename_i q; exact ⟨t, rfl, a, nd, hx, hm, q⟩
      · cases hd
theorem line_awaited {A B : List Lt} {l : Lt} {k : Nat} (I : LineInv w h S (A ++ l :: B)) (hl : l.2.1 = h.line) (hk : l.2.2.1 = (k : Int)) (hkn : k < h.n) (hw : l.1 ∈ ["read", "write", "back", "lowered", "yielded", "took"]) : h.awaited l = true ∧ (l.1 = "lowered" → h.ow.isSome = true) := by
  have P := I.pairs k hkn
  have pl := p_len P
  have base : (decide (l.2.1 = h.line) && decide (0 ≤ l.2.2.1) && decide (l.2.2.1 < (h.n : Int))) = true := by
    simp only [hl, hk, decide_true, Bool.true_and, Bool.and_eq_true, decide_eq_true_eq]; omega
  unfold HM.awaited
  rw [base, Bool.true_and]
  by_cases c : l.1 ∈ ["read", "write", "back"]
  · rw [if_pos c]
    refine ⟨?_, fun e => by rw [e] at c; simp at c⟩
    have h1 : sel isRq (A ++ l :: B) h.line k = [(l.1, l.2.2.2)] := (sel_own (p := isRq) ⟨hl, hk, by simpa [isRq] using c⟩ (by have := pl.2.2; rw [List.length_append] at this; omega)).1
    have h2 : h.rqs k = [] := by
      have := pl.2.2
      rw [h1, List.length_append, List.length_singleton] at this
      exact List.length_eq_zero_iff.mp (by omega)
    have h3 : rowOf h.q k = [] := by
      unfold HM.rqs at h2
      exact (List.append_eq_nil_iff.mp h2).1
    have h4 : h.q.any (fun x => decide (x.2.2.1 = l.2.2.1)) = false := by
      rw [List.any_eq_false]
      intro x hx e
      simp only [decide_eq_true_eq] at e
      have : ((x.1, x.2.2.2) : String × WD) ∈ rowOf h.q k := List.mem_map.mpr ⟨x, List.mem_filter.mpr ⟨hx, by simp [e, hk]⟩, rfl⟩
      rw [h3] at this; cases this
    unfold HM.hasReq
    rw [h4, Bool.false_or]
    cases ht : h.task with
    | none => rfl
    | some t =>
      rw [rqs_some ht] at h2
      have h5 := (List.append_eq_nil_iff.mp h2).2
      dsimp only
      rw [hk]
      by_cases e : t.2.2.1 = (k : Int)
      · by_cases e2 : ("took", (k : Int)) ∈ h.due
        · simp [e, e2]
        · rw [if_pos ⟨e, e2⟩] at h5; cases h5
      · simp [e]
  · rw [if_neg c]
    have ca : isAn l.1 = true := by
      simp only [List.mem_cons, List.not_mem_nil, or_false] at hw c
      simp only [isAn, decide_eq_true_eq, List.mem_cons, List.not_mem_nil, or_false]
      rcases hw with e | e | e | e | e | e
      · exact absurd (.inl e) c
      · exact absurd (.inr (.inl e)) c
      · exact absurd (.inr (.inr e)) c
      · exact .inl e
      · exact .inr (.inl e)
      · exact .inr (.inr e)
    have h1 := (sel_own (p := isAn) ⟨hl, hk, ca⟩ pl.2.1).1
    rw [h1] at P
    have hd := (p_ans P).1
    dsimp only at hd
    rw [hk]
    have hw2 : l.1 = "lowered" ∨ l.1 = "yielded" ∨ l.1 = "took" := by simpa [isAn] using ca
    rcases hw2 with e | e | e
    · rw [e] at hd ⊢
      obtain ⟨t, _, _, t3, _, t5⟩ := due_lowered I hd
      exact ⟨by rw [t5]; simp, fun _ => by rw [t3]; rfl⟩
    · rw [e] at hd ⊢
      obtain ⟨t, _, _, _, _, _, t6⟩ := due_yielded I hd
      exact ⟨by simpa using t6, fun x => by simp at x⟩
    · rw [e] at hd ⊢
      obtain ⟨t, _, _, t3⟩ := due_took I hd
      exact ⟨by rw [t3]; simp, fun x => by simp at x⟩
end
end PG
namespace PG
open PySem L2 VL
section
variable {w : Int} {h : HM} {S : Nat → Hs} {R : List Lt}
theorem isRq_not {x : String} (h : isRq x = true) : isAn x = false ∧ isNr x = false := by
  simp only [isRq, decide_eq_true_eq, List.mem_cons, List.not_mem_nil, or_false] at h
  rcases h with e | e | e <;> subst e <;> decide
theorem isAn_not {x : String} (h : isAn x = true) : isRq x = false ∧ isNr x = false := by
  simp only [isAn, decide_eq_true_eq, List.mem_cons, List.not_mem_nil, or_false] at h
  rcases h with e | e | e <;> subst e <;> decide
theorem cur_congr {R' : List Lt} (h1 : ∀ o : Nat, h.ow = some o → sel isNr R' h.line o = sel isNr R h.line o ∧ sel isAn R' h.line o = sel isAn R h.line o) : cur h S R' = cur h S R := by
  unfold cur
  cases ho : h.ow with
  | none => rfl
  | some o => dsimp only; rw [(h1 o ho).1, (h1 o ho).2]
theorem line_request {A B : List Lt} {l : Lt} {k : Nat} (I : LineOk w h S (A ++ l :: B)) (hl : l.2.1 = h.line) (hk : l.2.2.1 = (k : Int)) (hkn : k < h.n) (hw : l.1 ∈ ["read", "write", "back"]) :
    LineOk w (h.come l).2 S (A ++ B ++ (h.come l).1) ∧ cur (h.come l).2 S (A ++ B ++ (h.come l).1) = cur h S (A ++ l :: B) := by
  have rq : isRq l.1 = true := by simpa [isRq] using hw
  obtain ⟨n1, n2⟩ := isRq_not rq
  have P := I.pairs k hkn
  have pl := p_len P
  obtain ⟨s1, s2⟩ := sel_own (p := isRq) (A := A) (B := B) ⟨hl, hk, rq⟩ (by have := pl.2.2; rw [List.length_append] at this; omega)
  have h2 : h.rqs k = [] := by
    have := pl.2.2
    rw [s1, List.length_append, List.length_singleton] at this
    exact List.length_eq_zero_iff.mp (by omega)
  have o1 : ∀ j : Int, sel isNr (A ++ l :: B) h.line j = sel isNr (A ++ B) h.line j := fun j => sel_other (by rw [n2]; simp)
  have o2 : ∀ j : Int, sel isAn (A ++ l :: B) h.line j = sel isAn (A ++ B) h.line j := fun j => sel_other (by rw [n1]; simp)
  have o3 : ∀ j : Nat, j ≠ k → sel isRq (A ++ l :: B) h.line j = sel isRq (A ++ B) h.line j := fun j e => sel_other (by rw [hk]; intro x; exact e (by omega))
  have hc : cur h S (A ++ B) = cur h S (A ++ l :: B) := cur_congr fun o _ => ⟨(o1 o).symm, (o2 o).symm⟩
  have cE : h.come l = HM.drain (h.q ++ [l]) h := by unfold HM.come; rw [if_pos hw]
  rw [cE]
  have qr : ∀ x ∈ h.q ++ [l], x.1 ∈ ["read", "write", "back"] ∧ inR h.n x := fun x hx => by
    rcases List.mem_append.mp hx with q | q
    · exact I.qr x q
    · rw [List.mem_singleton.mp q]; exact ⟨hw, by unfold inR; rw [hk]; omega⟩
  have rowE : ∀ j : Int, rowOf (h.q ++ [l]) j = rowOf h.q j ++ (if l.2.2.1 = j then [(l.1, l.2.2.2)] else []) := fun j => by
    unfold rowOf
    rw [List.filter_append, List.map_append]
    congr 1
    by_cases e : l.2.2.1 = j
    · rw [if_pos e]; simp [e]
    · rw [if_neg e]; simp [e]
  by_cases ht : h.task = none
  · have hq := I.idle ht
    obtain ⟨hd, f⟩ := I.toLineInv.free ht
    rw [hq] at f qr rowE
    have f2 : Free w h S (A ++ B) [l] := by
      refine ⟨f.wf, by simpa using qr, f.far, by rw [hc]; exact f.cok, f.excl, fun j hj => ?_⟩
      have := f.pairs j hj
      rw [o1, o2] at this
      have re := rowE (j : Int)
      simp only [List.nil_append] at re
      rw [re]
      by_cases e : j = k
      · subst e
        rw [s1] at this
        rw [s2, if_pos hk]
        exact this
      · rw [o3 j e] at this
        rw [if_neg (by rw [hk]; omega)]
        exact this
    obtain ⟨a, b, c⟩ := line_drain [l] f2 ht hd
    rw [hq]
    exact ⟨⟨a, c⟩, b.trans hc⟩
  · have hs : h.task.isSome = true := by cases e : h.task with | none => exact absurd e ht | some t => rfl
    rw [drain_some hs, List.append_nil]
    refine ⟨⟨⟨⟨I.wf.len, I.wf.le, I.wf.ow⟩, qr, I.tr, I.far, by show ∃ ws, cur h S (A ++ B) = some ws ∧ _; rw [hc]; exact I.cok, I.excl, I.du, fun j hj => ?_⟩, fun x => absurd x ht⟩, hc⟩
    have := I.pairs j hj
    rw [o1, o2] at this
    obtain ⟨t, htt⟩ : ∃ t, h.task = some t := by cases e : h.task with | none => exact absurd e ht | some t => exact ⟨t, rfl⟩
    have e1 : ({ h with q := h.q ++ [l] } : HM).rqs j = rowOf h.q j ++ (if l.2.2.1 = (j : Int) then [(l.1, l.2.2.2)] else []) ++ (if t.2.2.1 = (j : Int) ∧ ("took", (j : Int)) ∉ h.due then [(t.1, t.2.2.2)] else []) := by
      rw [rqs_some (m := { h with q := h.q ++ [l] }) htt]
      show rowOf (h.q ++ [l]) j ++ _ = _
      rw [rowE]
    show PairOk h.far (S j) (h.role j) (sel isNr (A ++ B) h.line j) (sel isAn (A ++ B) h.line j) (sel isRq (A ++ B) h.line j ++ ({ h with q := h.q ++ [l] } : HM).rqs j) (h.dueOf j)
    rw [e1]
    by_cases e : j = k
    · subst e
      rw [rqs_some htt] at h2
      obtain ⟨h3, h4⟩ := List.append_eq_nil_iff.mp h2
      rw [s1, rqs_some htt, h3, h4] at this
      rw [s2, h3, h4, if_pos hk]
      exact this
    · rw [o3 j e, rqs_some htt] at this
      rw [if_neg (by rw [hk]; omega), List.append_nil]
      exact this
theorem line_took {A B : List Lt} {l : Lt} {k : Nat} (I : LineOk w h S (A ++ l :: B)) (hl : l.2.1 = h.line) (hk : l.2.2.1 = (k : Int)) (hkn : k < h.n) (hw : l.1 = "took") :
    LineOk w (h.come l).2 S (A ++ B ++ (h.come l).1) ∧ cur (h.come l).2 S (A ++ B ++ (h.come l).1) = cur h S (A ++ l :: B) := by
  have an : isAn l.1 = true := by rw [hw]; rfl
  obtain ⟨n1, n2⟩ := isAn_not an
  have P := I.pairs k hkn
  have pl := p_len P
  obtain ⟨s1, s2⟩ := sel_own (p := isAn) (A := A) (B := B) ⟨hl, hk, an⟩ pl.2.1
  have o1 : ∀ j : Int, sel isNr (A ++ l :: B) h.line j = sel isNr (A ++ B) h.line j := fun j => sel_other (by rw [n2]; simp)
  have o2 : ∀ j : Nat, j ≠ k → sel isAn (A ++ l :: B) h.line j = sel isAn (A ++ B) h.line j := fun j e => sel_other (by rw [hk]; intro x; exact e (by omega))
  have o3 : ∀ j : Int, sel isRq (A ++ l :: B) h.line j = sel isRq (A ++ B) h.line j := fun j => sel_other (by rw [n1]; simp)
  rw [s1, hw] at P
  have hd := (p_ans P).1
  obtain ⟨t, t1, t2, t3⟩ := due_took I.toLineInv hd
  have Pk := p_took P
  rw [o1, o3, rqs_some t1, t3, if_neg (by simp), List.append_nil] at Pk
  have hc : cur { h with task := none, due := [] } S (A ++ B) = cur h S (A ++ l :: B) := by
    unfold cur
    show (match h.ow with | none => h.far | some o => _) = _
    cases ho : h.ow with
    | none => rfl
    | some o =>
      dsimp only
      rw [o1]
      by_cases e : o = k
      · subst e
        rw [s1, s2, hw]
        unfold pv
        split
        · rfl
        · simp
      · rw [o2 o e]
  have cE : h.come l = HM.drain h.q { h with task := none, due := [] } := by
    unfold HM.come; rw [if_neg (by rw [hw]; decide), if_pos hw]
  rw [cE]
  have f : Free w { h with task := none, due := [] } S (A ++ B) h.q := by
    refine ⟨⟨I.wf.len, I.wf.le, I.wf.ow⟩, I.qr, I.far, by rw [hc]; exact I.cok, I.excl, fun j hj => ?_⟩
    show PairOk h.far (S j) (h.role j) (sel isNr (A ++ B) h.line j) (sel isAn (A ++ B) h.line j) (sel isRq (A ++ B) h.line j ++ rowOf h.q j) none
    by_cases e : j = k
    · subst e; rw [s2]; exact Pk
    · have := I.pairs j hj
      have dE : h.dueOf j = none := by unfold HM.dueOf; rw [t3, find_one, if_neg (by omega)]
      rw [o1, o2 j e, o3, rqs_some t1, if_neg (by rw [t2]; omega), List.append_nil, dE] at this
      exact this
  obtain ⟨a, b, c⟩ := line_drain h.q f rfl rfl
  exact ⟨⟨a, c⟩, b.trans hc⟩
theorem line_lowered {A B : List Lt} {l : Lt} {k : Nat} (I : LineOk w h S (A ++ l :: B)) (hl : l.2.1 = h.line) (hk : l.2.2.1 = (k : Int)) (hkn : k < h.n) (hw : l.1 = "lowered") :
    LineOk w (h.come l).2 S (A ++ B ++ (h.come l).1) ∧ cur (h.come l).2 S (A ++ B ++ (h.come l).1) = cur h S (A ++ l :: B) := by
  have an : isAn l.1 = true := by rw [hw]; rfl
  obtain ⟨n1, n2⟩ := isAn_not an
  have P := I.pairs k hkn
  have pl := p_len P
  obtain ⟨s1, s2⟩ := sel_own (p := isAn) (A := A) (B := B) ⟨hl, hk, an⟩ pl.2.1
  have o1 : ∀ j : Int, sel isNr (A ++ l :: B) h.line j = sel isNr (A ++ B) h.line j := fun j => sel_other (by rw [n2]; simp)
  have o2 : ∀ j : Nat, j ≠ k → sel isAn (A ++ l :: B) h.line j = sel isAn (A ++ B) h.line j := fun j e => sel_other (by rw [hk]; intro x; exact e (by omega))
  have o3 : ∀ j : Int, sel isRq (A ++ l :: B) h.line j = sel isRq (A ++ B) h.line j := fun j => sel_other (by rw [n1]; simp)
  rw [s1, hw] at P
  have hd := (p_ans P).1
  obtain ⟨t, t1, t2, t3, t4, t5⟩ := due_lowered I.toLineInv hd
  obtain ⟨Pk, rW, pvE⟩ := p_lowered P
  rw [o1, o3, rqs_some t1, t5, if_neg (by intro x; exact t4 x.1.symm), List.append_nil] at Pk
  have hk2 : l.2.2.1.toNat = k := by omega
  let h1 : HM := { h with far := l.2.2.2, due := [], ow := none, sh := h.sh.set k true }
  have tE : h.take l = h1 := by
    unfold HM.take
    dsimp only
    rw [if_pos hw, t3, hk2, if_pos rfl, t5, hw, hk]
    simp [h1]
  have cE : h.come l = ((h1.grant t).1 :: (HM.drain h.q (h1.grant t).2).1, (HM.drain h.q (h1.grant t).2).2) := by
    unfold HM.come
    rw [if_neg (by rw [hw]; decide), if_neg (by rw [hw]; decide)]
    dsimp only
    rw [tE, if_pos (show h1.due = [] from rfl)]
    rw [show h1.task = some t from t1]
  have g0 : ((h1.grant t).2).task.isSome = true := by rw [grant_task]; show h.task.isSome = true; rw [t1]; rfl
  rw [cE, drain_some g0]
  dsimp only
  have hcur : cur h S (A ++ l :: B) = l.2.2.2 := by
    unfold cur; rw [t3]; dsimp only; rw [s1, hw, pvE]
  have rOth : ∀ j : Nat, j ≠ k → h.role j = .N := fun j e => excl_n' I.excl t3 e
  have r1 : ∀ j : Nat, j ≠ k → h1.role j = .N := fun j e => role_n (by simp [h1]) (by
    show (h.sh.set k true)[j]? ≠ some true
    rw [List.getElem?_set_ne (fun x => e x.symm)]
    exact I.excl k t3 j)
  have r2 : h1.role k = .R := by
    unfold HM.role
    show (if (none : Option Nat) = some k then _ else if (h.sh.set k true)[k]? = some true then _ else _) = _
    rw [if_neg (by simp), if_pos (by simp [List.getElem?_set, I.wf.len, hkn])]
  obtain ⟨tr1, tr2⟩ := I.tr t t1
  obtain ⟨j, hj⟩ := Int.eq_ofNat_of_zero_le tr2.1
  have hj : t.2.2.1 = (j : Int) := hj
  have hjn : j < h.n := by have := tr2.2; omega
  have hjk : j ≠ k := by omega
  have Pj := I.pairs j hjn
  have dEj : ∀ i : Nat, i ≠ k → h.dueOf i = none := fun i e => by unfold HM.dueOf; rw [t5, find_one, if_neg (by omega)]
  rw [dEj j hjk, rqs_some t1, if_pos ⟨hj, by rw [t5]; simp⟩, o1, o2 j hjk, o3, rOth j hjk] at Pj
  have plj := (p_len Pj).2.2
  have q1 : sel isRq (A ++ B) h.line j = [] := by
    simp only [List.length_append, List.length_singleton] at plj
    exact List.length_eq_zero_iff.mp (by omega)
  have q2 : rowOf h.q j = [] := by
    simp only [List.length_append, List.length_singleton] at plj
    exact List.length_eq_zero_iff.mp (by omega)
  rw [q1, q2] at Pj
  have wf1 : h1.WF := ⟨by show (h.sh.set k true).length = h.n; simp [I.wf.len], I.wf.le, fun o e => by cases e⟩
  have res := line_grant (h := h1) (m := { (h1.grant t).2 with q := h.q }) (l := t) (r := h.q) (j := j) (S := S) (R := A ++ B) (w := w) wf1 (by have := I.cok; rw [hcur] at this; exact this) (by have := I.cok; rw [hcur] at this; exact this) (fun o e => by cases e) I.qr hj hjn tr1 (fun _ => rfl) (fun e => by rw [t2] at e; simp at e)
    (by rw [r1 j hjk]; exact p_far _ (by simpa using Pj)) q1 q2 (fun i hi e => by
      show PairOk l.2.2.2 (S i) (h1.role i) (sel isNr (A ++ B) h.line i) (sel isAn (A ++ B) h.line i) (sel isRq (A ++ B) h.line i ++ rowOf h.q i) none
      by_cases e2 : i = k
      · subst e2; rw [r2, s2]; exact Pk
      · have := I.pairs i hi
        rw [dEj i e2, rqs_some t1, if_neg (by rw [hj]; intro x; exact e (by omega)), List.append_nil, o1, o2 i e2, o3, rOth i e2] at this
        rw [r1 i e2]
        exact p_far _ this) (by
      have : (h1.grant t).2.task = some t := (grant_task t).trans t1
      rw [← this])
  refine ⟨⟨res.1, fun x => ?_⟩, res.2.trans ?_⟩
  · have : ({ (h1.grant t).2 with q := h.q } : HM).task = some t := (grant_task t).trans t1
    rw [this] at x; cases x
  · rw [hcur]; rfl
theorem line_yielded {A B : List Lt} {l : Lt} {k : Nat} (I : LineOk w h S (A ++ l :: B)) (hl : l.2.1 = h.line) (hk : l.2.2.1 = (k : Int)) (hkn : k < h.n) (hw : l.1 = "yielded") :
    LineOk w (h.come l).2 S (A ++ B ++ (h.come l).1) ∧ cur (h.come l).2 S (A ++ B ++ (h.come l).1) = cur h S (A ++ l :: B) := by
  have an : isAn l.1 = true := by rw [hw]; rfl
  obtain ⟨n1, n2⟩ := isAn_not an
  have P := I.pairs k hkn
  have pl := p_len P
  obtain ⟨s1, s2⟩ := sel_own (p := isAn) (A := A) (B := B) ⟨hl, hk, an⟩ pl.2.1
  have o1 : ∀ j : Int, sel isNr (A ++ l :: B) h.line j = sel isNr (A ++ B) h.line j := fun j => sel_other (by rw [n2]; simp)
  have o2 : ∀ j : Nat, j ≠ k → sel isAn (A ++ l :: B) h.line j = sel isAn (A ++ B) h.line j := fun j e => sel_other (by rw [hk]; intro x; exact e (by omega))
  have o3 : ∀ j : Int, sel isRq (A ++ l :: B) h.line j = sel isRq (A ++ B) h.line j := fun j => sel_other (by rw [n1]; simp)
  rw [s1, hw] at P
  have hd := (p_ans P).1
  obtain ⟨t, t1, t2, t3, t4, t5, t6⟩ := due_yielded I.toLineInv hd
  have hkt := ((t5 k hkn).mp t6).1
  have hkr := ((t5 k hkn).mp t6).2
  have hnt : ∀ j : Int, ("took", j) ∉ h.due := fun j x => by have := (t4 _ x).1; simp at this
  let h1 : HM := { h with far := if h.ow = some k then l.2.2.2 else h.far, due := h.due.erase ("yielded", (k : Int)), ow := if h.ow = some k then none else h.ow, sh := h.sh.set k false }
  have hk2 : l.2.2.1.toNat = k := by omega
  have tE : h.take l = h1 := by
    unfold HM.take HM.strike
    dsimp only
    rw [if_neg (by rw [hw]; decide), hk2, hw, hk]
  obtain ⟨Pk, rE⟩ := p_yielded h1.far P
  rw [o1, o3, rqs_some t1, if_neg (by intro x; exact hkt x.1.symm), List.append_nil] at Pk
  have hsh : ∀ j : Nat, h1.sh[j]? = some true → h.sh[j]? = some true ∧ j ≠ k := fun j e => by
    have e : (h.sh.set k false)[j]? = some true := e
    by_cases x : k = j
    · subst x
      rw [List.getElem?_set_self (by rw [I.wf.len]; exact hkn)] at e; cases e
    · rw [List.getElem?_set_ne x] at e
      exact ⟨e, fun y => x y.symm⟩
  have rK : h1.role k = .N := role_n (by show (if h.ow = some k then none else h.ow) ≠ _; split; simp; assumption) (fun e => (hsh k e).2 rfl)
  have rO : ∀ j : Nat, j ≠ k → h1.role j = h.role j := fun j e => by
    unfold HM.role
    show (if (if h.ow = some k then none else h.ow) = some j then _ else if (h.sh.set k false)[j]? = some true then _ else _) = _
    rw [List.getElem?_set_ne (fun x => e x.symm)]
    by_cases c : h.ow = some k
    · rw [if_pos c, if_neg (show ¬ (none : Option Nat) = some j by simp), if_neg (show ¬ h.ow = some j by rw [c]; intro x; cases x; exact e rfl)]
    · rw [if_neg c]
  have wf1 : h1.WF := ⟨by show (h.sh.set k false).length = h.n; simp [I.wf.len], I.wf.le, fun o e => by
    have e : (if h.ow = some k then none else h.ow) = some o := e
    split at e
    · cases e
    · exact I.wf.ow o e⟩
  have ex1 : ∀ o, h1.ow = some o → ∀ j : Nat, h1.sh[j]? ≠ some true := fun o e j x => by
    have e : (if h.ow = some k then none else h.ow) = some o := e
    split at e
    · cases e
    · exact I.excl o e j (hsh j x).1
  have hcur : cur h1 S (A ++ B) = cur h S (A ++ l :: B) := by
    unfold cur
    show (match (if h.ow = some k then none else h.ow) with | none => (if h.ow = some k then l.2.2.2 else h.far) | some o => _) = _
    by_cases c : h.ow = some k
    · rw [if_pos c, if_pos c, c]
      dsimp only
      rw [s1, hw]
      rcases rE with q | ⟨_, q⟩
      · have : h.role k = .W := by unfold HM.role; rw [if_pos c]
        rw [this] at q; cases q
      · exact q.symm
    · rw [if_neg c]
      cases ho : h.ow with
      | none => dsimp only; rw [if_neg (by simp)]
      | some o =>
        have e : o ≠ k := fun x => c (by rw [ho, x])
        dsimp only
        rw [o1, o2 o e]
        show pv (if h.ow = some k then l.2.2.2 else h.far) _ _ _ = _
        rw [if_neg c]
  have cok1 : ∃ ws, cur h1 S (A ++ B) = some ws ∧ (ws.length : Int) = w := by rw [hcur]; exact I.cok
  have far1 : ∃ ws, h1.far = some ws ∧ (ws.length : Int) = w := by
    by_cases c : h.ow = some k
    · have e1 : h1.ow = none := if_pos c
      have : cur h1 S (A ++ B) = h1.far := by unfold cur; rw [e1]
      rw [← this]; exact cok1
    · show ∃ ws, (if h.ow = some k then l.2.2.2 else h.far) = some ws ∧ _
      rw [if_neg c]; exact I.far
  -- the pairs behind
  have Pm : ∀ j : Nat, j < h.n → PairOk h1.far (S j) (h1.role j) (sel isNr (A ++ B) h.line j) (sel isAn (A ++ B) h.line j) (sel isRq (A ++ B) h.line j ++ (rowOf h.q j ++ (if t.2.2.1 = (j : Int) then [(t.1, t.2.2.2)] else []))) (if ("yielded", (j : Int)) ∈ h1.due then some "yielded" else none) := by
    intro j hj
    by_cases e : j = k
    · subst e
      have : ("yielded", (j : Int)) ∉ h1.due := fun x => (t3.mem_erase_iff.mp x).1 rfl
      rw [rK, s2, if_neg this, if_neg (fun x => hkt x.symm), List.append_nil]
      exact Pk
    · have := I.pairs j hj
      have dE : h.dueOf j = if ("yielded", (j : Int)) ∈ h.due then some "yielded" else none := find_gen _ fun x q => (t4 x q).1
      have mE : ("yielded", (j : Int)) ∈ h1.due ↔ ("yielded", (j : Int)) ∈ h.due := ⟨fun x => (t3.mem_erase_iff.mp x).2, fun x => t3.mem_erase_iff.mpr ⟨fun y => by simp only [Prod.mk.injEq, true_and] at y; exact e (by omega), x⟩⟩
      rw [dE, rqs_some t1, o1, o2 j e, o3] at this
      simp only [hnt, not_false_eq_true, and_true] at this
      rw [rO j e]
      simp only [mE]
      by_cases c : h.ow = some k
      · have rN := excl_n' I.excl c e
        rw [rN] at this ⊢
        exact p_far _ this
      · have : h1.far = h.far := if_neg c
        rw [this]
        assumption
  unfold HM.come
  rw [if_neg (by rw [hw]; decide), if_neg (by rw [hw]; decide)]
  dsimp only
  rw [tE]
  by_cases cd : h1.due = []
  · rw [if_pos cd, show h1.task = some t from t1]
    dsimp only
    have g0 : ((h1.grant t).2).task.isSome = true := by rw [grant_task]; show h.task.isSome = true; rw [t1]; rfl
    rw [show h1.q = h.q from rfl, drain_some g0]
    obtain ⟨tr1, tr2⟩ := I.tr t t1
    obtain ⟨j, hj⟩ := Int.eq_ofNat_of_zero_le tr2.1
    have hj : t.2.2.1 = (j : Int) := hj
    have hjn : j < h.n := by have := tr2.2; omega
    have Pj := Pm j hjn
    rw [cd, if_pos hj, if_neg (by simp)] at Pj
    have plj := (p_len Pj).2.2
    simp only [List.length_append, List.length_singleton] at plj
    have q1 : sel isRq (A ++ B) h.line j = [] := List.length_eq_zero_iff.mp (by omega)
    have q2 : rowOf h.q j = [] := List.length_eq_zero_iff.mp (by omega)
    rw [q1, q2] at Pj
    have none' : ∀ i : Nat, i < h.n → i ≠ j → h1.role i = .N := fun i hi e => by
      by_cases e2 : i = k
      · rw [e2]; exact rK
      · rw [rO i e2]
        cases hr : h.role i with
        | N => rfl
        | _ =>
          have x := (t5 i hi).mpr ⟨by rw [hj]; omega, by rw [hr]; simp⟩
          have : ("yielded", (i : Int)) ∈ h1.due := t3.mem_erase_iff.mpr ⟨fun y => by simp only [Prod.mk.injEq, true_and] at y; exact e2 (by omega), x⟩
          rw [cd] at this; cases this
    have res := line_grant (h := h1) (m := { (h1.grant t).2 with q := h.q }) (l := t) (r := h.q) (j := j) (S := S) (R := A ++ B) (w := w) wf1 far1 cok1 ex1 I.qr hj hjn tr1 (fun e => by rw [t2] at e; simp at e) (fun _ => none') (by simpa using Pj) q1 q2 (fun i hi e => by
      have := Pm i hi
      rw [cd, if_neg (by rw [hj]; intro x; exact e (by omega)), if_neg (by simp), List.append_nil] at this
      exact this) (by
      have : (h1.grant t).2.task = some t := (grant_task t).trans t1
      rw [← this])
    refine ⟨⟨res.1, fun x => ?_⟩, res.2.trans hcur⟩
    have : ({ (h1.grant t).2 with q := h.q } : HM).task = some t := (grant_task t).trans t1
    rw [this] at x; cases x
  · rw [if_neg cd, List.append_nil]
    refine ⟨⟨⟨wf1, I.qr, I.tr, far1, cok1, ex1, ?_, fun j hj => ?_⟩, fun x => by rw [show h1.task = some t from t1] at x; cases x⟩, hcur⟩
    · rw [show h1.task = some t from t1]
      refine .inr (.inr ⟨t2, cd, t3.erase _, fun x hx => t4 x (List.mem_of_mem_erase hx), fun j hj => ?_⟩)
      have hj : j < h.n := hj
      show ("yielded", (j : Int)) ∈ h.due.erase ("yielded", (k : Int)) ↔ _
      rw [t3.mem_erase_iff, t5 j hj]
      by_cases e : j = k
      · subst e
        rw [rK]; simp
      · rw [rO j e]
        exact ⟨fun x => x.2, fun x => ⟨fun y => by simp only [Prod.mk.injEq, true_and] at y; exact e (by omega), x⟩⟩
    · have := Pm j hj
      have dE : h1.dueOf j = if ("yielded", (j : Int)) ∈ h1.due then some "yielded" else none := find_gen _ fun x q => (t4 x (List.mem_of_mem_erase q)).1
      have nt1 : ∀ i : Int, ("took", i) ∉ h1.due := fun i x => hnt i (List.mem_of_mem_erase x)
      rw [dE, rqs_some (m := h1) t1]
      simp only [nt1, not_false_eq_true, and_true]
      exact this
theorem line_come {A B : List Lt} {l : Lt} {k : Nat} (I : LineOk w h S (A ++ l :: B)) (hl : l.2.1 = h.line) (hk : l.2.2.1 = (k : Int)) (hkn : k < h.n) (hw : l.1 ∈ ["read", "write", "back", "lowered", "yielded", "took"]) :
    LineOk w (h.come l).2 S (A ++ B ++ (h.come l).1) ∧ cur (h.come l).2 S (A ++ B ++ (h.come l).1) = cur h S (A ++ l :: B) := by
  by_cases c : l.1 ∈ ["read", "write", "back"]
  · exact line_request I hl hk hkn c
  · simp only [List.mem_cons, List.not_mem_nil, or_false] at hw c
    rcases hw with e | e | e | e | e | e
    · exact absurd (.inl e) c
    · exact absurd (.inr (.inl e)) c
    · exact absurd (.inr (.inr e)) c
    · exact line_lowered I hl hk hkn e
    · exact line_yielded I hl hk hkn e
    · exact line_took I hl hk hkn e
end
end PG
namespace PG
open PySem L2 VL
def ansL (l k : Int) : Option (String × WD) → List Lt
  | some a => [(a.1, l, k, a.2)]
  | none => []
def upd (S : Nat → Hs) (k : Nat) (s : Hs) : Nat → Hs := fun j => if j = k then s else S j
section
variable {w : Int} {h : HM} {S : Nat → Hs} {R : List Lt}
theorem upd_self (k : Nat) (s : Hs) : upd S k s k = s := if_pos rfl
theorem upd_ne {k j : Nat} (s : Hs) (e : j ≠ k) : upd S k s j = S j := if_neg e
theorem LineOk.congr {S' : Nat → Hs} {R' : List Lt} (I : LineOk w h S R) (hS : ∀ k, k < h.n → S' k = S k) (h1 : ∀ k : Int, sel isNr R' h.line k = sel isNr R h.line k) (h2 : ∀ k : Int, sel isAn R' h.line k = sel isAn R h.line k) (h3 : ∀ k : Int, sel isRq R' h.line k = sel isRq R h.line k) : LineOk w h S' R' ∧ cur h S' R' = cur h S R := by
  have hc : cur h S' R' = cur h S R := by
    unfold cur
    cases ho : h.ow with
    | none => rfl
    | some o => dsimp only; rw [h1, h2, hS o (I.wf.ow o ho)]
  refine ⟨⟨⟨I.wf, I.qr, I.tr, I.far, by rw [hc]; exact I.cok, I.excl, I.du, fun k hk => ?_⟩, I.idle⟩, hc⟩
  rw [h1, h2, h3, hS k hk]
  exact I.pairs k hk
theorem line_pair {R' : List Lt} {k : Nat} {s : Hs} (I : LineOk w h S R) (hk : k < h.n)
    (o1 : ∀ j : Nat, j ≠ k → sel isNr R' h.line j = sel isNr R h.line j) (o2 : ∀ j : Nat, j ≠ k → sel isAn R' h.line j = sel isAn R h.line j) (o3 : ∀ j : Nat, j ≠ k → sel isRq R' h.line j = sel isRq R h.line j)
    (P : PairOk h.far s (h.role k) (sel isNr R' h.line k) (sel isAn R' h.line k) (sel isRq R' h.line k ++ h.rqs k) (h.dueOf k))
    (cok : ∃ ws, cur h (upd S k s) R' = some ws ∧ (ws.length : Int) = w) : LineOk w h (upd S k s) R' := by
  refine ⟨⟨I.wf, I.qr, I.tr, I.far, cok, I.excl, I.du, fun j hj => ?_⟩, I.idle⟩
  by_cases e : j = k
  · subst e; rw [upd_self]; exact P
  · rw [upd_ne _ e, o1 j e, o2 j e, o3 j e]; exact I.pairs j hj
theorem cur_pair {R' : List Lt} {k : Nat} {s : Hs} (o1 : ∀ j : Nat, j ≠ k → sel isNr R' h.line j = sel isNr R h.line j) (o2 : ∀ j : Nat, j ≠ k → sel isAn R' h.line j = sel isAn R h.line j)
    (hp : h.ow = some k → pv h.far s (sel isNr R' h.line k) (sel isAn R' h.line k) = pv h.far (S k) (sel isNr R h.line k) (sel isAn R h.line k)) : cur h (upd S k s) R' = cur h S R := by
  unfold cur
  cases ho : h.ow with
  | none => rfl
  | some o =>
    dsimp only
    by_cases e : o = k
    · subst e; rw [upd_self]; exact hp ho
    · rw [upd_ne _ e, o1 o e, o2 o e]
theorem role_ow {k : Nat} (ho : h.ow = some k) : h.role k = .W := by unfold HM.role; rw [if_pos ho]
theorem sel_app_other {p : String → Bool} {X : List Lt} {ln k : Int} (hx : ∀ x ∈ X, ¬ (x.2.1 = ln ∧ x.2.2.1 = k ∧ p x.1 = true)) : sel p (R ++ X) ln k = sel p R ln k := by
  rw [sel_app]
  have : sel p X ln k = [] := by
    unfold sel
    rw [List.map_eq_nil_iff, List.filter_eq_nil_iff]
    intro x hx2 e
    exact hx x hx2 (by simpa [and_assoc] using e)
  rw [this, List.append_nil]
theorem line_met {A B : List Lt} {l : Lt} {k : Nat} (I : LineOk w h S (A ++ l :: B)) (hl : l.2.1 = h.line) (hk : l.2.2.1 = (k : Int)) (hkn : k < h.n) (hw : isNr l.1 = true) :
    ∃ s a, (S k).met l.1 l.2.2.2 = some (s, a) ∧ goodW w l ∧ LineOk w h (upd S k s) (A ++ B ++ ansL h.line k a) ∧
      cur h (upd S k s) (A ++ B ++ ansL h.line k a) = cur h S (A ++ l :: B) := by
  have P := I.pairs k hkn
  have pl := p_len P
  have nn : isAn l.1 = false ∧ isRq l.1 = false := by
    simp only [isNr, decide_eq_true_eq, List.mem_cons, List.not_mem_nil, or_false] at hw
    rcases hw with e | e | e | e | e <;> rw [e] <;> decide
  obtain ⟨s1, s2⟩ := sel_own (p := isNr) (A := A) (B := B) ⟨hl, hk, hw⟩ pl.1
  have o1 : ∀ j : Nat, j ≠ k → sel isNr (A ++ l :: B) h.line j = sel isNr (A ++ B) h.line j := fun j e => sel_other (by rw [hk]; intro x; exact e (by omega))
  have o2 : ∀ j : Int, sel isAn (A ++ l :: B) h.line j = sel isAn (A ++ B) h.line j := fun j => sel_other (by rw [nn.1]; simp)
  have o3 : ∀ j : Int, sel isRq (A ++ l :: B) h.line j = sel isRq (A ++ B) h.line j := fun j => sel_other (by rw [nn.2]; simp)
  rw [s1] at P
  obtain ⟨s, a, m1, m2, _, m4⟩ := p_met P
  have hgw : goodW w l := fun x => by
    have e := p_grant P x
    dsimp only at e
    rw [e]; exact I.far
  refine ⟨s, a, m1, hgw, ?_⟩
  obtain ⟨X, eX⟩ : ∃ X, X = ansL h.line k a := ⟨_, rfl⟩
  rw [← eX]
  have hX : ∀ x ∈ X, x.2.2.1 = (k : Int) ∧ isAn x.1 = true := fun x hx => by
    rw [eX] at hx
    cases a with
    | none => cases hx
    | some a =>
      have : x = (a.1, h.line, (k : Int), a.2) := List.mem_singleton.mp hx
      subst this
      refine ⟨rfl, ?_⟩
      rcases met_word m1 with e | e | e <;> rw [e] <;> decide
  have q1 : ∀ j : Nat, j ≠ k → sel isNr (A ++ B ++ X) h.line j = sel isNr (A ++ l :: B) h.line j := fun j e => by
    rw [sel_app_other (fun x hx y => by have := (hX x hx).1; omega), o1 j e]
  have q2 : ∀ j : Nat, j ≠ k → sel isAn (A ++ B ++ X) h.line j = sel isAn (A ++ l :: B) h.line j := fun j e => by
    rw [sel_app_other (fun x hx y => by have := (hX x hx).1; omega), o2]
  have q3 : ∀ j : Int, sel isRq (A ++ B ++ X) h.line j = sel isRq (A ++ l :: B) h.line j := fun j => by
    rw [sel_app_other (fun x hx y => by have := (isAn_not (hX x hx).2).1; rw [y.2.2] at this; cases this), o3]
  have k1 : sel isNr (A ++ B ++ X) h.line k = [] := by
    rw [sel_app_other (fun x hx y => by have := (isAn_not (hX x hx).2).2; rw [y.2.2] at this; cases this), s2]
  have k2 : sel isAn (A ++ B ++ X) h.line k = sel isAn (A ++ l :: B) h.line k ++ a.toList := by
    rw [sel_app, o2]
    congr 1
    rw [eX] at hX ⊢
    cases a with
    | none => rfl
    | some a =>
      have := (hX (a.1, h.line, (k : Int), a.2) List.mem_cons_self).2
      show sel isAn [(a.1, h.line, (k : Int), a.2)] h.line k = [a]
      rw [sel_one, if_pos ⟨rfl, this⟩]
  have hc : cur h (upd S k s) (A ++ B ++ X) = cur h S (A ++ l :: B) := cur_pair q1 q2 (fun ho => by
    rw [k1, k2, s1]
    exact p_met_pv P m1 (role_ow ho))
  exact ⟨line_pair I hkn q1 q2 (fun j _ => q3 j) (by rw [k1, k2, q3]; exact m2) (by rw [hc]; exact I.cok), hc⟩
theorem line_ask {k : Nat} {s : Hs} {wd : String} {x : WD} (I : LineOk w h S R) (hkn : k < h.n) (hw : isRq wd = true)
    (tr : ∀ tn an rq du, PairOk h.far (S k) (h.role k) tn an rq du → rq = [] ∧ PairOk h.far s (h.role k) tn an [(wd, x)] du) (pvE : ∀ tn an rq du, PairOk h.far (S k) .W tn an rq du → pv h.far s tn an = pv h.far (S k) tn an) :
    LineOk w h (upd S k s) (R ++ [(wd, h.line, (k : Int), x)]) ∧ cur h (upd S k s) (R ++ [(wd, h.line, (k : Int), x)]) = cur h S R := by
  obtain ⟨n1, n2⟩ := isRq_not hw
  have P := I.pairs k hkn
  have q1 : ∀ j : Int, sel isNr (R ++ [(wd, h.line, (k : Int), x)]) h.line j = sel isNr R h.line j := fun j => by
    rw [sel_app, sel_one, if_neg (by rw [n2]; simp), List.append_nil]
  have q2 : ∀ j : Int, sel isAn (R ++ [(wd, h.line, (k : Int), x)]) h.line j = sel isAn R h.line j := fun j => by
    rw [sel_app, sel_one, if_neg (by rw [n1]; simp), List.append_nil]
  have q3 : ∀ j : Nat, j ≠ k → sel isRq (R ++ [(wd, h.line, (k : Int), x)]) h.line j = sel isRq R h.line j := fun j e => by
    rw [sel_app, sel_one, if_neg (by intro y; exact e (by omega)), List.append_nil]
  obtain ⟨t1, t2⟩ := tr _ _ _ _ P
  obtain ⟨r1, r2⟩ := List.append_eq_nil_iff.mp t1
  have k3 : sel isRq (R ++ [(wd, h.line, (k : Int), x)]) h.line k ++ h.rqs k = [(wd, x)] := by
    rw [sel_app, sel_one, if_pos ⟨rfl, hw⟩, r1, r2]; rfl
  have hc : cur h (upd S k s) (R ++ [(wd, h.line, (k : Int), x)]) = cur h S R := cur_pair (fun j _ => q1 j) (fun j _ => q2 j) (fun ho => by
    rw [q1, q2]
    have := P
    rw [role_ow ho] at this
    exact pvE _ _ _ _ this)
  exact ⟨line_pair I hkn (fun j _ => q1 j) (fun j _ => q2 j) q3 (by rw [q1, q2, k3]; exact t2) (by rw [hc]; exact I.cok), hc⟩
theorem line_val {k : Nat} (I : LineOk w h S R) (hkn : k < h.n) (hm : (S k).may ≠ "none") : (S k).words = cur h S R := by
  have P := I.pairs k hkn
  obtain ⟨v1, v2, v3⟩ := p_val P hm
  unfold cur
  cases hr : h.role k with
  | N => exact absurd hr v1
  | W =>
    rw [role_w hr]
    exact v3 hr
  | R =>
    have : h.ow = none := by
      cases ho : h.ow with
      | none => rfl
      | some o =>
        by_cases e : k = o
        · subst e
          rw [role_ow ho] at hr; cases hr
        · rw [excl_n' I.excl ho e] at hr; cases hr
    rw [this]
    exact v2 hr
theorem line_put {k : Nat} {x : WD} {ws' : List Int} (I : LineOk w h S R) (hkn : k < h.n) (hs : S k = .wr x) (hl : (ws'.length : Int) = w) : LineOk w h (upd S k (.wr (some ws'))) R ∧ cur h (upd S k (.wr (some ws'))) R = some ws' := by
  have P := I.pairs k hkn
  rw [hs] at P
  obtain ⟨p1, p2⟩ := p_write (w' := some ws') P
  have ho := role_w (p_writer P)
  have hc : cur h (upd S k (.wr (some ws'))) R = some ws' := by
    unfold cur
    rw [ho]
    dsimp only
    rw [upd_self]
    exact p2
  exact ⟨line_pair I hkn (fun _ _ => rfl) (fun _ _ => rfl) (fun _ _ => rfl) p1 ⟨ws', hc, hl⟩, hc⟩
end
end PG
namespace PG
open PySem L2 VL
def stAt (st : List NS) (i : Nat) : Nat → Hs := fun k => match st[k]? with
  | some n => n.at i
  | none => .away
def memStep (m : Int → Int) (d : Dd) : Int → Int := fun a => if a = d.addr then d.behind (m d.addr) else m a
def rowsMem (m : Int → Int) (rows : List (Dd × Int)) : Int → Int := rows.foldl (fun m r => memStep m r.1) m
def goodRows : (Int → Int) → List (Dd × Int) → Prop
  | _, [] => True
  | m, r :: rs => r.2 = m r.1.addr ∧ goodRows (memStep m r.1) rs
structure VInv (w room : Int) (st : List NS) (hm : List HM) (R : List Lt) (m : Int → Int) : Prop where
  lines : ∀ (i : Nat) h, hm[i]? = some h → h.line = i ∧ h.n = st.length ∧ LineOk w h (stAt st i) R ∧ ∃ ws, cur h (stAt st i) R = some ws ∧ ∀ s : Nat, (s : Int) < w → ws.getD s 0 = m (i * w + s)
  nears : ∀ (k : Nat) n, st[k]? = some n → n.num = k ∧ n.width = w ∧ n.room = room ∧ NI n ∧ (∀ d ∈ n.q, n.line d < (hm.length : Int)) ∧ ∀ l ∈ keys n.st, 0 ≤ l ∧ l < (hm.length : Int)
  lets : ∀ l ∈ R, 0 ≤ l.2.1 ∧ l.2.1 < (hm.length : Int) ∧ 0 ≤ l.2.2.1 ∧ l.2.2.1 < (st.length : Int) ∧ (isRq l.1 || isAn l.1 || isNr l.1) = true
section
variable {w room : Int} {st : List NS} {hm : List HM} {R : List Lt} {m : Int → Int}
theorem stAt_set {k : Nat} {n : NS} (hk : k < st.length) (i j : Nat) : stAt (st.set k n) i j = upd (stAt st i) k (n.at i) j := by
  unfold stAt upd
  by_cases e : j = k
  · subst e
    rw [List.getElem?_set_self hk, if_pos rfl]
  · rw [List.getElem?_set_ne (fun x => e x.symm), if_neg e]
theorem stAt_get {k i : Nat} {n : NS} (h : st[k]? = some n) : stAt st i k = n.at i := by unfold stAt; rw [h]
theorem get_lt' {α : Type} {l : List α} {i : Nat} {x : α} (h : l[i]? = some x) : i < l.length := (List.getElem?_eq_some_iff.mp h).1
theorem set_get' {α : Type} {l : List α} {i j : Nat} {x y z : α} (h : l[i]? = some x) (h2 : (l.set i y)[j]? = some z) : (j = i ∧ z = y) ∨ (j ≠ i ∧ l[j]? = some z) := by
  by_cases e : j = i
  · subst e
    rw [List.getElem?_set_self (get_lt' h)] at h2
    exact .inl ⟨rfl, (Option.some.inj h2).symm⟩
  · rw [List.getElem?_set_ne (fun x => e x.symm)] at h2
    exact .inr ⟨e, h2⟩
theorem at_first {n : NS} {d : Dd} {ws : List Int} (hw : (n.at (n.line d)).words = some ws) (l : Int) : (n.first d).at l = if n.line d = l ∧ d.wants = "write" then .wr (some (ws.set (n.spot d) (d.behind (n.found d)))) else n.at l := by
  by_cases c : d.wants = "write"
  · have := at_mk (n := n) (m := n.first d) (l := n.line d) (k := l) (s := .wr (some (((n.at (n.line d)).words.getD []).set (n.spot d) (d.behind (n.found d))))) (by unfold NS.first; simp [c])
    rw [this, hw]
    simp [c]
  · rw [at_st (n := n) (by unfold NS.first; simp [c])]
    simp [c]
theorem memStep_read {d : Dd} (h : d.wants = "read") : memStep m d = m := by
  funext a
  have hb : ∀ x, d.behind x = x := fun x => by cases d <;> simp [Dd.wants] at h; rfl
  unfold memStep
  rw [hb]
  by_cases e : a = d.addr
  · rw [if_pos e, e]
  · rw [if_neg e]
theorem addr_line {w a : Int} {i s : Nat} (hw : 1 ≤ w) (ha : 0 ≤ a) (hs : (s : Int) < w) : (i : Int) * w + s = a ↔ a / w = i ∧ a % w = s := by
  constructor
  · intro e
    subst e
    have h1 : ((i : Int) * w + s) / w = i := by
      rw [Int.add_comm, Int.add_mul_ediv_right _ _ (by omega), Int.ediv_eq_zero_of_lt (by omega) hs]; omega
    have h2 : ((i : Int) * w + s) % w = s := by
      rw [Int.add_comm, Int.add_mul_emod_self_right, Int.emod_eq_of_lt (by omega) hs]
    exact ⟨h1, h2⟩
  · rintro ⟨h1, h2⟩
    have := Int.emod_add_mul_ediv a w
    rw [h1, h2, Int.mul_comm] at this
    omega
theorem fit_may_ne {n : NS} {d : Dd} (hf : n.fit d = true) : (n.at (n.line d)).may ≠ "none" := by
  unfold NS.fit at hf
  simp only [Bool.or_eq_true, decide_eq_true_eq] at hf
  rcases hf with hf | hf <;> rw [hf]
  · simp
  · rcases wants_or d with q | q <;> rw [q] <;> simp
theorem V_first (V : VInv w room st hm R m) {k : Nat} {n : NS} {d : Dd} {r : List Dd} (hk : st[k]? = some n) (hq : n.q = d :: r) (hf : n.fit d = true) : n.found d = m d.addr ∧ VInv w room (st.set k (n.first d)) hm R (memStep m d) := by
  obtain ⟨e1, e2, e3, ni, ql, kl⟩ := V.nears k n hk
  obtain ⟨ws, hw, hl, hwr⟩ := fit_words ni hf
  have hkl := get_lt' hk
  have hmay := fit_may_ne hf
  have wpos := ni.wpos
  have ha := ni.addr d (by rw [hq]; exact List.mem_cons_self)
  have hln := ql d (by rw [hq]; exact List.mem_cons_self)
  have hl0 : 0 ≤ n.line d := Int.ediv_nonneg ha (by omega)
  obtain ⟨i, hi⟩ := Int.eq_ofNat_of_zero_le hl0
  have hi : n.line d = (i : Int) := hi
  have hil : i < hm.length := by omega
  obtain ⟨h, hh⟩ : ∃ h, hm[i]? = some h := ⟨hm[i], by simp [hil]⟩
  obtain ⟨l1, l2, l3, cs, l4, l5⟩ := V.lines i h hh
  have hS : stAt st i k = n.at (n.line d) := by rw [stAt_get hk, hi]
  have hkn : k < h.n := by omega
  have hv := line_val l3 hkn (by rw [hS]; exact hmay)
  rw [hS, hw, l4] at hv
  have hcs : ws = cs := Option.some.inj hv
  subst hcs
  obtain ⟨sp1, sp2⟩ := spot_lt ni (d := d)
  have spw : (n.spot d : Int) < w := by omega
  have addrE : (i : Int) * w + (n.spot d : Int) = d.addr := (addr_line (by omega) ha spw).mpr ⟨by rw [← hi, ← e2]; rfl, by rw [← e2]; exact sp2.symm⟩
  have found : n.found d = m d.addr := by
    unfold NS.found
    rw [hw, Option.getD_some, l5 _ spw, addrE]
  refine ⟨found, ?_, ?_, ?_⟩
  · intro i2 h2 hh2
    obtain ⟨a1, a2, a3, cs2, a4, a5⟩ := V.lines i2 h2 hh2
    refine ⟨a1, by rw [List.length_set]; exact a2, ?_⟩
    have hst : ∀ j, stAt (st.set k (n.first d)) i2 j = upd (stAt st i2) k ((n.first d).at i2) j := fun j => stAt_set hkl i2 j
    by_cases c : n.line d = (i2 : Int) ∧ d.wants = "write"
    · have : i2 = i := by omega
      subst this
      rw [hh] at hh2; cases hh2
      have hwk := hwr c.2
      obtain ⟨b1, b2⟩ := line_put (ws' := ws.set (n.spot d) (d.behind (n.found d))) l3 hkn (hS.trans hwk) (by rw [List.length_set]; omega)
      have fE : (n.first d).at i2 = .wr (some (ws.set (n.spot d) (d.behind (n.found d)))) := by rw [at_first hw, if_pos c]
      obtain ⟨g1, g2⟩ := b1.congr (S' := stAt (st.set k (n.first d)) i2) (R' := R) (fun j _ => by rw [hst, fE]) (fun _ => rfl) (fun _ => rfl) (fun _ => rfl)
      refine ⟨g1, _, g2.trans b2, fun s hs => ?_⟩
      unfold memStep
      by_cases es : s = n.spot d
      · subst es
        rw [addrE, if_pos rfl, ← found, List.getD_eq_getElem?_getD, List.getElem?_set_self (by omega)]; rfl
      · rw [if_neg (fun x => es (by
          have := ((addr_line (by omega) ha hs).mp x).2
          rw [← e2, ← sp2] at this; omega)), List.getD_eq_getElem?_getD, List.getElem?_set_ne (fun x => es x.symm), ← List.getD_eq_getElem?_getD]
        exact l5 s hs
    · have fE : (n.first d).at i2 = n.at i2 := by rw [at_first hw, if_neg c]
      obtain ⟨g1, g2⟩ := a3.congr (S' := stAt (st.set k (n.first d)) i2) (R' := R) (fun j _ => by
        rw [hst, fE]
        unfold upd
        split
        · rename_i e; subst e; exact (stAt_get hk).symm
        · rfl) (fun _ => rfl) (fun _ => rfl) (fun _ => rfl)
      refine ⟨g1, cs2, g2.trans a4, fun s hs => ?_⟩
      rcases wants_or d with q | q
      · rw [memStep_read q]; exact a5 s hs
      · unfold memStep
        rw [if_neg (fun x => c ⟨by
          have := ((addr_line (by omega) ha hs).mp x).1
          rw [← e2] at this; exact this, q⟩)]
        exact a5 s hs
  · intro k2 n2 hk2
    rcases set_get' hk hk2 with ⟨x1, x2⟩ | ⟨x1, x2⟩
    · subst x1 x2
      refine ⟨e1, e2, e3, ni_first ni hq hf, fun d' hd' => ql d' (List.mem_of_mem_tail hd'), fun l hl2 => ?_⟩
      have hl2 : l ∈ keys (if d.wants = "write" then mPut (n.line d) (.wr (some (((n.at (n.line d)).words.getD []).set (n.spot d) (d.behind (n.found d))))) n.st else n.st) := hl2
      split at hl2
      · rw [keys_put] at hl2
        have hk3 := at_key (n := n) (l := n.line d) (fun e => hmay (by rw [e]; rfl))
        rw [if_pos hk3] at hl2
        exact kl l hl2
      · exact kl l hl2
    · exact V.nears k2 n2 x2
  · intro l hl2
    rw [List.length_set]
    exact V.lets l hl2
theorem V_one (V : VInv w room st hm R m) {k : Nat} {n n' : NS} {i : Nat} {s : Hs} {wd : String} {x : WD} (hk : st[k]? = some n) (hi : i < hm.length) (hw : isRq wd = true) (hn : n'.num = n.num ∧ n'.width = n.width ∧ n'.room = n.room ∧ n'.q = n.q) (ni' : NI n')
    (hst : n'.st = mPut (i : Int) s n.st)
    (tr : ∀ F ρ tn an rq du, PairOk F (n.at i) ρ tn an rq du → rq = [] ∧ PairOk F s ρ tn an [(wd, x)] du) (pvE : ∀ F tn an rq du, PairOk F (n.at i) .W tn an rq du → pv F s tn an = pv F (n.at i) tn an) :
    VInv w room (st.set k n') hm (R ++ [(wd, (i : Int), (k : Int), x)]) m := by
  obtain ⟨e1, e2, e3, ni, ql, kl⟩ := V.nears k n hk
  have hkl := get_lt' hk
  refine ⟨fun i2 h2 hh2 => ?_, fun k2 n2 hk2 => ?_, fun l hl2 => ?_⟩
  · obtain ⟨a1, a2, a3, cs2, a4, a5⟩ := V.lines i2 h2 hh2
    refine ⟨a1, by rw [List.length_set]; exact a2, ?_⟩
    have hs2 : ∀ j, stAt (st.set k n') i2 j = upd (stAt st i2) k (n'.at i2) j := fun j => stAt_set hkl i2 j
    have hS : stAt st i2 k = n.at i2 := stAt_get hk
    by_cases c : i2 = i
    · subst c
      have fE : n'.at i2 = s := by rw [at_mk hst, if_pos rfl]
      obtain ⟨b1, b2⟩ := line_ask (s := s) (wd := wd) (x := x) a3 (k := k) (by omega) hw (fun tn an rq du p => tr _ _ tn an rq du (by rw [hS] at p; exact p)) (fun tn an rq du p => by rw [hS] at p ⊢; exact pvE _ tn an rq du p)
      rw [a1] at b1 b2
      obtain ⟨g1, g2⟩ := b1.congr (S' := stAt (st.set k n') i2) (R' := R ++ [(wd, (i2 : Int), (k : Int), x)]) (fun j _ => by rw [hs2, fE]) (fun _ => rfl) (fun _ => rfl) (fun _ => rfl)
      exact ⟨g1, cs2, (g2.trans b2).trans a4, a5⟩
    · have fE : n'.at i2 = n.at i2 := by rw [at_mk hst, if_neg (by omega)]
      have so : ∀ (p : String → Bool) (j : Int), sel p (R ++ [(wd, (i : Int), (k : Int), x)]) h2.line j = sel p R h2.line j := fun p j => sel_app_other (fun y hy z => by
        rw [List.mem_singleton.mp hy] at z
        have := z.1
        rw [a1] at this
        dsimp only at this
        omega)
      obtain ⟨g1, g2⟩ := a3.congr (S' := stAt (st.set k n') i2) (R' := R ++ [(wd, (i : Int), (k : Int), x)]) (fun j _ => by
        rw [hs2, fE]
        unfold upd
        split
        · rename_i e; subst e; exact hS.symm
        · rfl) (so _) (so _) (so _)
      exact ⟨g1, cs2, g2.trans a4, a5⟩
  · rcases set_get' hk hk2 with ⟨x1, x2⟩ | ⟨x1, x2⟩
    · subst x1 x2
      refine ⟨hn.1.trans e1, hn.2.1.trans e2, hn.2.2.1.trans e3, ni', fun d' hd' => ?_, fun l hl2 => ?_⟩
      · rw [hn.2.2.2] at hd'
        have := ql d' hd'
        unfold NS.line at this ⊢
        rw [hn.2.1]; exact this
      · rw [hst, keys_put] at hl2
        split at hl2
        · exact kl l hl2
        · rcases List.mem_append.mp hl2 with y | y
          · exact kl l y
          · rw [List.mem_singleton.mp y]; omega
    · exact V.nears k2 n2 x2
  · rw [List.length_set]
    rcases List.mem_append.mp hl2 with y | y
    · exact V.lets l y
    · rw [List.mem_singleton.mp y]
      exact ⟨by show 0 ≤ (i : Int); omega, by show (i : Int) < _; omega, by show 0 ≤ (k : Int); omega, by show (k : Int) < _; omega, by rw [hw]; rfl⟩
theorem V_same (V : VInv w room st hm R m) {k : Nat} {n : NS} (hk : st[k]? = some n) : VInv w room (st.set k n) hm (R ++ []) m := by
  have : st.set k n = st := by
    apply List.ext_getElem?
    intro j
    by_cases e : j = k
    · subst e; rw [List.getElem?_set_self (get_lt' hk), hk]
    · rw [List.getElem?_set_ne (fun x => e x.symm)]
  rw [this, List.append_nil]; exact V
theorem V_send (V : VInv w room st hm R m) {k : Nat} {n : NS} {d : Dd} {r : List Dd} (hk : st[k]? = some n) (hq : n.q = d :: r) (hf : n.fit d = false) : VInv w room (st.set k (n.sendFor d).2) hm (R ++ (n.sendFor d).1) m := by
  obtain ⟨e1, e2, e3, ni, ql, kl⟩ := V.nears k n hk
  obtain ⟨s1, s2, s3, s4, s5, s6, s7⟩ := ni_send ni hq hf
  have wpos := ni.wpos
  have ha := ni.addr d (by rw [hq]; exact List.mem_cons_self)
  have hln := ql d (by rw [hq]; exact List.mem_cons_self)
  have hl0 : 0 ≤ n.line d := Int.ediv_nonneg ha (by omega)
  obtain ⟨i, hi⟩ := Int.eq_ofNat_of_zero_le hl0
  have hi : n.line d = (i : Int) := hi
  have hil : i < hm.length := by omega
  have hsame : n.sendFor d = ([], n) → VInv w room (st.set k (n.sendFor d).2) hm (R ++ (n.sendFor d).1) m := fun e => by rw [e]; exact V_same V hk
  have one : ∀ (i : Nat) (s : Hs) (wd : String) (x : WD) (n' : NS), n.sendFor d = ([(wd, (i : Int), n.num, x)], n') → n'.st = mPut (i : Int) s n.st → i < hm.length → isRq wd = true → (∀ F ρ tn an rq du, PairOk F (n.at i) ρ tn an rq du → rq = [] ∧ PairOk F s ρ tn an [(wd, x)] du) → (∀ F tn an rq du, PairOk F (n.at i) .W tn an rq du → pv F s tn an = pv F (n.at i) tn an) → VInv w room (st.set k (n.sendFor d).2) hm (R ++ (n.sendFor d).1) m := by
    intro i s wd x n' e hst hi hw tr pvE
    rw [e] at s1 s3 s5 s6 s7 ⊢
    rw [e1]
    exact V_one V hk hi hw ⟨s5, s6, s7, s3⟩ s1 hst tr pvE
  by_cases c1 : (n.at (n.line d)).kind = "reader"
  · obtain ⟨y, hy⟩ := kind_reader c1
    have ok := at_ok ni.vals (l := n.line d) (by rw [hy]; simp)
    rw [hy] at ok
    obtain ⟨ws, rfl, hwl⟩ := ok
    refine one i (.wantW (some ws)) "write" none _ (by unfold NS.sendFor; rw [if_pos c1, hi]) (by rw [← hi, hy]; rfl) hil rfl ?_ ?_
    · intro F ρ tn an rq du p
      rw [← hi, hy] at p
      exact p_send_wr p rfl
    · intro F tn an rq du p
      rw [← hi, hy]
      rfl
  · by_cases c2 : (n.at (n.line d)).kind = "away"
    · have haw := kind_away.mp c2
      have haw' : n.at i = .away := by rw [← hi]; exact haw
      by_cases c3 : n.room ≤ (n.st.length : Int)
      · have eg : n.sendFor d = n.giveBack := by unfold NS.sendFor; rw [if_neg c1, if_neg (by simpa using c2), if_pos c3]
        by_cases hlv : n.st.any (fun q => leaving q.2) = true
        · exact hsame (by rw [eg]; unfold NS.giveBack; rw [if_pos hlv])
        · have hlv' : n.st.any (fun q => leaving q.2) = false := by simpa using hlv
          cases hu : n.use with
          | nil => exact absurd hu (full_use ni hq haw c3 hlv')
          | cons l u =>
            have hm' : (n.at l).may ≠ "none" := ni.useA l (by rw [hu]; exact List.mem_cons_self)
            have hna : n.at l ≠ .away := fun e => hm' (by rw [e]; rfl)
            have hkl := kl l (at_key hna)
            obtain ⟨j, hj⟩ := Int.eq_ofNat_of_zero_le hkl.1
            have hj : l = (j : Int) := hj
            subst hj
            by_cases ck : (n.at j).kind = "writer"
            · obtain ⟨y, hy⟩ := kind_writer ck
              refine one j (.lvW y) "back" y _ (by rw [eg]; unfold NS.giveBack; rw [if_neg hlv, hu]; dsimp only; rw [if_pos ck, hy]; rfl) rfl (by omega) rfl ?_ ?_
              · intro F ρ tn an rq du p
                rw [hy] at p
                exact p_back_w p
              · intro F tn an rq du p
                rw [hy]; rfl
            · refine one j .lvR "back" none _ (by rw [eg]; unfold NS.giveBack; rw [if_neg hlv, hu]; dsimp only; rw [if_neg ck]) rfl (by omega) rfl ?_ ?_
              · intro F ρ tn an rq du p
                cases hs : n.at j with
                | rd y => rw [hs] at p; exact p_back_r p
                | wr y => rw [hs] at ck; exact absurd rfl ck
                | wantW y =>
                  exfalso
                  have := (only_want ni hq (l := (j : Int)) (by rw [hs]; rfl)).1
                  rw [← this, haw] at hs; cases hs
                | _ => rw [hs] at hm'; exact absurd rfl hm'
              · intro F tn an rq du p
                cases hs : n.at j with
                | rd y =>
                  rw [hs] at p
                  cases p with
                  | dRd => rfl
                | wr y => rw [hs] at ck; exact absurd rfl ck
                | wantW y =>
                  exfalso
                  have := (only_want ni hq (l := (j : Int)) (by rw [hs]; rfl)).1
                  rw [← this, haw] at hs; cases hs
                | _ => exact absurd (by simp [hs, Hs.may]) hm'
      · by_cases c4 : d.wants = "read"
        · refine one i .wantR "read" none _ (by unfold NS.sendFor; rw [if_neg c1, if_neg (by simpa using c2), if_neg c3, if_pos c4, hi]) (by rw [← hi]) hil rfl ?_ ?_
          · intro F ρ tn an rq du p
            rw [haw'] at p
            exact ⟨(p_send_a p).1, (p_send_a p).2.1⟩
          · intro F tn an rq du p
            rw [haw'] at p ⊢
            cases p with
            | yA => rfl
        · refine one i (.wantW none) "write" none _ (by unfold NS.sendFor; rw [if_neg c1, if_neg (by simpa using c2), if_neg c3, if_neg c4, hi]) (by rw [← hi]) hil rfl ?_ ?_
          · intro F ρ tn an rq du p
            rw [haw'] at p
            exact ⟨(p_send_a p).1, (p_send_a p).2.2⟩
          · intro F tn an rq du p
            rw [haw'] at p ⊢
            cases p with
            | yA => rfl
    · exact hsame (by unfold NS.sendFor; rw [if_neg c1, if_pos (by simpa using c2)])
theorem set_set' {α : Type} (l : List α) (k : Nat) (x y : α) : (l.set k x).set k y = l.set k y := List.set_set ..
theorem V_work : ∀ (q : List Dd) {st : List NS} {m : Int → Int} {k : Nat} {n : NS}, VInv w room st hm R m → st[k]? = some n → n.q = q → ∃ rows, (NS.work q n).2.done = n.done ++ rows ∧ goodRows m rows ∧ VInv w room (st.set k (NS.work q n).2) hm (R ++ (NS.work q n).1) (rowsMem m rows)
  | [], st, m, k, n, V, hk, hq => ⟨[], by simp [NS.work], trivial, V_same V hk⟩
  | d :: r, st, m, k, n, V, hk, hq => by
    unfold NS.work
    cases hf : n.fit d with
    | true =>
      rw [if_pos rfl]
      obtain ⟨f1, f2⟩ := V_first V hk hq hf
      obtain ⟨rows, w1, w2, w3⟩ := V_work r (n := n.first d) (k := k) f2 (List.getElem?_set_self (get_lt' hk)) (by show n.q.tail = r; rw [hq]; rfl)
      rw [set_set'] at w3
      refine ⟨(d, n.found d) :: rows, ?_, ⟨f1, w2⟩, w3⟩
      rw [w1]
      show (n.done ++ [(d, n.found d)]) ++ rows = _
      simp
    | false =>
      rw [if_neg (by simp)]
      refine ⟨[], ?_, trivial, V_send V hk hq hf⟩
      rw [(ni_send (V.nears k n hk).2.2.2.1 hq hf).2.2.2.1]; simp
end
end PG
namespace PG
open PySem L2 VL
section
variable {w room : Int} {st : List NS} {hm : List HM} {R : List Lt} {m : Int → Int} {h : HM}
def homeL (h : HM) (x : Lt) : Prop := x.2.1 = h.line ∧ inR h.n x ∧ isNr x.1 = true
theorem grant_lets {t : Lt} (ht : inR h.n t) : homeL h (h.grant t).1 := by
  unfold HM.grant
  split
  · exact ⟨rfl, ht, rfl⟩
  · exact ⟨rfl, ht, rfl⟩
theorem start_lets (wf : h.WF) {l : Lt} (hl : inR h.n l) : ∀ x ∈ (h.start l).1, homeL h x := by
  have g : ∀ x ∈ [(({ h with task := some l } : HM).grant l).1], homeL h x := fun x hx => by
    rw [List.mem_singleton.mp hx]
    exact grant_lets (h := { h with task := some l }) hl
  unfold HM.start
  split
  · intro x hx
    rw [List.mem_singleton.mp hx]; exact ⟨rfl, hl, rfl⟩
  · dsimp only
    split
    · split
      · exact g
      · intro x hx
        obtain ⟨o, ho, rfl⟩ := List.mem_map.mp hx
        obtain ⟨i, i1, i2⟩ := others_lt wf ho
        exact ⟨rfl, by unfold inR; dsimp only; omega, rfl⟩
    · split
      · rename_i o ho
        intro x hx
        rw [List.mem_singleton.mp hx]
        have := wf.ow o ho
        exact ⟨rfl, by unfold inR; dsimp only; omega, rfl⟩
      · exact g
theorem drain_lets : ∀ (r : List Lt) {h : HM}, h.WF → (∀ l ∈ r, inR h.n l) → (∀ x ∈ (HM.drain r h).1, homeL h x) ∧ (HM.drain r h).2.line = h.line ∧ (HM.drain r h).2.n = h.n
  | [], h, wf, hr => ⟨(fun x hx => by cases hx), rfl, rfl⟩
  | l :: r, h, wf, hr => by
    have hl := hr l List.mem_cons_self
    unfold HM.drain
    split
    · exact ⟨(fun x hx => by cases hx), rfl, rfl⟩
    · obtain ⟨a, b, c⟩ := drain_lets r (start_wf wf hl) (fun x hx => by rw [start_n]; exact hr x (List.mem_cons_of_mem _ hx))
      refine ⟨fun x hx => ?_, b.trans (start_line l), c.trans (start_n l)⟩
      rcases List.mem_append.mp hx with q | q
      · exact start_lets wf hl x q
      · have := a x q
        unfold homeL at this ⊢
        rw [start_line, start_n] at this; exact this
theorem take_keep (wf : h.WF) (l : Lt) : (h.take l).q = h.q ∧ (h.take l).n = h.n ∧ (h.take l).task = h.task ∧ (h.take l).line = h.line ∧ (h.take l).WF := by
  unfold HM.take
  dsimp only
  split
  · refine ⟨rfl, rfl, rfl, rfl, ?_, wf.le, fun o ho => by cases ho⟩
    dsimp only
    split <;> simp [wf.len]
  · exact ⟨rfl, rfl, rfl, rfl, strike_wf (h := { h with far := if h.ow = some l.2.2.1.toNat then l.2.2.2 else h.far, due := h.due.erase (l.1, l.2.2.1) }) ⟨wf.len, wf.le, wf.ow⟩ _⟩
theorem come_lets (ok : h.Ok) {l : Lt} (hl : inR h.n l) : (∀ x ∈ (h.come l).1, homeL h x) ∧ (h.come l).2.line = h.line ∧ (h.come l).2.n = h.n := by
  unfold HM.come
  split
  · exact drain_lets (h.q ++ [l]) ok.wf fun x hx => by
      rcases List.mem_append.mp hx with q | q
      · exact (ok.qr x q).2
      · rw [List.mem_singleton.mp q]; exact hl
  · split
    · exact drain_lets (h := { h with task := none, due := [] }) h.q ⟨ok.wf.len, ok.wf.le, ok.wf.ow⟩ fun x hx => (ok.qr x hx).2
    · obtain ⟨t1, t2, t3, t4, t5⟩ := take_keep ok.wf l
      dsimp only
      split
      · split
        · rename_i t ht
          have htr := (ok.tr t (by rw [← t3]; exact ht)).2
          have ht2 : inR (h.take l).n t := by rw [t2]; exact htr
          obtain ⟨a, b, c⟩ := drain_lets (h.take l).q (grant_wf t5 ht2) (fun x hx => by rw [grant_n, t2]; rw [t1] at hx; exact (ok.qr x hx).2)
          refine ⟨fun x hx => ?_, b.trans ((grant_line t).trans t4), c.trans ((grant_n t).trans t2)⟩
          rcases List.mem_cons.mp hx with q | q
          · rw [q]
            have := grant_lets (h := h.take l) ht2
            unfold homeL at this ⊢
            rw [t4, t2] at this; exact this
          · have := a x q
            unfold homeL at this ⊢
            rw [grant_line, grant_n, t4, t2] at this; exact this
        · exact ⟨(fun x hx => by cases hx), t4, t2⟩
      · exact ⟨(fun x hx => by cases hx), t4, t2⟩
theorem V_met {A B : List Lt} {l : Lt} (V : VInv w room st hm (A ++ l :: B) m) (hw : isNr l.1 = true) (hset : ∀ (k : Nat) n, st[k]? = some n → Settled n) : ∃ (k : Nat) (n : NS) (ans : List Lt) (n' : NS), l.2.2.1 = k ∧ st[k]? = some n ∧ n.met l = some (ans, n') ∧ goodW w l ∧ VInv w room (st.set k n') hm (A ++ B ++ ans) m := by
  obtain ⟨b1, b2, b3, b4, _⟩ := V.lets l (by simp)
  obtain ⟨i, hi⟩ := Int.eq_ofNat_of_zero_le b1
  obtain ⟨k, hk⟩ := Int.eq_ofNat_of_zero_le b3
  have hi : l.2.1 = (i : Int) := hi
  have hk : l.2.2.1 = (k : Int) := hk
  have hil : i < hm.length := by omega
  have hkl : k < st.length := by omega
  obtain ⟨h, hh⟩ : ∃ h, hm[i]? = some h := ⟨hm[i], by simp [hil]⟩
  obtain ⟨n, hn⟩ : ∃ n, st[k]? = some n := ⟨st[k], by simp [hkl]⟩
  obtain ⟨e1, e2, e3, ni, ql, kl⟩ := V.nears k n hn
  obtain ⟨l1, l2, l3, cs, l4, l5⟩ := V.lines i h hh
  obtain ⟨s, a, m1, m2, m3, m4⟩ := line_met l3 (by rw [hi, l1]) hk (by omega) hw
  have hS : stAt st i k = n.at i := stAt_get hn
  rw [hS] at m1
  have hmet : n.met l = some (ansL l.2.1 n.num a, n.put l.2.1 s) := by
    unfold NS.met
    rw [hi, m1]
    cases a <;> rfl
  have hna : n.at i ≠ .away := fun e => by rw [e] at m1; cases m1
  refine ⟨k, n, ansL l.2.1 n.num a, n.put l.2.1 s, hk, hn, hmet, m2, ?_⟩
  have nm := ni_met ni hmet (hset k n hn) (by rw [e2]; exact m2)
  have hansL : ∀ x ∈ ansL l.2.1 n.num a, x.2.1 = (i : Int) ∧ x.2.2.1 = (k : Int) ∧ isAn x.1 = true := fun x hx => by
    cases a with
    | none => cases hx
    | some a =>
      have : x = (a.1, l.2.1, n.num, a.2) := List.mem_singleton.mp hx
      subst this
      refine ⟨hi, e1, ?_⟩
      rcases met_word m1 with e | e | e <;> rw [e] <;> decide
  have ansE : ansL l.2.1 n.num a = ansL h.line k a := by rw [hi, l1, e1]
  refine ⟨fun i2 h2 hh2 => ?_, fun k2 n2 hk2 => ?_, fun x hx => ?_⟩
  · obtain ⟨a1, a2, a3, cs2, a4, a5⟩ := V.lines i2 h2 hh2
    refine ⟨a1, by rw [List.length_set]; exact a2, ?_⟩
    have hs2 : ∀ j, stAt (st.set k (n.put l.2.1 s)) i2 j = upd (stAt st i2) k ((n.put l.2.1 s).at i2) j := fun j => stAt_set hkl i2 j
    have atE : (n.put l.2.1 s).at i2 = if (i : Int) = i2 then s else n.at i2 := by rw [at_put ni.kn, hi]
    by_cases c : i2 = i
    · subst c
      rw [hh] at hh2; cases hh2
      rw [if_pos rfl] at atE
      obtain ⟨g1, g2⟩ := m3.congr (S' := stAt (st.set k (n.put l.2.1 s)) i2) (R' := A ++ B ++ ansL l.2.1 n.num a) (fun j _ => by rw [hs2, atE]) (fun _ => by rw [ansE]) (fun _ => by rw [ansE]) (fun _ => by rw [ansE])
      exact ⟨g1, cs2, (g2.trans m4).trans a4, a5⟩
    · rw [if_neg (by omega)] at atE
      have so : ∀ (p : String → Bool) (j : Int), sel p (A ++ B ++ ansL l.2.1 n.num a) h2.line j = sel p (A ++ l :: B) h2.line j := fun p j => by
        rw [sel_app_other (fun x hx y => by have := (hansL x hx).1; have := y.1; rw [a1] at this; omega)]
        exact (sel_other (by intro y; have := y.1; rw [hi, a1] at this; omega)).symm
      obtain ⟨g1, g2⟩ := a3.congr (S' := stAt (st.set k (n.put l.2.1 s)) i2) (R' := A ++ B ++ ansL l.2.1 n.num a) (fun j _ => by
        rw [hs2, atE]
        unfold upd
        split
        · rename_i e; subst e; exact (stAt_get hn).symm
        · rfl) (so _) (so _) (so _)
      exact ⟨g1, cs2, g2.trans a4, a5⟩
  · rcases set_get' hn hk2 with ⟨x1, x2⟩ | ⟨x1, x2⟩
    · subst x1 x2
      refine ⟨nm.2.1.trans e1, nm.2.2.1.trans e2, nm.2.2.2.1.trans e3, nm.1, ql, fun l' hl' => ?_⟩
      have hl' : l' ∈ keys (if s.kind = "away" then mDel l.2.1 n.st else mPut l.2.1 s n.st) := hl'
      split at hl'
      · rw [keys_del] at hl'
        exact kl l' (List.mem_of_mem_erase hl')
      · rw [keys_put, if_pos (by rw [hi]; exact at_key hna)] at hl'
        exact kl l' hl'
    · exact V.nears k2 n2 x2
  · rw [List.length_set]
    rcases List.mem_append.mp hx with y | y
    · exact V.lets x (by
        rcases List.mem_append.mp y with z | z
        · exact List.mem_append_left _ z
        · exact List.mem_append_right _ (List.mem_cons_of_mem _ z))
    · obtain ⟨z1, z2, z3⟩ := hansL x y
      exact ⟨by omega, by omega, by omega, by omega, by rw [z3]; simp⟩
theorem V_home {A B : List Lt} {l : Lt} (V : VInv w room st hm (A ++ l :: B) m) (hw : isNr l.1 = false) : ∃ (i : Nat) (h : HM), l.2.1 = i ∧ hm[i]? = some h ∧ h.Ok ∧ h.awaited l = true ∧ (l.1 = "lowered" → h.ow.isSome = true) ∧ l.1 ∈ ["read", "write", "back", "lowered", "yielded", "took"] ∧ VInv w room st (hm.set i (h.come l).2) (A ++ B ++ (h.come l).1) m := by
  obtain ⟨b1, b2, b3, b4, b5⟩ := V.lets l (by simp)
  obtain ⟨i, hi⟩ := Int.eq_ofNat_of_zero_le b1
  obtain ⟨k, hk⟩ := Int.eq_ofNat_of_zero_le b3
  have hi : l.2.1 = (i : Int) := hi
  have hk : l.2.2.1 = (k : Int) := hk
  have hil : i < hm.length := by omega
  obtain ⟨h, hh⟩ : ∃ h, hm[i]? = some h := ⟨hm[i], by simp [hil]⟩
  obtain ⟨l1, l2, l3, cs, l4, l5⟩ := V.lines i h hh
  have hkn : k < h.n := by omega
  have hw6 : l.1 ∈ ["read", "write", "back", "lowered", "yielded", "took"] := by
    rw [hw, Bool.or_false] at b5
    simp only [isRq, isAn, Bool.or_eq_true, decide_eq_true_eq, List.mem_cons, List.not_mem_nil, or_false] at b5
    simp only [List.mem_cons, List.not_mem_nil, or_false]
    rcases b5 with (e | e | e) | (e | e | e) <;> simp [e]
  obtain ⟨aw1, aw2⟩ := line_awaited l3.toLineInv (by rw [hi, l1]) hk hkn hw6
  obtain ⟨c1, c2⟩ := line_come l3 (by rw [hi, l1]) hk hkn hw6
  have hin : inR h.n l := by unfold inR; omega
  obtain ⟨cl, cn1, cn2⟩ := come_lets l3.ok hin
  refine ⟨i, h, hi, hh, l3.ok, aw1, aw2, hw6, fun i2 h2 hh2 => ?_, fun k2 n2 hk2 => ?_, fun x hx => ?_⟩
  · rcases set_get' hh hh2 with ⟨x1, x2⟩ | ⟨x1, x2⟩
    · subst x1 x2
      exact ⟨cn1.trans l1, cn2.trans l2, c1, cs, c2.trans l4, l5⟩
    · obtain ⟨a1, a2, a3, cs2, a4, a5⟩ := V.lines i2 h2 x2
      have so : ∀ (p : String → Bool) (j : Int), sel p (A ++ B ++ (h.come l).1) h2.line j = sel p (A ++ l :: B) h2.line j := fun p j => by
        rw [sel_app_other (fun x hx y => by have := (cl x hx).1; have := y.1; rw [a1] at this; omega)]
        exact (sel_other (by intro y; have := y.1; rw [hi, a1] at this; omega)).symm
      obtain ⟨g1, g2⟩ := a3.congr (S' := stAt st i2) (R' := A ++ B ++ (h.come l).1) (fun _ _ => rfl) (so _) (so _) (so _)
      exact ⟨a1, a2, g1, cs2, g2.trans a4, a5⟩
  · obtain ⟨e1, e2, e3, ni, ql, kl⟩ := V.nears k2 n2 hk2
    exact ⟨e1, e2, e3, ni, by rw [List.length_set]; exact ql, by rw [List.length_set]; exact kl⟩
  · rw [List.length_set]
    rcases List.mem_append.mp hx with y | y
    · exact V.lets x (by
        rcases List.mem_append.mp y with z | z
        · exact List.mem_append_left _ z
        · exact List.mem_append_right _ (List.mem_cons_of_mem _ z))
    · obtain ⟨z1, z2, z3⟩ := cl x y
      have := z2.1
      have := z2.2
      exact ⟨by omega, by omega, by omega, by omega, by rw [z3]; simp⟩
end
end PG
namespace PG
open PySem L2 VL
def road (l : Lt) : Int × Int × Bool := (l.2.1, l.2.2.1, !isNr l.1)
def isWd (x : String) : Bool := isRq x || isAn x || isNr x
theorem to_home_ok {x : String} (h : isWd x = true) : g_to_home x = some (!isNr x) := by
  unfold isWd isRq isAn isNr at h
  simp only [Bool.or_eq_true, decide_eq_true_eq, List.mem_cons, List.not_mem_nil, or_false] at h
  unfold g_to_home isNr
  rcases h with ((rfl | rfl | rfl) | (rfl | rfl | rfl)) | (rfl | rfl | rfl | rfl | rfl) <;> simp
def mayC (o : Bool) : List (Int × Lt) → List (Int × Int × Bool) → List Int
  | [], _ => []
  | x :: r, s => (if (!o || !decide (road x.2 ∈ s)) = true then [x.1] else []) ++ mayC o r (road x.2 :: s)
theorem may_mem {o : Bool} : ∀ {u : List (Int × Lt)} {s : List (Int × Int × Bool)} {a : Int}, a ∈ mayC o u s → a ∈ keys u
  | [], _, _, h => by cases h
  | x :: r, s, a, h => by
    rw [mayC] at h
    rcases List.mem_append.mp h with q | q
    · split at q
      · rw [List.mem_singleton.mp q]; exact List.mem_cons_self
      · cases q
    · exact List.mem_cons_of_mem _ (may_mem q)
theorem del_split {α β : Type} [DecidableEq α] {a : α} {b : β} : ∀ {A B : List (α × β)}, a ∉ keys A → mDel a (A ++ (a, b) :: B) = A ++ B ∧ mGet a (A ++ (a, b) :: B) = some b
  | [], B, _ => by simp [mDel, mGet]
  | q :: A, B, h => by
    simp only [List.map_cons, List.mem_cons, not_or] at h
    obtain ⟨h1, h2⟩ := del_split (b := b) (B := B) h.2
    have : ¬ q.1 = a := fun e => h.1 e.symm
    simp only [List.cons_append, mDel, mGet, this, if_false, h1, h2]
    exact ⟨trivial, trivial⟩
theorem key_split {α β : Type} {a : α} : ∀ {m : List (α × β)}, a ∈ keys m → (keys m).Nodup → ∃ A b B, m = A ++ (a, b) :: B ∧ a ∉ keys A
  | [], h, _ => by cases h
  | q :: r, h, nd => by
    simp only [List.map_cons, List.nodup_cons] at nd
    simp only [List.map_cons, List.mem_cons] at h
    rcases h with e | h
    · exact ⟨[], q.2, r, by rw [e]; rfl, by simp⟩
    · obtain ⟨A, b, B, h1, h2⟩ := key_split h nd.2
      refine ⟨q :: A, b, B, by rw [h1]; rfl, ?_⟩
      simp only [List.map_cons, List.mem_cons, not_or]
      exact ⟨fun e => nd.1 (e ▸ h), h2⟩
structure HS where
  width : Int
  room : Int
  ord : Bool
  st : List NS
  hm : List HM
  many : Int
  under : List (Int × Lt)
  ans : List (Int × Dd × Int)
  noted : List Int
def numd : Int → List Lt → List (Int × Lt)
  | _, [] => []
  | m, l :: r => (m + 1, l) :: numd (m + 1) r
namespace HS
def enc (H : HS) : Ty_House := (H.width, H.room, H.ord, H.st.map NS.enc, H.hm.map HM.enc, (H.ord, H.many, H.under), H.ans, H.noted)
def may (H : HS) : List Int := mayC H.ord H.under []
def post (H : HS) (s : List Lt) : HS := { H with many := H.many + s.length, under := H.under ++ numd H.many s }
def note (H : HS) (k : Nat) (n : NS) : HS := { H with ans := H.ans ++ (n.done.drop ((H.noted[k]?).getD 0).toNat).map (fun r => ((k : Int), r.1, r.2)), noted := H.noted.set k n.done.length }
def near (H : HS) (k : Nat) (s : List Lt) (n : NS) : HS := (({ H with st := H.st.set k n } : HS).post s).note k n
def ask (H : HS) (k : Nat) (d : Dd) : HS := match H.st[k]? with
  | some n => H.near k (n.ask d).1 (n.ask d).2
  | none => H
def comeL (H : HS) (l : Lt) : HS :=
  if isNr l.1 = true then match H.st[l.2.2.1.toNat]? with
    | some n => match n.come l with
      | some q => H.near l.2.2.1.toNat q.1 q.2
      | none => H
    | none => H
  else match H.hm[l.2.1.toNat]? with
    | some h => ({ H with hm := H.hm.set l.2.1.toNat (h.come l).2 } : HS).post (h.come l).1
    | none => H
def come (H : HS) (a : Int) : HS := match mGet a H.under with
  | some l => ({ H with under := mDel a H.under } : HS).comeL l
  | none => H
end HS
theorem numd_len (m : Int) : ∀ (s : List Lt) , (numd m s).length = s.length
  | [] => rfl
  | l :: r => by simp [numd, numd_len (m + 1) r]
theorem numd_map (m : Int) : ∀ (s : List Lt) , (numd m s).map (·.2) = s
  | [] => rfl
  | l :: r => by simp [numd, numd_map (m + 1) r]
theorem numd_keys (m : Int) : ∀ (s : List Lt), (keys (numd m s)).Pairwise (· < ·) ∧ ∀ x ∈ numd m s, m < x.1 ∧ x.1 ≤ m + s.length
  | [] => ⟨.nil, fun x h => by cases h⟩
  | l :: r => by
    obtain ⟨h1, h2⟩ := numd_keys (m + 1) r
    refine ⟨List.pairwise_cons.mpr ⟨fun a ha => ?_, h1⟩, fun x hx => ?_⟩
    · obtain ⟨y, hy, rfl⟩ := List.mem_map.mp ha
      have := (h2 y hy).1
      show m + 1 < y.1
      exact this
    · rcases List.mem_cons.mp hx with e | e
      · subst e; simp only [List.length_cons]; omega
      · have := h2 x e; simp only [List.length_cons]; omega
theorem g_post {H : HS} : ∀ (s : List Lt) (m : Int) (u : List (Int × Lt)), (∀ x ∈ u, x.1 ≤ m) → u.length + s.length < 1000000 →
    List.foldlM (m := Option) (fun (s1 : Ty_House) x2 => (g_Roads_send s1.2.2.2.2.2.1 x2).bind fun r5 => some (s1.1, s1.2.1, s1.2.2.1, s1.2.2.2.1, s1.2.2.2.2.1, r5.2, s1.2.2.2.2.2.2.1, s1.2.2.2.2.2.2.2)) (({ H with many := m, under := u } : HS).enc) s = some (({ H with many := m + s.length, under := u ++ numd m s } : HS).enc)
  | [], m, u, _, _ => by simp [numd]
  | l :: r, m, u, hu, hl => by
    simp only [List.length_cons] at hl
    rw [List.foldlM_cons]
    have e : g_Roads_send ({ H with many := m, under := u } : HS).enc.2.2.2.2.2.1 l = some (m + 1, (H.ord, m + 1, u ++ [(m + 1, l)])) := by
      unfold g_Roads_send
      show (if u.length < 10000000 then some () else none).bind (fun _ => some (m + 1, ((H.ord, m + 1, mPut (m + 1) l u) : Ty_Roads))) = _
      rw [if_pos (by omega), Option.bind_some, mPut_new (fun q hq => by have := hu q hq; omega)]
    rw [e]
    simp only [Option.bind_some]
    have ih := g_post (H := H) r (m + 1) (u ++ [(m + 1, l)]) (fun x hx => by
      rcases List.mem_append.mp hx with q | q
      · have := hu x q; omega
      · rw [List.mem_singleton.mp q]; exact Int.le_refl _) (by simp only [List.length_append, List.length_singleton]; omega)
    refine (show List.foldlM _ (({ H with many := m + 1, under := u ++ [(m + 1, l)] } : HS).enc) r = _ from ih).trans ?_
    simp only [numd, List.append_assoc, List.singleton_append, List.length_cons, Int.natCast_add, Int.natCast_one]
    rw [show m + 1 + (r.length : Int) = m + ((r.length : Int) + 1) by omega]
theorem g_house_post {H : HS} {s : List Lt} (hu : ∀ x ∈ H.under, x.1 ≤ H.many) (hl : H.under.length + s.length < 1000000) : g_House_post H.enc s = some ((), (H.post s).enc) := by
  unfold g_House_post
  rw [show H.enc = ({ H with many := H.many, under := H.under } : HS).enc from rfl, g_post s H.many H.under hu hl]
  rfl
theorem g_note_fold {k : Int} : ∀ (rows : List (Dd × Int)) (H : HS), H.ans.length + rows.length < 1000000 → List.foldlM (m := Option) (fun (s6 : Ty_House) x7 => (appL s6.2.2.2.2.2.2.1 (k, x7.1, x7.2)).bind fun l10 => some (s6.1, s6.2.1, s6.2.2.1, s6.2.2.2.1, s6.2.2.2.2.1, s6.2.2.2.2.2.1, l10, s6.2.2.2.2.2.2.2)) H.enc rows = some (({ H with ans := H.ans ++ rows.map fun r => (k, r.1, r.2) } : HS).enc)
  | [], H, _ => by simp
  | x :: r, H, hl => by
    simp only [List.length_cons] at hl
    rw [List.foldlM_cons]
    have e : appL H.enc.2.2.2.2.2.2.1 (k, x.1, x.2) = some (H.ans ++ [(k, x.1, x.2)]) := appL_of (by show H.ans.length < _; omega)
    rw [e]
    simp only [Option.bind_some]
    have ih := g_note_fold (k := k) r { H with ans := H.ans ++ [(k, x.1, x.2)] } (by simp only [List.length_append, List.length_singleton]; omega)
    refine (show List.foldlM _ (({ H with ans := H.ans ++ [(k, x.1, x.2)] } : HS).enc) r = _ from ih).trans ?_
    simp
theorem ixN_nat {n k : Nat} (h : k < n) : ixN n (k : Int) = some k := by
  unfold ixN
  rw [if_pos (by omega)]
  simp [h]
theorem g_house_note {H : HS} {k : Nat} {n : NS} {v : Int} (hk : H.st[k]? = some n) (hv : H.noted[k]? = some v) (h0 : 0 ≤ v) (hl : H.ans.length + n.done.length < 1000000) : g_House_note H.enc (k : Int) = some ((), (H.note k n).enc) := by
  unfold g_House_note
  have e1 : H.enc.2.2.2.1 = H.st.map NS.enc := rfl
  have e2 : H.enc.2.2.2.2.2.2.2 = H.noted := rfl
  have hkl := get_lt' hk
  rw [e1, e2, List.length_map, ixN_nat hkl, Option.bind_some, List.getElem?_map, hk]
  simp only [Option.map_some, Option.bind_some, g_Near_told]
  rw [getI_nat, hv]
  simp only [Option.bind_some]
  obtain ⟨j, hj⟩ := Int.eq_ofNat_of_zero_le h0
  have hj : v = (j : Int) := hj
  have ed : n.enc.2.2.2.2.2.2 = n.done := rfl
  rw [ed, hj, cutA_drop]
  have := g_note_fold (k := (k : Int)) (n.done.drop j) H (by rw [List.length_drop]; omega)
  rw [this]
  simp only [Option.bind_some]
  have es : setI ({ H with ans := H.ans ++ (n.done.drop j).map fun r => ((k : Int), r.1, r.2) } : HS).enc.2.2.2.2.2.2.2 (k : Int) (n.done.length : Int) = some (H.noted.set k n.done.length) := by
    unfold setI
    show (ixN H.noted.length (k : Int)).map _ = _
    rw [ixN_nat (get_lt' hv)]; rfl
  rw [es, Option.bind_some]
  unfold HS.note
  rw [hv, hj]
  simp [HS.enc]
end PG
namespace PG
open PySem L2 VL
def zeroM : Int → Int := fun _ => 0
def ansMem (ans : List (Int × Dd × Int)) : Int → Int := rowsMem zeroM (ans.map (·.2))
structure HInv (H : HS) (a : Nat) : Prop where
  N1 : 1 ≤ H.st.length
  N2 : H.st.length ≤ 16
  L1 : 1 ≤ H.hm.length
  L2 : H.hm.length ≤ 64
  W1 : 1 ≤ H.width
  W2 : H.width ≤ 16
  V : VInv H.width H.room H.st H.hm (H.under.map (·.2)) (ansMem H.ans)
  set : ∀ (k : Nat) n, H.st[k]? = some n → Settled n
  nums : (keys H.under).Pairwise (· < ·)
  numB : ∀ x ∈ H.under, 1 ≤ x.1 ∧ x.1 ≤ H.many
  manyP : 0 ≤ H.many
  noted : H.noted = H.st.map fun n => (n.done.length : Int)
  trail : ∀ (k : Nat) n, H.st[k]? = some n → (H.ans.filter fun r => decide (r.1 = (k : Int))).map (·.2) = n.done
  ansR : ∀ r ∈ H.ans, ∃ k : Nat, r.1 = k ∧ k < H.st.length
  good : goodRows zeroM (H.ans.map (·.2))
  tot : (H.st.map fun n => n.q.length).sum + H.ans.length = a
theorem rowsMem_app (m : Int → Int) (a b : List (Dd × Int)) : rowsMem m (a ++ b) = rowsMem (rowsMem m a) b := by unfold rowsMem; rw [List.foldl_append]
theorem good_app : ∀ {a b : List (Dd × Int)} {m : Int → Int}, goodRows m (a ++ b) ↔ goodRows m a ∧ goodRows (rowsMem m a) b
  | [], b, m => by simp [goodRows, rowsMem]
  | r :: a, b, m => by
    show r.2 = m r.1.addr ∧ goodRows (memStep m r.1) (a ++ b) ↔ (r.2 = m r.1.addr ∧ goodRows (memStep m r.1) a) ∧ goodRows (rowsMem (memStep m r.1) a) b
    rw [good_app]; exact (and_assoc).symm
theorem nums_nodup {l : List Int} (h : l.Pairwise (· < ·)) : l.Nodup := h.imp fun x => by omega
def clsI (x : String) : Int := if isNr x = true then 0 else if isRq x = true then 1 else 2
theorem cls_b (x : String) : 0 ≤ clsI x ∧ clsI x ≤ 2 := by
  unfold clsI
  split
  · omega
  · split <;> omega
theorem cls_n {x : String} : isNr x = true ↔ clsI x = 0 := by
  unfold clsI
  constructor
  · intro h; rw [if_pos h]
  · intro h
    split at h
    · assumption
    · split at h <;> omega
theorem cls_r {x : String} : isRq x = true ↔ clsI x = 1 := by
  unfold clsI
  constructor
  · intro h; rw [if_neg (by rw [(isRq_not h).2]; simp), if_pos h]
  · intro h
    split at h
    · omega
    · split at h
      · assumption
      · omega
theorem cls_a {x : String} (hw : (isRq x || isAn x || isNr x) = true) : isAn x = true ↔ clsI x = 2 := by
  constructor
  · intro h; unfold clsI; rw [if_neg (by rw [(isAn_not h).2]; simp), if_neg (by rw [(isAn_not h).1]; simp)]
  · intro h
    simp only [Bool.or_eq_true] at hw
    rcases hw with (q | q) | q
    · have := cls_r.mp q; omega
    · exact q
    · have := cls_n.mp q; omega
theorem under_len {w room : Int} {st : List NS} {hm : List HM} {R : List Lt} {m : Int → Int} (V : VInv w room st hm R m) (hN : st.length ≤ 16) (hL : hm.length ≤ 64) : R.length ≤ 3072 := by
  let f : Lt → Int := fun l => (l.2.1 * 16 + l.2.2.1) * 3 + clsI l.1
  have hcls := cls_b
  have hone : ∀ (ln k : Int) (p : String → Bool), (p = isNr ∨ p = isRq ∨ p = isAn) → (sel p R ln k).length ≤ 1 := by
    intro ln k p hp
    by_cases c : 0 ≤ ln ∧ ln < (hm.length : Int) ∧ 0 ≤ k ∧ k < (st.length : Int)
    · obtain ⟨i, hi⟩ := Int.eq_ofNat_of_zero_le c.1
      obtain ⟨j, hj⟩ := Int.eq_ofNat_of_zero_le c.2.2.1
      have hi : ln = (i : Int) := hi
      have hj : k = (j : Int) := hj
      have hil : i < hm.length := by omega
      obtain ⟨h, hh⟩ : ∃ h, hm[i]? = some h := ⟨hm[i], by simp [hil]⟩
      obtain ⟨l1, l2, l3, _⟩ := V.lines i h hh
      have P := p_len (l3.pairs j (by omega))
      rw [l1, ← hi, ← hj] at P
      rcases hp with e | e | e <;> rw [e]
      · exact P.1
      · have := P.2.2; rw [List.length_append] at this; omega
      · exact P.2.1
    · have : sel p R ln k = [] := by
        unfold sel
        rw [List.map_eq_nil_iff, List.filter_eq_nil_iff]
        intro x hx e
        simp only [Bool.and_eq_true, decide_eq_true_eq] at e
        have := V.lets x hx
        exact c ⟨by omega, by omega, by omega, by omega⟩
      rw [this]; simp
  have nd : (R.map f).Nodup := by
    have gen : ∀ (Q : List Lt), (∀ x ∈ Q, x ∈ R) → (∀ (ln k : Int) (p : String → Bool), (p = isNr ∨ p = isRq ∨ p = isAn) → (sel p Q ln k).length ≤ 1) → (Q.map f).Nodup := by
      intro Q
      induction Q with
      | nil => intro _ _; simp
      | cons x Q ih =>
        intro hs hq
        rw [List.map_cons, List.nodup_cons]
        refine ⟨fun hx => ?_, ih (fun y hy => hs y (List.mem_cons_of_mem _ hy)) fun ln k p hp => by
          have := hq ln k p hp
          rw [sel_cons, List.length_append] at this; omega⟩
        obtain ⟨y, hy, e⟩ := List.mem_map.mp hx
        have v1 := V.lets x (hs x List.mem_cons_self)
        have v2 := V.lets y (hs y (List.mem_cons_of_mem _ hy))
        have c1 := hcls x.1
        have c2 := hcls y.1
        have e : (y.2.1 * 16 + y.2.2.1) * 3 + clsI y.1 = (x.2.1 * 16 + x.2.2.1) * 3 + clsI x.1 := e
        have e1 : y.2.1 = x.2.1 := by omega
        have e2 : y.2.2.1 = x.2.2.1 := by omega
        have e3 : clsI y.1 = clsI x.1 := by omega
        obtain ⟨p, hp, px, py⟩ : ∃ p : String → Bool, (p = isNr ∨ p = isRq ∨ p = isAn) ∧ p x.1 = true ∧ p y.1 = true := by
          have := v1.2.2.2.2
          simp only [Bool.or_eq_true] at this
          rcases this with (q | q) | q
          · exact ⟨isRq, .inr (.inl rfl), q, cls_r.mpr (e3.trans (cls_r.mp q))⟩
          · exact ⟨isAn, .inr (.inr rfl), q, (cls_a v2.2.2.2.2).mpr (e3.trans ((cls_a v1.2.2.2.2).mp q))⟩
          · exact ⟨isNr, .inl rfl, q, cls_n.mpr (e3.trans (cls_n.mp q))⟩
        have := hq x.2.1 x.2.2.1 p hp
        rw [sel_cons, if_pos ⟨rfl, rfl, px⟩] at this
        have hmem : ((y.1, y.2.2.2) : String × WD) ∈ sel p Q x.2.1 x.2.2.1 := List.mem_map.mpr ⟨y, List.mem_filter.mpr ⟨hy, by simp [e1, e2, py]⟩, rfl⟩
        have h0 := (app_one (a := []) (x := (x.1, x.2.2.2)) (by rw [List.nil_append]; exact this)).2
        rw [h0] at hmem; cases hmem
    exact gen R (fun _ h => h) hone
  have := len_bound 3072 nd (fun c hc => by
    obtain ⟨y, hy, rfl⟩ := List.mem_map.mp hc
    have v := V.lets y hy
    have c1 := hcls y.1
    show 0 ≤ (y.2.1 * 16 + y.2.2.1) * 3 + clsI y.1 ∧ (y.2.1 * 16 + y.2.2.1) * 3 + clsI y.1 < _
    omega)
  rw [List.length_map] at this
  exact this
theorem sum_set {α : Type} (f : α → Nat) : ∀ {l : List α} {k : Nat} {x y : α}, l[k]? = some x → ((l.set k y).map f).sum + f x = (l.map f).sum + f y
  | [], k, x, y, h => by cases h
  | a :: l, 0, x, y, h => by
    cases h
    simp only [List.set_cons_zero, List.map_cons, List.sum_cons]; omega
  | a :: l, k + 1, x, y, h => by
    have := sum_set f (l := l) (y := y) (k := k) h
    simp only [List.set_cons_succ, List.map_cons, List.sum_cons]; omega
theorem sum_ge {α : Type} (f : α → Nat) : ∀ {l : List α} {k : Nat} {x : α}, l[k]? = some x → f x ≤ (l.map f).sum
  | [], k, x, h => by cases h
  | a :: l, 0, x, h => by cases h; simp
  | a :: l, k + 1, x, h => by
    have := sum_ge f (l := l) (k := k) h
    simp only [List.map_cons, List.sum_cons]; omega
theorem HInv.sizes {H : HS} {a : Nat} (I : HInv H a) {k : Nat} {n : NS} (hk : H.st[k]? = some n) : n.q.length + n.done.length ≤ a ∧ H.ans.length ≤ a := by
  have h1 := sum_ge (fun n : NS => n.q.length) hk
  have h2 := congrArg List.length (I.trail k n hk)
  rw [List.length_map] at h2
  have h3 : (H.ans.filter fun r => decide (r.1 = (k : Int))).length ≤ H.ans.length := List.length_filter_le _ _
  have h4 := I.tot
  have h1 : n.q.length ≤ (H.st.map fun n => n.q.length).sum := h1
  omega
theorem map_k (k : Int) (rows : List (Dd × Int)) : (rows.map fun r => ((k, r.1, r.2) : Int × Dd × Int)).map (·.2) = rows := by
  rw [List.map_map]
  have : (fun (x : Int × Dd × Int) => x.2) ∘ (fun (r : Dd × Int) => (k, r.1, r.2)) = id := by funext r; rfl
  rw [this, List.map_id]
theorem near_inv {H : HS} {a b : Nat} {k : Nat} {n n' : NS} {s : List Lt} {rows : List (Dd × Int)} {under : List (Int × Lt)} (I : HInv H a) (hk : H.st[k]? = some n)
    (hu : (keys under).Pairwise (· < ·)) (hu2 : ∀ x ∈ under, x ∈ H.under) (hd : n'.done = n.done ++ rows) (hg : goodRows (ansMem H.ans) rows) (hs : Settled n')
    (V : VInv H.width H.room (H.st.set k n') H.hm (under.map (·.2) ++ s) (rowsMem (ansMem H.ans) rows)) (hb : n'.q.length + rows.length + a = n.q.length + b) :
    HInv (({ H with under := under } : HS).near k s n') b ∧ (({ H with under := under } : HS).near k s n').ans = H.ans ++ rows.map (fun r => ((k : Int), r.1, r.2)) ∧ (({ H with under := under } : HS).near k s n').st = H.st.set k n' := by
  have hkl := get_lt' hk
  have hnot : (({ H with under := under } : HS).noted[k]?) = some (n.done.length : Int) := by
    show H.noted[k]? = _
    rw [I.noted, List.getElem?_map, hk]; rfl
  have hE : ({ H with under := under } : HS).near k s n' = { H with st := H.st.set k n', many := H.many + s.length, under := under ++ numd H.many s, ans := H.ans ++ rows.map (fun r => ((k : Int), r.1, r.2)), noted := H.noted.set k n'.done.length } := by
    unfold HS.near HS.note HS.post
    dsimp only
    rw [show H.noted[k]? = some (n.done.length : Int) from hnot, Option.getD_some, Int.toNat_natCast, hd, List.drop_left]
  rw [hE]
  refine ⟨?_, rfl, rfl⟩
  obtain ⟨k1, k2⟩ := numd_keys H.many s
  refine ⟨by rw [List.length_set]; exact I.N1, by rw [List.length_set]; exact I.N2, I.L1, I.L2, I.W1, I.W2, ?_, ?_, ?_, ?_, by have := I.manyP; show 0 ≤ H.many + (s.length : Int); omega, ?_, ?_, ?_, ?_, ?_⟩
  · show VInv H.width H.room (H.st.set k n') H.hm ((under ++ numd H.many s).map (·.2)) (ansMem (H.ans ++ rows.map fun r => ((k : Int), r.1, r.2)))
    rw [List.map_append, numd_map]
    have : ansMem (H.ans ++ rows.map fun r => ((k : Int), r.1, r.2)) = rowsMem (ansMem H.ans) rows := by
      unfold ansMem
      rw [List.map_append, rowsMem_app, map_k]
    rw [this]; exact V
  · intro j x hj
    rcases set_get' hk hj with ⟨_, e⟩ | ⟨_, e⟩
    · subst e; exact hs
    · exact I.set j x e
  · show (keys (under ++ numd H.many s)).Pairwise (· < ·)
    unfold keys
    rw [List.map_append, List.pairwise_append]
    refine ⟨hu, k1, fun x hx y hy => ?_⟩
    obtain ⟨p, hp, rfl⟩ := List.mem_map.mp hx
    obtain ⟨q, hq, rfl⟩ := List.mem_map.mp hy
    have := (I.numB p (hu2 p hp)).2
    have := (k2 q hq).1
    omega
  · intro x hx
    show 1 ≤ x.1 ∧ x.1 ≤ H.many + s.length
    rcases List.mem_append.mp hx with q | q
    · have := I.numB x (hu2 x q); omega
    · have h1 := k2 x q
      have h0 := I.manyP
      omega
  · show H.noted.set k (n'.done.length : Int) = (H.st.set k n').map fun n => (n.done.length : Int)
    rw [List.map_set, I.noted]
  · intro j x hj
    show ((H.ans ++ rows.map fun r => ((k : Int), r.1, r.2)).filter fun r => decide (r.1 = (j : Int))).map (·.2) = x.done
    rw [List.filter_append, List.map_append]
    rcases set_get' hk hj with ⟨e1, e⟩ | ⟨e1, e⟩
    · subst e e1
      rw [I.trail j n hk, hd]
      congr 1
      rw [List.filter_eq_self.mpr (fun r hr => by
        obtain ⟨p, _, rfl⟩ := List.mem_map.mp hr; simp), map_k]
    · rw [I.trail j x e]
      have : (rows.map fun r => ((k : Int), r.1, r.2)).filter (fun r => decide (r.1 = (j : Int))) = [] := by
        rw [List.filter_eq_nil_iff]
        intro r hr
        obtain ⟨p, _, rfl⟩ := List.mem_map.mp hr
        simp; omega
      rw [this]; simp
  · intro r hr
    show ∃ k' : Nat, r.1 = k' ∧ k' < (H.st.set k n').length
    rw [List.length_set]
    rcases List.mem_append.mp hr with q | q
    · exact I.ansR r q
    · obtain ⟨p, _, rfl⟩ := List.mem_map.mp q
      exact ⟨k, rfl, hkl⟩
  · show goodRows zeroM ((H.ans ++ rows.map fun r => ((k : Int), r.1, r.2)).map (·.2))
    rw [List.map_append, good_app]
    refine ⟨I.good, ?_⟩
    rw [map_k]
    exact hg
  · show ((H.st.set k n').map fun n => n.q.length).sum + (H.ans ++ rows.map fun r => ((k : Int), r.1, r.2)).length = b
    have := sum_set (fun n : NS => n.q.length) (y := n') hk
    have h2 := I.tot
    rw [List.length_append, List.length_map]
    have this : ((H.st.set k n').map fun n => n.q.length).sum + n.q.length = (H.st.map fun n => n.q.length).sum + n'.q.length := this
    omega
end PG
namespace PG
open PySem L2 VL
section
variable {w room : Int} {st : List NS} {hm : List HM} {R : List Lt} {m : Int → Int}
theorem V_push (V : VInv w room st hm R m) {k : Nat} {n : NS} {d : Dd} (hk : st[k]? = some n) (hd : 0 ≤ d.addr) (hl : d.addr / w < (hm.length : Int)) (hn : n.q.length + n.done.length < 100000) : VInv w room (st.set k { n with q := n.q ++ [d] }) hm R m := by
  obtain ⟨e1, e2, e3, ni, ql, kl⟩ := V.nears k n hk
  have hkl := get_lt' hk
  refine ⟨fun i2 h2 hh2 => ?_, fun k2 n2 hk2 => ?_, fun x hx => by rw [List.length_set]; exact V.lets x hx⟩
  · obtain ⟨a1, a2, a3, cs2, a4, a5⟩ := V.lines i2 h2 hh2
    obtain ⟨g1, g2⟩ := a3.congr (S' := stAt (st.set k { n with q := n.q ++ [d] }) i2) (R' := R) (fun j _ => by
      rw [stAt_set hkl]
      unfold upd
      split
      · rename_i e; subst e
        rw [stAt_get hk]; exact at_st rfl
      · rfl) (fun _ => rfl) (fun _ => rfl) (fun _ => rfl)
    exact ⟨a1, by rw [List.length_set]; exact a2, g1, cs2, g2.trans a4, a5⟩
  · rcases set_get' hk hk2 with ⟨x1, x2⟩ | ⟨x1, x2⟩
    · subst x1 x2
      refine ⟨e1, e2, e3, ni_push ni d hd hn, fun d' hd' => ?_, kl⟩
      rcases List.mem_append.mp hd' with q | q
      · exact ql d' q
      · rw [List.mem_singleton.mp q]
        show d.addr / n.width < _
        rw [e2]; exact hl
    · exact V.nears k2 n2 x2
end
theorem numsNd {H : HS} {a : Nat} (I : HInv H a) : (keys H.under).Nodup := nums_nodup I.nums
theorem HInv.near {H : HS} {a : Nat} (I : HInv H a) {k : Nat} {n : NS} (hk : H.st[k]? = some n) : n.num = k ∧ n.width = H.width ∧ n.room = H.room ∧ NI n ∧ (∀ d ∈ n.q, n.line d < (H.hm.length : Int)) ∧ ∀ l ∈ keys n.st, 0 ≤ l ∧ l < (H.hm.length : Int) := I.V.nears k n hk
theorem house_ask {H : HS} {a : Nat} (I : HInv H a) {k : Nat} {n : NS} {d : Dd} (hk : H.st[k]? = some n) (hd : 0 ≤ d.addr) (hl : d.addr / H.width < (H.hm.length : Int)) (ha : a < 50000) :
    ∃ rows, HInv (H.ask k d) (a + 1) ∧ (H.ask k d).ans = H.ans ++ rows.map (fun r => ((k : Int), r.1, r.2)) ∧ (H.ask k d).st = H.st.set k (n.ask d).2 ∧ (n.ask d).2.done = n.done ++ rows ∧ rows.map (·.1) ++ (n.ask d).2.q = n.q ++ [d] ∧ g_House_ask H.enc (k : Int) d = some ((n.done.length : Int) + (n.q.length : Int), (H.ask k d).enc) := by
  have hsz := I.sizes hk
  have hlt : n.q.length + n.done.length < 100000 := by omega
  obtain ⟨e1, e2, e3, ni, ql, kl⟩ := I.near hk
  have hkl := get_lt' hk
  have V1 := V_push I.V hk hd hl hlt
  have ni1 := ni_push ni d hd hlt
  have hk1 : (H.st.set k { n with q := n.q ++ [d] })[k]? = some { n with q := n.q ++ [d] } := List.getElem?_set_self hkl
  obtain ⟨rows, r1, r2, r3⟩ := V_work (n.q ++ [d]) V1 hk1 rfl
  rw [set_set'] at r3
  obtain ⟨w1, w2, w3, w4, w5, m, w6, w7⟩ := ni_work (n.q ++ [d]) ni1 rfl
  have hrm : rows = m := List.append_cancel_left (r1.symm.trans w6)
  subst hrm
  have hlen : rows.length + (n.ask d).2.q.length = n.q.length + 1 := by
    have := congrArg List.length w7
    rw [List.length_append, List.length_map, List.length_append, List.length_singleton] at this
    exact this
  have askE : H.ask k d = ({ H with under := H.under } : HS).near k (n.ask d).1 (n.ask d).2 := by
    unfold HS.ask; rw [hk]
  obtain ⟨i1, i2, i3⟩ := near_inv (b := a + 1) (s := (n.ask d).1) (n' := (n.ask d).2) (under := H.under) I hk I.nums (fun x hx => hx) r1 r2 w2 r3 (by omega)
  rw [← askE] at i1 i2 i3
  refine ⟨rows, i1, i2, i3, r1, w7, ?_⟩
  -- the program
  have ul := under_len I.V I.N2 I.L2
  rw [List.length_map] at ul
  have sl : (n.ask d).1.length ≤ 1 := work_len _ _
  have hW := I.W1
  have hW2 := I.W2
  have hL2 := I.L2
  have hN2 := I.N2
  obtain ⟨i, hi⟩ := Int.eq_ofNat_of_zero_le (Int.ediv_nonneg hd (show 0 ≤ H.width by omega))
  have hi : d.addr / H.width = (i : Int) := hi
  have hil : i < H.hm.length := by omega
  obtain ⟨h, hh⟩ : ∃ h, H.hm[i]? = some h := ⟨H.hm[i], by simp [hil]⟩
  have eS : H.enc.2.2.2.1 = H.st.map NS.enc := rfl
  have eH : H.enc.2.2.2.2.1 = H.hm.map HM.enc := rfl
  have store : g_House_store H.enc (k : Int) = some k := by
    unfold g_House_store
    rw [eS, List.length_map, if_neg (by simp; omega), ixN_nat hkl, Option.bind_some, List.getElem?_map, hk]; rfl
  have home : g_House_home H.enc (i : Int) = some i := by
    unfold g_House_home
    rw [eH, List.length_map, if_neg (by simp; omega), ixN_nat hil, Option.bind_some, List.getElem?_map, hh]; rfl
  have line : g_line_of d.addr H.enc.1 = some (i : Int) := by
    unfold g_line_of
    show (divI d.addr H.width).bind _ = _
    rw [divI_of (by omega), hi]; rfl
  have wait : g_Near_waiting n.enc = some n.q := by
    unfold g_Near_waiting
    show (lcM _ (fun x1 => (dd_plain x1).bind fun r2 => some r2) n.q).bind _ = _
    have : (fun x1 : Dd => (dd_plain x1).bind fun r2 => some r2) = fun x1 => some x1 := rfl
    rw [this, lcM_map, Option.bind_some, List.map_id', show n.enc.2.2.2.2.2.1 = n.q from rfl, ckL_of (by omega)]; rfl
  have ask := g_ask ni hd hlt
  have post := g_house_post (H := { H with st := H.st.set k (n.ask d).2 }) (s := (n.ask d).1) (fun x hx => (I.numB x hx).2) (by show H.under.length + _ < _; omega)
  have hv : (({ H with st := H.st.set k (n.ask d).2 } : HS).post (n.ask d).1).noted[k]? = some (n.done.length : Int) := by
    show H.noted[k]? = _
    rw [I.noted, List.getElem?_map, hk]; rfl
  have hk2 : (({ H with st := H.st.set k (n.ask d).2 } : HS).post (n.ask d).1).st[k]? = some (n.ask d).2 := List.getElem?_set_self hkl
  have r1' : (n.ask d).2.done = n.done ++ rows := r1
  have note := g_house_note hk2 hv (by omega) (by
    show H.ans.length + (n.ask d).2.done.length < 1000000
    rw [r1', List.length_append]; omega)
  unfold g_House_ask
  rw [store, Option.bind_some, eS, List.getElem?_map, hk]
  simp only [Option.map_some, Option.bind_some, show dd_of d = some d from if_pos hd, dd_place, line, home]
  rw [eH, List.getElem?_map, hh]
  simp only [Option.map_some, Option.bind_some, g_Near_told, wait, ask]
  have ge : ((H.enc.1, H.enc.2.1, H.enc.2.2.1, (H.st.map NS.enc).set k (n.ask d).2.enc, H.hm.map HM.enc, H.enc.2.2.2.2.2.1, H.enc.2.2.2.2.2.2.1, H.enc.2.2.2.2.2.2.2) : Ty_House) = ({ H with st := H.st.set k (n.ask d).2 } : HS).enc := by
    unfold HS.enc; dsimp only; rw [List.map_set]
  rw [ge, post]
  simp only [Option.bind_some, note]
  rw [askE]; rfl
end PG
namespace PG
open PySem L2 VL
def nearNew (w r : Int) (k : Int) : NS := ⟨k, w, r, [], [], [], []⟩
def homeNew (N : Nat) (w : Int) (i : Int) : HM := ⟨i, N, some (List.replicate w.toNat 0), none, List.replicate N false, [], none, []⟩
def HS.new (N L : Nat) (w r : Int) (o : Bool) : HS := ⟨w, r, o, (rng 0 N).map (nearNew w r), (rng 0 L).map (homeNew N w), 0, [], [], List.replicate N 0⟩
section
variable {H : HS} {a : Nat}
end
end PG
namespace PG
open PySem L2 VL
def Dim (H H' : HS) : Prop := H'.width = H.width ∧ H'.room = H.room ∧ H'.ord = H.ord ∧ H'.st.length = H.st.length ∧ H'.hm.length = H.hm.length
theorem Dim.refl (H : HS) : Dim H H := ⟨rfl, rfl, rfl, rfl, rfl⟩
theorem Dim.trans {A B C : HS} (h : Dim A B) (g : Dim B C) : Dim A C := ⟨g.1.trans h.1, g.2.1.trans h.2.1, g.2.2.1.trans h.2.2.1, g.2.2.2.1.trans h.2.2.2.1, g.2.2.2.2.trans h.2.2.2.2⟩
inductive Next : HS → HS → Prop
  | ask {H : HS} {k : Nat} {n : NS} {d : Dd} : H.st[k]? = some n → 0 ≤ d.addr → d.addr / H.width < (H.hm.length : Int) → Next H (H.ask k d)
  | come {H : HS} {c : Int} : c ∈ H.may → Next H (H.come c)
theorem st_some {H : HS} {k : Nat} (h : k < H.st.length) : ∃ n, H.st[k]? = some n := ⟨H.st[k], by simp [h]⟩
end PG
namespace PG
open PySem L2 VL
def letN (N : Int) (x : String) : Int := if x = "read" ∨ x = "write" then 2 * N + 1 else if x = "lowered" ∨ x = "yielded" ∨ x = "took" ∨ x = "gone" then 1 else 2
def ltsN (N : Int) (R : List Lt) : Int := (R.map fun l => letN N l.1).sum
def nearN (E : Int) (n : NS) : Int := match n.q with
  | [] => 0
  | d :: r => if wanted (n.at (n.line d)) = true then E * (r.length : Int) else E * (r.length : Int) + E - 2
section
variable {N E : Int}
end
end PG
namespace PG
open PySem L2 VL
def rowN (N : Int) (q : List Lt) : Int := (q.map fun l => if l.1 = "back" then 1 else 2 * N).sum
def isAw (x : String × Int) : Bool := decide (x.1 = "lowered") || decide (x.1 = "yielded")
def taskN (h : HM) : Int := if h.task.isSome = true ∧ h.due.any isAw = true then 2 else 0
def homeN (N : Int) (h : HM) : Int := rowN N h.q + taskN h
section
variable {w : Int} {h : HM} {S : Nat → Hs} {R : List Lt}
end
end PG
namespace PG
open PySem L2 VL
def HS.M (H : HS) : Int := (H.st.map (nearN (2 * (H.st.length : Int) + 3))).sum + (H.hm.map (homeN (H.st.length : Int))).sum + ltsN (H.st.length : Int) (H.under.map (·.2))
structure Calm (H : HS) : Prop where
  u : H.under = []
  q : ∀ (k : Nat) n, H.st[k]? = some n → n.q = []
  h : ∀ (i : Nat) h, H.hm[i]? = some h → h.task = none ∧ h.q = [] ∧ h.due = []
end PG
namespace PG
open PySem L2 VL
def asked (n : NS) : List Dd := n.done.map (·.1) ++ n.q
def HS.asks (H : HS) : List (List Dd) := H.st.map asked
theorem set_same {α β : Type} {f : α → β} {l : List α} {k : Nat} {x y : α} (h : l[k]? = some x) (e : f y = f x) : (l.set k y).map f = l.map f := by
  apply List.ext_getElem?
  intro j
  rw [List.getElem?_map, List.getElem?_map]
  by_cases c : k = j
  · subst c
    rw [List.getElem?_set_self (get_lt' h), h]
    simp [e]
  · rw [List.getElem?_set_ne c]
theorem ask_asks {H : HS} {a : Nat} (I : HInv H a) {k : Nat} {n : NS} {d : Dd} (hk : H.st[k]? = some n) (hd : 0 ≤ d.addr) (hl : d.addr / H.width < (H.hm.length : Int)) (ha : a < 50000) : (H.ask k d).asks = H.asks.set k (asked n ++ [d]) ∧ H.asks[k]? = some (asked n) := by
  obtain ⟨rows, _, _, e3, e4, e5, _⟩ := house_ask I hk hd hl ha
  constructor
  · unfold HS.asks
    rw [e3, List.map_set]
    congr 1
    unfold asked
    rw [e4, List.map_append, List.append_assoc, e5, List.append_assoc]
  · unfold HS.asks
    rw [List.getElem?_map, hk]; rfl
theorem come_asks {H : HS} {a : Nat} (I : HInv H a) {c : Int} (hc : c ∈ H.may) : (H.come c).asks = H.asks := by
  have hck := may_mem hc
  obtain ⟨A, l, B, hu, hA⟩ := key_split hck (numsNd I)
  obtain ⟨dl, gl⟩ := del_split (b := l) (B := B) hA
  rw [← hu] at dl gl
  have hR : H.under.map (·.2) = A.map (·.2) ++ l :: B.map (·.2) := by rw [hu]; simp
  have V := I.V
  rw [hR] at V
  have comeE : H.come c = ({ H with under := A ++ B } : HS).comeL l := by unfold HS.come; rw [gl, dl]
  rw [comeE]
  cases hw : isNr l.1 with
  | true =>
    obtain ⟨k, n, ans, n1, hk, hn, hmet, hg, V1⟩ := V_met V hw I.set
    obtain ⟨e1, e2, e3, ni, ql, kl⟩ := I.near hn
    have nm := ni_met ni hmet (I.set k n hn) (by rw [e2]; exact hg)
    obtain ⟨w1, w2, w3, w4, w5, m, w6, w7⟩ := ni_work n1.q nm.1 rfl
    have comeN : n.come l = some (ans ++ (NS.work n1.q n1).1, (NS.work n1.q n1).2) := by unfold NS.come; rw [hmet]; rfl
    have hk2 : l.2.2.1.toNat = k := by omega
    have comeE2 : ({ H with under := A ++ B } : HS).comeL l = ({ H with under := A ++ B } : HS).near k (ans ++ (NS.work n1.q n1).1) (NS.work n1.q n1).2 := by
      unfold HS.comeL
      rw [if_pos hw]
      dsimp only
      rw [hk2, hn]
      dsimp only
      rw [comeN]
    rw [comeE2]
    show (H.st.set k (NS.work n1.q n1).2).map asked = H.st.map asked
    refine set_same hn ?_
    have q1 : n1.q = n.q := nm.2.2.2.2.1
    have q2 : n1.done = n.done := nm.2.2.2.2.2.1
    unfold asked
    rw [w6, List.map_append, List.append_assoc, w7, q1, q2]
  | false =>
    obtain ⟨i, h, hi, hh, ok, aw, hlow, hw6, V1⟩ := V_home V hw
    have hi2 : l.2.1.toNat = i := by omega
    have comeE2 : ({ H with under := A ++ B } : HS).comeL l = ({ H with hm := H.hm.set i (h.come l).2, under := A ++ B } : HS).post (h.come l).1 := by
      unfold HS.comeL
      rw [if_neg (by rw [hw]; simp)]
      dsimp only
      rw [hi2, hh]
    rw [comeE2]; rfl
inductive Comes : HS → HS → Prop
  | refl {H : HS} : Comes H H
  | step {H H' : HS} {c : Int} : c ∈ H.may → Comes (H.come c) H' → Comes H H'
end PG
namespace PG
open PySem L2 VL
def Wd (w : Int) (l : Lt) : Prop := (l.1 = "read" ∨ l.1 = "write" → l.2.2.2 = none) ∧ (l.1 = "back" → l.2.2.2 = none ∨ ∃ ws, l.2.2.2 = some ws ∧ (ws.length : Int) = w)
def Nxt (x y : Lt) : Prop := isAn y.1 = false ∧ (y.1 = "gone" → x.1 = "gone") ∧ (y.1 = "yield" → x.1 = "yield" → x.2.2.1 < y.2.2.1)
def Adj : List Lt → Prop
  | [] => True
  | [_] => True
  | x :: y :: r => Nxt x y ∧ Adj (y :: r)
structure Sent (H H' : HS) (u : List (Int × Lt)) (s : List Lt) : Prop where
  under : H'.under = u ++ numd H.many s
  many : H'.many = H.many + s.length
  adj : Adj s
  wd : ∀ l ∈ s, Wd H.width l
end PG
namespace PG
open PySem L2 VL
section
variable {H : HS} {a : Nat}
end
end PG
namespace PG
open PySem L2 VL
section
variable {H : HS} {a : Nat}
end
end PG
namespace PG
open PySem L2 VL
def rds (S : Nat → Hs) (N : Nat) : List Int := (rng 0 N).filter fun x => decide ((S x.toNat).may = "read")
section
variable {H : HS} {a : Nat}
end
end PG
namespace PG
open PySem L2 VL
def AskIn (H : HS) (S : Int) : Prop := ∀ ds ∈ H.asks, ∀ d ∈ ds, 0 ≤ d.addr ∧ d.addr < S
theorem AskIn.come {H : HS} {a : Nat} {S : Int} (h : AskIn H S) (I : HInv H a) {c : Int} (hc : c ∈ H.may) : AskIn (H.come c) S := by
  unfold AskIn; rw [come_asks I hc]; exact h
theorem AskIn.ask {H : HS} {a : Nat} {S : Int} (h : AskIn H S) (I : HInv H a) {k : Nat} {n : NS} {d : Dd} (hk : H.st[k]? = some n) (hd : 0 ≤ d.addr) (hS : d.addr < S) (hl : d.addr / H.width < (H.hm.length : Int)) (ha : a < 50000) : AskIn (H.ask k d) S := by
  obtain ⟨e1, e2⟩ := ask_asks I hk hd hl ha
  unfold AskIn
  rw [e1]
  intro ds hds x hx
  rcases List.mem_or_eq_of_mem_set hds with q | rfl
  · exact h ds q x hx
  · rcases List.mem_append.mp hx with q | q
    · exact h _ (List.mem_of_getElem? e2) x q
    · rw [List.mem_singleton.mp q]; exact ⟨hd, hS⟩
theorem AskIn.ans {H : HS} {a : Nat} {S : Int} (h : AskIn H S) (I : HInv H a) : ∀ r ∈ H.ans, 0 ≤ r.2.1.addr ∧ r.2.1.addr < S := by
  intro r hr
  obtain ⟨k, e, hk⟩ := I.ansR r hr
  obtain ⟨n, hn⟩ := st_some hk
  have tr := I.trail k n hn
  have hm : r.2 ∈ n.done := by
    rw [← tr]; exact List.mem_map_of_mem (List.mem_filter.mpr ⟨hr, by simp [e]⟩)
  exact h (asked n) (List.mem_map_of_mem (List.mem_of_getElem? hn)) r.2.1 (by unfold asked; exact List.mem_append_left _ (List.mem_map_of_mem hm))
structure Mem (mem : List Int) (ans : List (Int × Dd × Int)) (N : Nat) : Prop where
  len : mem.length = N
  cell : ∀ s : Nat, s < N → mem.getD s 0 = ansMem ans s
theorem Mem.zero (N : Nat) : Mem (List.replicate N 0) [] N := ⟨List.length_replicate, fun s hs => by
  rw [List.getD_eq_getElem?_getD, List.getElem?_replicate, if_pos hs]; rfl⟩
theorem ansMem_app (A B : List (Int × Dd × Int)) : ansMem (A ++ B) = rowsMem (ansMem A) (B.map (·.2)) := by
  unfold ansMem; rw [List.map_append, rowsMem_app]
theorem Mem.step {mem : List Int} {ans : List (Int × Dd × Int)} {N : Nat} (m : Mem mem ans N) {k x : Int} {d : Dd} (hd : 0 ≤ d.addr) (hdN : d.addr < (N : Int)) :
    ∃ v, getI mem d.addr = some v ∧ setI mem d.addr (d.behind v) = some (mem.set d.addr.toNat (d.behind v)) ∧ Mem (mem.set d.addr.toNat (d.behind v)) (ans ++ [(k, d, x)]) N := by
  obtain ⟨s, hs⟩ := Int.eq_ofNat_of_zero_le hd
  have hs : d.addr = (s : Int) := hs
  have hsN : s < N := by omega
  have hv : mem[s]? = some (mem.getD s 0) := by
    rw [List.getD_eq_getElem?_getD, List.getElem?_eq_getElem (by rw [m.len]; exact hsN)]; rfl
  have hval := m.cell s hsN
  refine ⟨mem.getD s 0, by rw [hs, getI_nat, hv], ?_, by rw [List.length_set]; exact m.len, ?_⟩
  · unfold setI
    rw [hs, PG.ixN_nat (by rw [m.len]; exact hsN)]; rfl
  · intro t ht
    rw [ansMem_app]
    show _ = memStep (ansMem ans) d t
    unfold memStep
    have ht0 : d.addr.toNat = s := by omega
    rw [List.getD_eq_getElem?_getD, List.getElem?_set, ht0, hs]
    by_cases c : s = t
    · subst c
      rw [if_pos rfl, if_pos (by rw [m.len]; exact ht), if_pos rfl, ← hval]; rfl
    · rw [if_neg c, if_neg (by omega), ← List.getD_eq_getElem?_getD]; exact m.cell t ht
end PG
namespace PG
open PySem L2 VL
section
variable {H : HS} {a : Nat}
end
def AskAll (P : Dd → Prop) (H : HS) : Prop := ∀ ds ∈ H.asks, ∀ d ∈ ds, P d
theorem AskAll.come {P : Dd → Prop} {H : HS} {a : Nat} (h : AskAll P H) (I : HInv H a) {c : Int} (hc : c ∈ H.may) : AskAll P (H.come c) := by
  unfold AskAll; rw [come_asks I hc]; exact h
theorem AskAll.ask {P : Dd → Prop} {H : HS} {a : Nat} (h : AskAll P H) (I : HInv H a) {k : Nat} {n : NS} {d : Dd} (hk : H.st[k]? = some n) (hP : P d) (hd : 0 ≤ d.addr) (hl : d.addr / H.width < (H.hm.length : Int)) (ha : a < 50000) : AskAll P (H.ask k d) := by
  obtain ⟨e1, e2⟩ := ask_asks I hk hd hl ha
  unfold AskAll
  rw [e1]
  intro ds hds x hx
  rcases List.mem_or_eq_of_mem_set hds with q | rfl
  · exact h ds q x hx
  · rcases List.mem_append.mp hx with q | q
    · exact h _ (List.mem_of_getElem? e2) x q
    · rw [List.mem_singleton.mp q]; exact hP
theorem AskAll.row {P : Dd → Prop} {H : HS} (h : AskAll P H) {k : Nat} {n : NS} (hk : H.st[k]? = some n) {r : Dd × Int} (hr : r ∈ n.done) : P r.1 :=
  h (asked n) (List.mem_map_of_mem (List.mem_of_getElem? hk)) r.1 (by unfold asked; exact List.mem_append_left _ (List.mem_map_of_mem hr))
end PG
namespace PG
open PySem L2 VL
end PG
namespace PG
open PySem L2 VL PyProof.Rows PySem.W
def kd (o : Bool) (x : Int × Lt) : tKD := (road x.2, (if o = true then (x.1, "") else ((0 : Int), x.2.1)), x.1)
end PG
namespace K51
open PySem L2 PyProof.Rows VL
noncomputable section
variable {P : Program} {w : World} {K : PySem.W.Frag} {mg : Str → Option Value} {base : Heap}
theorem sc_Deed___init__ : FnScope ["self", "address"] ["self", "address"] (defScope s_Deed___init__) := scp
def m_Deed___init__ : S3 :=
  sSetFld ["Deed", "ReadDeed", "WriteDeed", "AddDeed", "SwapDeed"] "address" (eVar 0) (eVar 1)
def f_Deed___init__ : Fn := bodyF 2 m_Deed___init__
theorem d_Deed___init__ (F : FD K "__init__" "Deed.__init__" s_Deed___init__ f fd) (f_address : FldOk K (GK P w K) ["Deed", "ReadDeed", "WriteDeed", "AddDeed", "SwapDeed"] "address") :
    FnOk P w K mg base (L2.CX P w) 1 f fd ["self", "address"] (spOf (GK P w K) 2 f_Deed___init__) :=
  fn_ok2 F sc_Deed___init__ (by decide) fun cdv A outer s H E hr tk0 po0 => (sss_one (ss_fld f_address (sv 0) (sv 1)))
theorem sc_WriteDeed___init__ : FnScope ["self", "address", "value"] ["self", "address", "value"] (defScope s_WriteDeed___init__) := scp
def m_WriteDeed___init__ : S3 :=
  sSeq (sExpr (eCall 2 [] f_Deed___init__ (eCons (eVar 0) (eCons (eVar 1) (eNil))))) (sSetFld ["WriteDeed", "AddDeed"] "value" (eVar 0) (eVar 2))
def f_WriteDeed___init__ : Fn := bodyF 3 m_WriteDeed___init__
theorem d_WriteDeed___init__ (F : FD K "__init__" "WriteDeed.__init__" s_WriteDeed___init__ f fd) (q_Deed___init__ : ClsS P w K mg base (GK P w K) "Deed" "__init__" 1 2 f_Deed___init__) (f_value : FldOk K (GK P w K) ["WriteDeed", "AddDeed"] "value") :
    FnOk P w K mg base (L2.CX P w) 2 f fd ["self", "address", "value"] (spOf (GK P w K) 3 f_WriteDeed___init__) :=
  fn_ok2 F sc_WriteDeed___init__ (by decide) fun cdv A outer s H E hr tk0 po0 => (sss_cons (ss_expr (se_clscall q_Deed___init__ (mo hr) (by rfl) tk0 (sa_cons (sv 0) (sa_cons (sv 1) (sa_nil))))) (sss_one (ss_fld f_value (sv 0) (sv 2))))
theorem sc_AddDeed___init__ : FnScope ["self", "address", "value"] ["self", "address", "value"] (defScope s_AddDeed___init__) := scp
def m_AddDeed___init__ : S3 :=
  sSeq (sExpr (eCall 2 [] f_Deed___init__ (eCons (eVar 0) (eCons (eVar 1) (eNil))))) (sSetFld ["WriteDeed", "AddDeed"] "value" (eVar 0) (eVar 2))
def f_AddDeed___init__ : Fn := bodyF 3 m_AddDeed___init__
theorem d_AddDeed___init__ (F : FD K "__init__" "AddDeed.__init__" s_AddDeed___init__ f fd) (q_Deed___init__ : ClsS P w K mg base (GK P w K) "Deed" "__init__" 1 2 f_Deed___init__) (f_value : FldOk K (GK P w K) ["WriteDeed", "AddDeed"] "value") :
    FnOk P w K mg base (L2.CX P w) 2 f fd ["self", "address", "value"] (spOf (GK P w K) 3 f_AddDeed___init__) :=
  fn_ok2 F sc_AddDeed___init__ (by decide) fun cdv A outer s H E hr tk0 po0 => (sss_cons (ss_expr (se_clscall q_Deed___init__ (mo hr) (by rfl) tk0 (sa_cons (sv 0) (sa_cons (sv 1) (sa_nil))))) (sss_one (ss_fld f_value (sv 0) (sv 2))))
theorem sc_SwapDeed___init__ : FnScope ["self", "address", "old", "new"] ["self", "address", "old", "new"] (defScope s_SwapDeed___init__) := scp
def t_SwapDeed___init___1 : S3 :=
  sSeq (sSetFld ["SwapDeed"] "old" (eVar 0) (eVar 2)) (sSetFld ["SwapDeed"] "new" (eVar 0) (eVar 3))
def m_SwapDeed___init__ : S3 :=
  sSeq (sExpr (eCall 2 [] f_Deed___init__ (eCons (eVar 0) (eCons (eVar 1) (eNil))))) (t_SwapDeed___init___1)
def f_SwapDeed___init__ : Fn := bodyF 4 m_SwapDeed___init__
theorem d_SwapDeed___init__ (F : FD K "__init__" "SwapDeed.__init__" s_SwapDeed___init__ f fd) (q_Deed___init__ : ClsS P w K mg base (GK P w K) "Deed" "__init__" 1 2 f_Deed___init__) (f_old : FldOk K (GK P w K) ["SwapDeed"] "old") (f_new : FldOk K (GK P w K) ["SwapDeed"] "new") :
    FnOk P w K mg base (L2.CX P w) 2 f fd ["self", "address", "old", "new"] (spOf (GK P w K) 4 f_SwapDeed___init__) :=
  fn_ok2 F sc_SwapDeed___init__ (by decide) fun cdv A outer s H E hr tk0 po0 => (sss_cons (ss_expr (se_clscall q_Deed___init__ (mo hr) (by rfl) tk0 (sa_cons (sv 0) (sa_cons (sv 1) (sa_nil))))) (sss_cons (ss_fld f_old (sv 0) (sv 2)) (sss_one (ss_fld f_new (sv 0) (sv 3)))))
theorem sc_is_whole : FnScope ["thing"] ["thing"] (defScope s_is_whole) := scp
def m_is_whole : S3 :=
  sRet (eAnd (eIsi "int" (eVar 0)) (eNot (eIsi "bool" (eVar 0))))
noncomputable def f_is_whole : Fn := bodyP 1 m_is_whole
theorem d_is_whole (F : FD K "is_whole" "is_whole" s_is_whole f fd) (b_isinstance : mg "isinstance" = Option.none) (b_int : mg "int" = Option.none) (b_bool : mg "bool" = Option.none) :
    FnOk P w K mg base (L2.CX P w) 1 f fd ["thing"] (spP (GK P w K) 1 f_is_whole) :=
  fn_okP2 F sc_is_whole (by decide) fun cdv A outer s H E hr tk0 po0 => (sss_one (ss_ret (se_and (se_isi (b := "int") (by rfl) b_isinstance (by rfl) b_int (by decide +kernel) (by decide) (sv 0)) (se_one (se_not (se_isi (b := "bool") (by rfl) b_isinstance (by rfl) b_bool (by decide +kernel) (by decide) (sv 0)))))))
theorem sc_deed_of : FnScope ["thing", "part"] ["thing"] (defScope s_deed_of) := scp
def b_deed_of_1 : S3 :=
  sIf (bNot (bVal (eCallP 1 [] f_is_whole (eCons (eVar 1) (eNil))))) (sRaise "NoDeed") (sNx)
def t_deed_of_6 : S3 :=
  sSeq (sIf (bAnd (bVal (eOp fEq (eIxD (eVar 0) (eC (.int 0))) (eC (.str "swap")))) (bVal (eOp fEq (eCB rLenD (eCons (eVar 0) (eNil))) (eC (.int 4))))) (sRet (eFrz (eMake "SwapDeed" 4 [] f_SwapDeed___init__ (eCons (eIxD (eVar 0) (eC (.int 1))) (eCons (eIxD (eVar 0) (eC (.int 2))) (eCons (eIxD (eVar 0) (eC (.int 3))) (eNil))))))) (sNx)) (sRaise "NoDeed")
def t_deed_of_5 : S3 :=
  sSeq (sIf (bAnd (bVal (eOp fEq (eIxD (eVar 0) (eC (.int 0))) (eC (.str "add")))) (bVal (eOp fEq (eCB rLenD (eCons (eVar 0) (eNil))) (eC (.int 3))))) (sRet (eFrz (eMake "AddDeed" 3 [] f_AddDeed___init__ (eCons (eIxD (eVar 0) (eC (.int 1))) (eCons (eIxD (eVar 0) (eC (.int 2))) (eNil)))))) (sNx)) (t_deed_of_6)
def t_deed_of_4 : S3 :=
  sSeq (sIf (bAnd (bVal (eOp fEq (eIxD (eVar 0) (eC (.int 0))) (eC (.str "write")))) (bVal (eOp fEq (eCB rLenD (eCons (eVar 0) (eNil))) (eC (.int 3))))) (sRet (eFrz (eMake "WriteDeed" 3 [] f_WriteDeed___init__ (eCons (eIxD (eVar 0) (eC (.int 1))) (eCons (eIxD (eVar 0) (eC (.int 2))) (eNil)))))) (sNx)) (t_deed_of_5)
def t_deed_of_3 : S3 :=
  sSeq (sIf (bAnd (bVal (eOp fEq (eIxD (eVar 0) (eC (.int 0))) (eC (.str "read")))) (bVal (eOp fEq (eCB rLenD (eCons (eVar 0) (eNil))) (eC (.int 2))))) (sRet (eFrz (eMake "ReadDeed" 2 [] f_Deed___init__ (eCons (eIxD (eVar 0) (eC (.int 1))) (eNil))))) (sNx)) (t_deed_of_4)
def t_deed_of_2 : S3 :=
  sSeq (sIf (bVal (eOp fLt (eIxD (eVar 0) (eC (.int 1))) (eC (.int 0)))) (sRaise "NoDeed") (sNx)) (t_deed_of_3)
def t_deed_of_1 : S3 :=
  sSeq (sFor (iRow (eFrzL (eSl (eVar 0) (oPart (eC (.int 1))) (oNo)))) (gName 1) b_deed_of_1) (t_deed_of_2)
def m_deed_of : S3 :=
  sSeq (sIf (bOr (bNot (bVal (eIsi "tuple" (eVar 0)))) (bOr (bVal (eOp fLt (eCB rLenD (eCons (eVar 0) (eNil))) (eC (.int 2)))) (bNot (bVal (eIsi "str" (eIxD (eVar 0) (eC (.int 0)))))))) (sRaise "NoDeed") (sNx)) (t_deed_of_1)
noncomputable def f_deed_of : Fn := bodyP 2 m_deed_of
theorem d_deed_of (F : FD K "deed_of" "deed_of" s_deed_of f fd) (b_isinstance : mg "isinstance" = Option.none) (b_tuple : mg "tuple" = Option.none) (b_len : mg "len" = Option.none) (b_str : mg "str" = Option.none) (x_NoDeed : ExcK K mg "NoDeed") (c_is_whole_1 : CallPS P w K mg base (GK P w K) "is_whole" 1 1 [] f_is_whole) (k_ReadDeed_1 : MakeS P w K mg base (GK P w K) "ReadDeed" 1 2 [] f_Deed___init__) (k_WriteDeed_2 : MakeS P w K mg base (GK P w K) "WriteDeed" 2 3 [] f_WriteDeed___init__) (k_AddDeed_2 : MakeS P w K mg base (GK P w K) "AddDeed" 2 3 [] f_AddDeed___init__) (k_SwapDeed_3 : MakeS P w K mg base (GK P w K) "SwapDeed" 2 4 [] f_SwapDeed___init__) :
    FnOk P w K mg base (L2.CX P w) 4 f fd ["thing"] (spP (GK P w K) 1 f_deed_of) :=
  fn_okP2 F sc_deed_of (by decide) fun cdv A outer s H E hr tk0 po0 => (sss_cons (ss_if (sw_sb (sw_or (sb_not (sb_val (se_isi (b := "tuple") (by rfl) b_isinstance (by rfl) b_tuple (by decide +kernel) (by decide) (sv 0)))) (sw_or (sb_lt (se_lenD (by rfl) b_len (sa_cons (sv 0) (sa_nil))) (se_int)) (sw_or1 (sb_not (sb_val (se_isi (b := "str") (by rfl) b_isinstance (by rfl) b_str (by decide +kernel) (by decide) (se_ixD (u65 hr) (sv 0) (se_int))))))))) (sss_one (ss_raise x_NoDeed.at rfl tk0 (by rfl))) (sss_nil)) (sss_cons (ss_for po0 rfl (si_row (se_frzL (se_sl (sv 0) (so_some (se_int)) (so_none)))) (sg_name (i := 1) sc_deed_of.nd rfl (by first | exact Or.inl rfl | exact Or.inr rfl)) (sss_one (ss_if (sb_not (sb_val (se_callP c_is_whole_1 (mo hr) (by rfl) tk0 (sa_cons (sv 1) (sa_nil))))) (sss_one (ss_raise x_NoDeed.at rfl tk0 (by rfl))) (sss_nil)))) (sss_cons (ss_if (sb_lt (se_ixD (u65 hr) (sv 0) (se_int)) (se_int)) (sss_one (ss_raise x_NoDeed.at rfl tk0 (by rfl))) (sss_nil)) (sss_cons (ss_if (sw_sb (sw_and (sb_eq hr.units (se_ixD (u65 hr) (sv 0) (se_int)) (se_str)) (sw_and1 (sb_eq hr.units (se_lenD (by rfl) b_len (sa_cons (sv 0) (sa_nil))) (se_int))))) (sss_one (ss_ret (se_frz (se_make k_ReadDeed_1 (mo hr) (by rfl) tk0 (sa_cons (se_ixD (u65 hr) (sv 0) (se_int)) (sa_nil)))))) (sss_nil)) (sss_cons (ss_if (sw_sb (sw_and (sb_eq hr.units (se_ixD (u65 hr) (sv 0) (se_int)) (se_str)) (sw_and1 (sb_eq hr.units (se_lenD (by rfl) b_len (sa_cons (sv 0) (sa_nil))) (se_int))))) (sss_one (ss_ret (se_frz (se_make k_WriteDeed_2 (mo hr) (by rfl) tk0 (sa_cons (se_ixD (u65 hr) (sv 0) (se_int)) (sa_cons (se_ixD (u65 hr) (sv 0) (se_int)) (sa_nil))))))) (sss_nil)) (sss_cons (ss_if (sw_sb (sw_and (sb_eq hr.units (se_ixD (u65 hr) (sv 0) (se_int)) (se_str)) (sw_and1 (sb_eq hr.units (se_lenD (by rfl) b_len (sa_cons (sv 0) (sa_nil))) (se_int))))) (sss_one (ss_ret (se_frz (se_make k_AddDeed_2 (mo hr) (by rfl) tk0 (sa_cons (se_ixD (u65 hr) (sv 0) (se_int)) (sa_cons (se_ixD (u65 hr) (sv 0) (se_int)) (sa_nil))))))) (sss_nil)) (sss_cons (ss_if (sw_sb (sw_and (sb_eq hr.units (se_ixD (u65 hr) (sv 0) (se_int)) (se_str)) (sw_and1 (sb_eq hr.units (se_lenD (by rfl) b_len (sa_cons (sv 0) (sa_nil))) (se_int))))) (sss_one (ss_ret (se_frz (se_make k_SwapDeed_3 (mo hr) (by rfl) tk0 (sa_cons (se_ixD (u65 hr) (sv 0) (se_int)) (sa_cons (se_ixD (u65 hr) (sv 0) (se_int)) (sa_cons (se_ixD (u65 hr) (sv 0) (se_int)) (sa_nil)))))))) (sss_nil)) (sss_one (ss_raise x_NoDeed.at rfl tk0 (by rfl))))))))))
theorem sc_Deed_behind : FnScope ["self", "value"] ["self", "value"] (defScope s_Deed_behind) := scp
def m_Deed_behind : S3 :=
  sRet (eVar 1)
noncomputable def f_Deed_behind : Fn := bodyP 2 m_Deed_behind
theorem d_Deed_behind (F : FD K "behind" "Deed.behind" s_Deed_behind f fd)  :
    FnOk P w K mg base (L2.CX P w) 1 f fd ["self", "value"] (spP (GK P w K) 2 f_Deed_behind) :=
  fn_okP2 F sc_Deed_behind (by decide) fun cdv A outer s H E hr tk0 po0 => (sss_one (ss_ret (sv 1)))
theorem sc_WriteDeed_behind : FnScope ["self", "value"] ["self", "value"] (defScope s_WriteDeed_behind) := scp
def m_WriteDeed_behind : S3 :=
  sRet (eFld ["WriteDeed", "AddDeed"] "value" (eVar 0))
noncomputable def f_WriteDeed_behind : Fn := bodyP 2 m_WriteDeed_behind
theorem d_WriteDeed_behind (F : FD K "behind" "WriteDeed.behind" s_WriteDeed_behind f fd) (f_value : FldOk K (GK P w K) ["WriteDeed", "AddDeed"] "value") :
    FnOk P w K mg base (L2.CX P w) 1 f fd ["self", "value"] (spP (GK P w K) 2 f_WriteDeed_behind) :=
  fn_okP2 F sc_WriteDeed_behind (by decide) fun cdv A outer s H E hr tk0 po0 => (sss_one (ss_ret (se_fld f_value (sv 0))))
theorem sc_AddDeed_behind : FnScope ["self", "value"] ["self", "value"] (defScope s_AddDeed_behind) := scp
def m_AddDeed_behind : S3 :=
  sRet (eOp fAdd (eVar 1) (eFld ["WriteDeed", "AddDeed"] "value" (eVar 0)))
noncomputable def f_AddDeed_behind : Fn := bodyP 2 m_AddDeed_behind
theorem d_AddDeed_behind (F : FD K "behind" "AddDeed.behind" s_AddDeed_behind f fd) (f_value : FldOk K (GK P w K) ["WriteDeed", "AddDeed"] "value") :
    FnOk P w K mg base (L2.CX P w) 1 f fd ["self", "value"] (spP (GK P w K) 2 f_AddDeed_behind) :=
  fn_okP2 F sc_AddDeed_behind (by decide) fun cdv A outer s H E hr tk0 po0 => (sss_one (ss_ret (se_add (sv 1) (se_fld f_value (sv 0)))))
theorem sc_SwapDeed_behind : FnScope ["self", "value"] ["self", "value"] (defScope s_SwapDeed_behind) := scp
def m_SwapDeed_behind : S3 :=
  sSeq (sIf (bVal (eOp fEq (eVar 1) (eFld ["SwapDeed"] "old" (eVar 0)))) (sRet (eFld ["SwapDeed"] "new" (eVar 0))) (sNx)) (sRet (eVar 1))
noncomputable def f_SwapDeed_behind : Fn := bodyP 2 m_SwapDeed_behind
theorem d_SwapDeed_behind (F : FD K "behind" "SwapDeed.behind" s_SwapDeed_behind f fd) (f_old : FldOk K (GK P w K) ["SwapDeed"] "old") (f_new : FldOk K (GK P w K) ["SwapDeed"] "new") :
    FnOk P w K mg base (L2.CX P w) 1 f fd ["self", "value"] (spP (GK P w K) 2 f_SwapDeed_behind) :=
  fn_okP2 F sc_SwapDeed_behind (by decide) fun cdv A outer s H E hr tk0 po0 => (sss_cons (ss_if (sb_eq hr.units (sv 1) (se_fld f_old (sv 0))) (sss_one (ss_ret (se_fld f_new (sv 0)))) (sss_nil)) (sss_one (ss_ret (sv 1))))
theorem sc_Deed_place : FnScope ["self"] ["self"] (defScope s_Deed_place) := scp
def m_Deed_place : S3 :=
  sRet (eFld ["Deed", "ReadDeed", "WriteDeed", "AddDeed", "SwapDeed"] "address" (eVar 0))
noncomputable def f_Deed_place : Fn := bodyP 1 m_Deed_place
theorem d_Deed_place (F : FD K "place" "Deed.place" s_Deed_place f fd) (f_address : FldOk K (GK P w K) ["Deed", "ReadDeed", "WriteDeed", "AddDeed", "SwapDeed"] "address") :
    FnOk P w K mg base (L2.CX P w) 1 f fd ["self"] (spP (GK P w K) 1 f_Deed_place) :=
  fn_okP2 F sc_Deed_place (by decide) fun cdv A outer s H E hr tk0 po0 => (sss_one (ss_ret (se_fld f_address (sv 0))))
theorem sc_walked : FnScope ["trail", "memory", "faults", "at", "row", "deed", "found"] ["trail"] (defScope s_walked) := scp
noncomputable def tab_place_0 (C : String) : Option Fn := if C = "Deed" then some f_Deed_place else if C = "ReadDeed" then some f_Deed_place else if C = "WriteDeed" then some f_Deed_place else if C = "AddDeed" then some f_Deed_place else if C = "SwapDeed" then some f_Deed_place else none
noncomputable def tab_behind_0 (C : String) : Option Fn := if C = "Deed" then some f_Deed_behind else if C = "ReadDeed" then some f_Deed_behind else if C = "WriteDeed" then some f_WriteDeed_behind else if C = "AddDeed" then some f_AddDeed_behind else if C = "SwapDeed" then some f_SwapDeed_behind else none
def u1_walked_2 : S3 :=
  sSeq (sIf (bVal (eOp fNe (eIxD (eVar 4) (eC (.int 2))) (eVar 6))) (sExpr (eAppend (eVar 2) (eVar 3))) (sNx)) (sSetIx setA3 (eVar 1) (eMethP "place" 1 [] tab_place_0 (eVar 5) eNil) (eMethP "behind" 2 [] tab_behind_0 (eVar 5) (eCons (eVar 6) (eNil))))
def u1_walked_1 : S3 :=
  sSeq (sAsg (eGetD (eVar 1) (eCons (eMethP "place" 1 [] tab_place_0 (eVar 5) eNil) (eCons (eC (.int 0)) (eNil)))) (gName 6)) (u1_walked_2)
def b_walked_1 : S3 :=
  sSeq (sAsg (eCallP 1 [] f_deed_of (eCons (eIxD (eVar 4) (eC (.int 1))) (eNil))) (gName 5)) (u1_walked_1)
def t_walked_2 : S3 :=
  sSeq (sFor (iEnum3 (eCons (eVar 0) (eNil))) (gTup 2 (gCons 3 (gCons 4 (gNil)))) b_walked_1) (sRet (eTup (eCons (eTake 1) (eCons (eTake 2) (eNil)))))
def t_walked_1 : S3 :=
  sSeq (sAsg (eLst (eNil)) (gName 2)) (t_walked_2)
def m_walked : S3 :=
  sSeq (sAsg (eDict0) (gName 1)) (t_walked_1)
noncomputable def f_walked : Fn := bodyP 7 m_walked
theorem d_walked (F : FD K "walked" "walked" s_walked f fd) (b_enumerate : mg "enumerate" = Option.none) (c_deed_of_1 : CallPS P w K mg base (GK P w K) "deed_of" 4 1 [] f_deed_of) (h_tab_place_0_0 : MethPS P w K mg base (GK P w K) "place" 1 1 [] tab_place_0) (h_tab_behind_0_1 : MethPS P w K mg base (GK P w K) "behind" 1 2 [] tab_behind_0) :
    FnOk P w K mg base (L2.CX P w) 5 f fd ["trail"] (spP (GK P w K) 1 f_walked) :=
  fn_okP2 F sc_walked (by decide) fun cdv A outer s H E hr tk0 po0 => (sss_cons (ss_set (i := 1) sc_walked.nd rfl (by first | exact Or.inl rfl | exact Or.inr rfl) (se_dict0)) (sss_cons (ss_set (i := 2) sc_walked.nd rfl (by first | exact Or.inl rfl | exact Or.inr rfl) (se_lst (sa_nil))) (sss_cons (ss_for po0 rfl (si_enumerate (by rfl) b_enumerate (sa_cons (sv 0) (sa_nil))) (sg_tup rfl (sgs_cons (i := 3) sc_walked.nd rfl (by first | exact Or.inl rfl | exact Or.inr rfl) (sgs_cons (i := 4) sc_walked.nd rfl (by first | exact Or.inl rfl | exact Or.inr rfl) (sgs_nil)))) (sss_cons (ss_set (i := 5) sc_walked.nd rfl (by first | exact Or.inl rfl | exact Or.inr rfl) (se_callP c_deed_of_1 (mo hr) (by rfl) tk0 (sa_cons (se_ixD (u65 hr) (sv 4) (se_int)) (sa_nil)))) (sss_cons (ss_set (i := 6) sc_walked.nd rfl (by first | exact Or.inl rfl | exact Or.inr rfl) (se_getD (u65 hr) (sv 1) (sa_cons (se_meth0P h_tab_place_0_0 (mo hr) tk0 (sv 5)) (sa_cons (se_int) (sa_nil))))) (sss_cons (ss_if (sb_ne hr.units (se_ixD (u65 hr) (sv 4) (se_int)) (sv 6)) (sss_one (ss_expr (se_append (sv 2) (sv 3)))) (sss_nil)) (sss_one (ss_setix (u65 hr) (sv 1) (se_meth0P h_tab_place_0_0 (mo hr) tk0 (sv 5)) (se_methP h_tab_behind_0_1 (mo hr) tk0 (sv 5) (sa_cons (sv 6) (sa_nil))))))))) (sss_one (ss_ret (se_tup (sa_cons (se_take (i := 1) rfl (by first | exact Or.inl rfl | exact Or.inr (Or.inl rfl) | exact Or.inr (Or.inr rfl))) (sa_cons (se_take (i := 2) rfl (by first | exact Or.inl rfl | exact Or.inr (Or.inl rfl) | exact Or.inr (Or.inr rfl))) (sa_nil)))))))))
theorem sc_memory_of : FnScope ["trail"] ["trail"] (defScope s_memory_of) := scp
def m_memory_of : S3 :=
  sRet (eSortItems (eIxD (eCallP 1 [] f_walked (eCons (eVar 0) (eNil))) (eC (.int 0))))
noncomputable def f_memory_of : Fn := bodyP 1 m_memory_of
theorem d_memory_of (F : FD K "memory_of" "memory_of" s_memory_of f fd) (c_walked_1 : CallPS P w K mg base (GK P w K) "walked" 5 1 [] f_walked) (b_sorted : mg "sorted" = Option.none) :
    FnOk P w K mg base (L2.CX P w) 6 f fd ["trail"] (spP (GK P w K) 1 f_memory_of) :=
  fn_okP2 F sc_memory_of (by decide) fun cdv A outer s H E hr tk0 po0 => (sss_one (ss_ret (se_sortItems (by rfl) b_sorted (u65 hr) (se_ixD (u65 hr) (se_callP c_walked_1 (mo hr) (by rfl) tk0 (sa_cons (sv 0) (sa_nil))) (se_int)))))
theorem sc_L_whole : FnScope ["_law_found"] ["_law_found"] (defScope s_L_whole) := scp
def m_L_whole : S3 :=
  sRet (eAnd (eIsi "int" (eVar 0)) (eNot (eIsi "bool" (eVar 0))))
noncomputable def f_L_whole : Fn := bodyP 1 m_L_whole
theorem d_L_whole (F : FD K "_law_whole" "_law_whole" s_L_whole f fd) (b_isinstance : mg "isinstance" = Option.none) (b_int : mg "int" = Option.none) (b_bool : mg "bool" = Option.none) :
    FnOk P w K mg base (L2.CX P w) 1 f fd ["_law_found"] (spP (GK P w K) 1 f_L_whole) :=
  fn_okP2 F sc_L_whole (by decide) fun cdv A outer s H E hr tk0 po0 => (sss_one (ss_ret (se_and (se_isi (b := "int") (by rfl) b_isinstance (by rfl) b_int (by decide +kernel) (by decide) (sv 0)) (se_one (se_not (se_isi (b := "bool") (by rfl) b_isinstance (by rfl) b_bool (by decide +kernel) (by decide) (sv 0)))))))
theorem sc_L_told : FnScope ["_law_trail", "_law_due", "_law_handed", "_law_found", "_law_pair"] ["_law_trail", "_law_due"] (defScope s_L_told) := scp
def b_L_told_1 : S3 :=
  sIf (bOr (bNot (bVal (eIsi "tuple" (eVar 4)))) (bOr (bNot (bVal (eCallP 1 [] f_L_whole (eCons (eIxD (eVar 4) (eC (.int 0))) (eNil))))) (bNot (bVal (eCallP 1 [] f_L_whole (eCons (eIxD (eVar 4) (eC (.int 1))) (eNil))))))) (sRet (eC .non)) (sNx)
def t_L_told_4 : S3 :=
  sSeq (sIf (bVal (eOp fNe (eVar 3) (eFrzL (eSortItems (eVar 1))))) (sRet (eC .non)) (sNx)) (sRet (eVar 3))
def t_L_told_3 : S3 :=
  sSeq (sFor (iRow (eVar 3)) (gName 4) b_L_told_1) (t_L_told_4)
def t_L_told_2 : S3 :=
  sSeq (sIf (bOr (bVal (eOp fNe (eVar 2) (eVar 0))) (bNot (bVal (eIsi "list" (eVar 3))))) (sRet (eC .non)) (sNx)) (t_L_told_3)
def t_L_told_1 : S3 :=
  sSeq (sAsg (eCallP 1 [] f_memory_of (eCons (eVar 2) (eNil))) (gName 3)) (t_L_told_2)
def m_L_told : S3 :=
  sSeq (sAsg (eFrzL (eCB rListD (eCons (eVar 0) (eNil)))) (gName 2)) (t_L_told_1)
noncomputable def f_L_told : Fn := bodyP 5 m_L_told
theorem d_L_told (F : FD K "_law_told" "_law_told" s_L_told f fd) (b_list : mg "list" = Option.none) (c_memory_of_1 : CallPS P w K mg base (GK P w K) "memory_of" 6 1 [] f_memory_of) (b_isinstance : mg "isinstance" = Option.none) (b_tuple : mg "tuple" = Option.none) (c_L_whole_1 : CallPS P w K mg base (GK P w K) "_law_whole" 1 1 [] f_L_whole) (b_sorted : mg "sorted" = Option.none) :
    FnOk P w K mg base (L2.CX P w) 7 f fd ["_law_trail", "_law_due"] (spP (GK P w K) 2 f_L_told) :=
  fn_okP2 F sc_L_told (by decide) fun cdv A outer s H E hr tk0 po0 => (sss_cons (ss_set (i := 2) sc_L_told.nd rfl (by first | exact Or.inl rfl | exact Or.inr rfl) (se_frzL (se_listD (by rfl) b_list (sa_cons (sv 0) (sa_nil))))) (sss_cons (ss_set (i := 3) sc_L_told.nd rfl (by first | exact Or.inl rfl | exact Or.inr rfl) (se_callP c_memory_of_1 (mo hr) (by rfl) tk0 (sa_cons (sv 2) (sa_nil)))) (sss_cons (ss_if (sw_sb (sw_or (sb_ne hr.units (sv 2) (sv 0)) (sw_or1 (sb_not (sb_val (se_isi (b := "list") (by rfl) b_isinstance (by rfl) b_list (by decide +kernel) (by decide) (sv 3))))))) (sss_one (ss_ret (se_non))) (sss_nil)) (sss_cons (ss_for po0 rfl (si_row (sv 3)) (sg_name (i := 4) sc_L_told.nd rfl (by first | exact Or.inl rfl | exact Or.inr rfl)) (sss_one (ss_if (sw_sb (sw_or (sb_not (sb_val (se_isi (b := "tuple") (by rfl) b_isinstance (by rfl) b_tuple (by decide +kernel) (by decide) (sv 4)))) (sw_or (sb_not (sb_val (se_callP c_L_whole_1 (mo hr) (by rfl) tk0 (sa_cons (se_ixD (u65 hr) (sv 4) (se_int)) (sa_nil))))) (sw_or1 (sb_not (sb_val (se_callP c_L_whole_1 (mo hr) (by rfl) tk0 (sa_cons (se_ixD (u65 hr) (sv 4) (se_int)) (sa_nil))))))))) (sss_one (ss_ret (se_non))) (sss_nil)))) (sss_cons (ss_if (sb_ne hr.units (sv 3) (se_frzL (se_sortItems (by rfl) b_sorted (u65 hr) (sv 1)))) (sss_one (ss_ret (se_non))) (sss_nil)) (sss_one (ss_ret (sv 3))))))))
theorem sc_L_value : FnScope ["_law_cell", "_law_size"] ["_law_cell"] (defScope s_L_value) := scp
def t_L_value_3 : S3 :=
  sSeq (sIf (bVal (eOp fEq (eOp fMod (eVar 0) (eC (.int 4))) (eC (.int 2)))) (sRet (eOp fSub (eC (.int 0)) (eOp fMod (eVar 1) (eOp fPow (eC (.int 10)) (eC (.int 60)))))) (sNx)) (sRet (eOp fSub (eOp fSub (eOp fPow (eC (.int 10)) (eC (.int 60))) (eC (.int 1))) (eOp fMod (eVar 1) (eC (.int 1000)))))
def t_L_value_2 : S3 :=
  sSeq (sIf (bVal (eOp fEq (eOp fMod (eVar 0) (eC (.int 4))) (eC (.int 1)))) (sRet (eOp fMod (eVar 1) (eOp fPow (eC (.int 10)) (eC (.int 60))))) (sNx)) (t_L_value_3)
def t_L_value_1 : S3 :=
  sSeq (sIf (bVal (eOp fEq (eOp fMod (eVar 0) (eC (.int 4))) (eC (.int 0)))) (sRet (eOp fSub (eOp fMod (eVar 1) (eC (.int 7))) (eC (.int 3)))) (sNx)) (t_L_value_2)
def m_L_value : S3 :=
  sSeq (sAsg (eOp fDiv (eVar 0) (eC (.int 4))) (gName 1)) (t_L_value_1)
noncomputable def f_L_value : Fn := bodyP 2 m_L_value
theorem d_L_value (F : FD K "_law_value" "_law_value" s_L_value f fd)  :
    FnOk P w K mg base (L2.CX P w) 1 f fd ["_law_cell"] (spP (GK P w K) 1 f_L_value) :=
  fn_okP2 F sc_L_value (by decide) fun cdv A outer s H E hr tk0 po0 => (sss_cons (ss_set (i := 1) sc_L_value.nd rfl (by first | exact Or.inl rfl | exact Or.inr rfl) (se_fdiv (sv 0) (se_int))) (sss_cons (ss_if (sb_eq hr.units (se_mod (sv 0) (se_int)) (se_int)) (sss_one (ss_ret (se_sub (se_mod (sv 1) (se_int)) (se_int)))) (sss_nil)) (sss_cons (ss_if (sb_eq hr.units (se_mod (sv 0) (se_int)) (se_int)) (sss_one (ss_ret (se_mod (sv 1) (se_pow (se_int) (se_int))))) (sss_nil)) (sss_cons (ss_if (sb_eq hr.units (se_mod (sv 0) (se_int)) (se_int)) (sss_one (ss_ret (se_sub (se_int) (se_mod (sv 1) (se_pow (se_int) (se_int)))))) (sss_nil)) (sss_one (ss_ret (se_sub (se_sub (se_pow (se_int) (se_int)) (se_int)) (se_mod (sv 1) (se_int)))))))))
theorem sc_L_deed : FnScope ["_law_cells", "_law_memory", "_law_word", "_law_place", "_law_old", "_law_found"] ["_law_cells", "_law_memory"] (defScope s_L_deed) := scp
def t_L_deed_4 : S3 :=
  sSeq (sIf (bVal (eOp fEq (eVar 2) (eC (.str "swap")))) (sSeq (sAsg (eCallP 1 [] f_L_value (eCons (eIxD (eVar 0) (eC (.int 2))) (eNil))) (gName 4)) (sSeq (sAsg (eGetD (eVar 1) (eCons (eVar 3) (eCons (eC (.int 0)) (eNil)))) (gName 5)) (sSeq (sIf (bAnd (bVal (eOp fEq (eOp fMod (eIxD (eVar 0) (eC (.int 2))) (eC (.int 2))) (eC (.int 0)))) (bVal (eOp fLt (eCB rAbs3 (eCons (eVar 5) (eNil))) (eOp fPow (eC (.int 10)) (eC (.int 60)))))) (sAsg (eVar 5) (gName 4)) (sNx)) (sRet (eTup (eCons (eVar 2) (eCons (eVar 3) (eCons (eVar 4) (eCons (eCallP 1 [] f_L_value (eCons (eOp fAdd (eIxD (eVar 0) (eC (.int 0))) (eIxD (eVar 0) (eC (.int 2)))) (eNil))) (eNil)))))))))) (sNx)) (sRet (eTup (eCons (eVar 2) (eCons (eVar 3) (eCons (eCallP 1 [] f_L_value (eCons (eIxD (eVar 0) (eC (.int 2))) (eNil))) (eNil))))))
def t_L_deed_3 : S3 :=
  sSeq (sIf (bVal (eOp fEq (eVar 2) (eC (.str "read")))) (sRet (eTup (eCons (eVar 2) (eCons (eVar 3) (eNil))))) (sNx)) (t_L_deed_4)
def t_L_deed_2 : S3 :=
  sSeq (sIf (bVal (eOp fGt (eVar 3) (eC (.int 3)))) (sAsg (eOp fMod (eIxD (eVar 0) (eC (.int 1))) (eIxD (eFrzL (eLst (eCons (eOp fPow (eC (.int 10)) (eC (.int 4))) (eCons (eOp fPow (eC (.int 10)) (eC (.int 60))) (eNil))))) (eOp fMod (eVar 3) (eC (.int 2))))) (gName 3)) (sNx)) (t_L_deed_3)
def t_L_deed_1 : S3 :=
  sSeq (sAsg (eOp fMod (eOp fDiv (eOp fMod (eOp fMul (eIxD (eVar 0) (eC (.int 1))) (eC (.int 39373))) (eC (.int 2147483629))) (eC (.int 64))) (eC (.int 6))) (gName 3)) (t_L_deed_2)
def m_L_deed : S3 :=
  sSeq (sAsg (eIxD (eFrzL (eLst (eCons (eC (.str "read")) (eCons (eC (.str "write")) (eCons (eC (.str "add")) (eCons (eC (.str "swap")) (eNil))))))) (eOp fMod (eOp fDiv (eOp fMod (eOp fMul (eIxD (eVar 0) (eC (.int 0))) (eC (.int 48271))) (eC (.int 2147483647))) (eC (.int 64))) (eC (.int 4)))) (gName 2)) (t_L_deed_1)
noncomputable def f_L_deed : Fn := bodyP 6 m_L_deed
theorem d_L_deed (F : FD K "_law_deed" "_law_deed" s_L_deed f fd) (c_L_value_1 : CallPS P w K mg base (GK P w K) "_law_value" 1 1 [] f_L_value) (b_abs : mg "abs" = Option.none) :
    FnOk P w K mg base (L2.CX P w) 2 f fd ["_law_cells", "_law_memory"] (spP (GK P w K) 2 f_L_deed) :=
  fn_okP2 F sc_L_deed (by decide) fun cdv A outer s H E hr tk0 po0 => (sss_cons (ss_set (i := 2) sc_L_deed.nd rfl (by first | exact Or.inl rfl | exact Or.inr rfl) (se_ixD (u65 hr) (se_frzL (se_lst (sa_cons (se_str) (sa_cons (se_str) (sa_cons (se_str) (sa_cons (se_str) (sa_nil))))))) (se_mod (se_fdiv (se_mod (se_mul (se_ixD (u65 hr) (sv 0) (se_int)) (se_int)) (se_int)) (se_int)) (se_int)))) (sss_cons (ss_set (i := 3) sc_L_deed.nd rfl (by first | exact Or.inl rfl | exact Or.inr rfl) (se_mod (se_fdiv (se_mod (se_mul (se_ixD (u65 hr) (sv 0) (se_int)) (se_int)) (se_int)) (se_int)) (se_int))) (sss_cons (ss_if (sb_gt (sv 3) (se_int)) (sss_one (ss_set (i := 3) sc_L_deed.nd rfl (by first | exact Or.inl rfl | exact Or.inr rfl) (se_mod (se_ixD (u65 hr) (sv 0) (se_int)) (se_ixD (u65 hr) (se_frzL (se_lst (sa_cons (se_pow (se_int) (se_int)) (sa_cons (se_pow (se_int) (se_int)) (sa_nil))))) (se_mod (sv 3) (se_int)))))) (sss_nil)) (sss_cons (ss_if (sb_eq hr.units (sv 2) (se_str)) (sss_one (ss_ret (se_tup (sa_cons (sv 2) (sa_cons (sv 3) (sa_nil)))))) (sss_nil)) (sss_cons (ss_if (sb_eq hr.units (sv 2) (se_str)) (sss_cons (ss_set (i := 4) sc_L_deed.nd rfl (by first | exact Or.inl rfl | exact Or.inr rfl) (se_callP c_L_value_1 (mo hr) (by rfl) tk0 (sa_cons (se_ixD (u65 hr) (sv 0) (se_int)) (sa_nil)))) (sss_cons (ss_set (i := 5) sc_L_deed.nd rfl (by first | exact Or.inl rfl | exact Or.inr rfl) (se_getD (u65 hr) (sv 1) (sa_cons (sv 3) (sa_cons (se_int) (sa_nil))))) (sss_cons (ss_if (sw_sb (sw_and (sb_eq hr.units (se_mod (se_ixD (u65 hr) (sv 0) (se_int)) (se_int)) (se_int)) (sw_and1 (sb_lt (se_abs (by rfl) b_abs (sa_cons (sv 5) (sa_nil))) (se_pow (se_int) (se_int)))))) (sss_one (ss_set (i := 4) sc_L_deed.nd rfl (by first | exact Or.inl rfl | exact Or.inr rfl) (sv 5))) (sss_nil)) (sss_one (ss_ret (se_tup (sa_cons (sv 2) (sa_cons (sv 3) (sa_cons (sv 4) (sa_cons (se_callP c_L_value_1 (mo hr) (by rfl) tk0 (sa_cons (se_add (se_ixD (u65 hr) (sv 0) (se_int)) (se_ixD (u65 hr) (sv 0) (se_int))) (sa_nil))) (sa_nil))))))))))) (sss_nil)) (sss_one (ss_ret (se_tup (sa_cons (sv 2) (sa_cons (sv 3) (sa_cons (se_callP c_L_value_1 (mo hr) (by rfl) tk0 (sa_cons (se_ixD (u65 hr) (sv 0) (se_int)) (sa_nil))) (sa_nil))))))))))))
theorem sc_L_behind : FnScope ["_law_deed_here", "_law_value_here"] ["_law_deed_here", "_law_value_here"] (defScope s_L_behind) := scp
def t_L_behind_2 : S3 :=
  sSeq (sIf (bAnd (bVal (eOp fEq (eIxD (eVar 0) (eC (.int 0))) (eC (.str "swap")))) (bVal (eOp fEq (eIxD (eVar 0) (eC (.int 2))) (eVar 1)))) (sRet (eIxD (eVar 0) (eC (.int 3)))) (sNx)) (sRet (eVar 1))
def t_L_behind_1 : S3 :=
  sSeq (sIf (bVal (eOp fEq (eIxD (eVar 0) (eC (.int 0))) (eC (.str "add")))) (sRet (eOp fAdd (eVar 1) (eIxD (eVar 0) (eC (.int 2))))) (sNx)) (t_L_behind_2)
def m_L_behind : S3 :=
  sSeq (sIf (bVal (eOp fEq (eIxD (eVar 0) (eC (.int 0))) (eC (.str "write")))) (sRet (eIxD (eVar 0) (eC (.int 2)))) (sNx)) (t_L_behind_1)
noncomputable def f_L_behind : Fn := bodyP 2 m_L_behind
theorem d_L_behind (F : FD K "_law_behind" "_law_behind" s_L_behind f fd)  :
    FnOk P w K mg base (L2.CX P w) 1 f fd ["_law_deed_here", "_law_value_here"] (spP (GK P w K) 2 f_L_behind) :=
  fn_okP2 F sc_L_behind (by decide) fun cdv A outer s H E hr tk0 po0 => (sss_cons (ss_if (sb_eq hr.units (se_ixD (u65 hr) (sv 0) (se_int)) (se_str)) (sss_one (ss_ret (se_ixD (u65 hr) (sv 0) (se_int)))) (sss_nil)) (sss_cons (ss_if (sb_eq hr.units (se_ixD (u65 hr) (sv 0) (se_int)) (se_str)) (sss_one (ss_ret (se_add (sv 1) (se_ixD (u65 hr) (sv 0) (se_int))))) (sss_nil)) (sss_cons (ss_if (sw_sb (sw_and (sb_eq hr.units (se_ixD (u65 hr) (sv 0) (se_int)) (se_str)) (sw_and1 (sb_eq hr.units (se_ixD (u65 hr) (sv 0) (se_int)) (sv 1))))) (sss_one (ss_ret (se_ixD (u65 hr) (sv 0) (se_int)))) (sss_nil)) (sss_one (ss_ret (sv 1))))))
theorem sc_law : FnScope ["_law_script", "_law_trail", "_law_memory", "_law_half", "_law_many", "_law_k", "_law_first", "_law_cells", "_law_deed_here", "_law_value_here", "_law_j"] ["_law_script"] (defScope s_law) := scp
def b_law_1 : M3 EV :=
  eIxD (eVar 0) (eOp fMod (eOp fAdd (eVar 5) (eVar 10)) (eCB rLenD (eCons (eVar 0) (eNil))))
def u1_law_4 : S3 :=
  sSeq (sSetIx setA3 (eVar 2) (eIxD (eVar 8) (eC (.int 1))) (eCallP 2 [] f_L_behind (eCons (eVar 8) (eCons (eVar 9) (eNil))))) (sIf (bVal (eOp fLt (eVar 5) (eOp fDiv (eVar 4) (eC (.int 2))))) (sSetIx setA3 (eVar 3) (eIxD (eVar 8) (eC (.int 1))) (eIxD (eVar 2) (eIxD (eVar 8) (eC (.int 1))))) (sNx))
def u1_law_3 : S3 :=
  sSeq (sExpr (eAppend (eVar 1) (eTup (eCons (eOp fMod (eIxD (eVar 7) (eC (.int 1))) (eC (.int 16))) (eCons (eVar 8) (eCons (eIxD (eFrzL (eLst (eCons (eOp fMod (eVar 9) (eOp fPow (eC (.int 10)) (eC (.int 60)))) (eCons (eCallP 1 [] f_L_value (eCons (eIxD (eVar 7) (eC (.int 0))) (eNil))) (eNil))))) (eOp fMod (eOp fDiv (eIxD (eVar 7) (eC (.int 0))) (eC (.int 4))) (eC (.int 2)))) (eNil))))))) (u1_law_4)
def u1_law_2 : S3 :=
  sSeq (sAsg (eGetD (eVar 2) (eCons (eIxD (eVar 8) (eC (.int 1))) (eCons (eC (.int 0)) (eNil)))) (gName 9)) (u1_law_3)
def u1_law_1 : S3 :=
  sSeq (sAsg (eCallP 2 [] f_L_deed (eCons (eVar 7) (eCons (eVar 2) (eNil)))) (gName 8)) (u1_law_2)
def b_law_2 : S3 :=
  sSeq (sAsg (eFrzL (eLc (iRng1 (eCons (eC (.int 3)) (eNil))) (gName 10) bYes b_law_1 [10])) (gName 7)) (u1_law_1)
def t_law_9 : S3 :=
  sRet (eAnd (eOp fIsNot (eFrzL (eCallP 2 [] f_L_told (eCons (eVar 1) (eCons (eVar 2) (eNil))))) (eC .non)) (eOp fEq (eCB rLenD (eCons (eVar 6) (eNil))) (eOp fAdd (eCB rLenD (eCons (eVar 2) (eNil))) (eC (.int 1)))))
def t_law_8 : S3 :=
  sSeq (sExpr (eReverse (eVar 6))) (t_law_9)
def t_law_7 : S3 :=
  sSeq (sExpr (eAppend (eVar 6) (eC (.int 1)))) (t_law_8)
def t_law_6 : S3 :=
  sSeq (sIf (bOr (bVal (eOp fIs (eVar 6) (eC .non))) (bVal (eOp fIs (eFrzL (eCallP 2 [] f_L_told (eCons (eFrzL (eSl (eVar 1) (oNo) (oPart (eOp fDiv (eVar 4) (eC (.int 2)))))) (eCons (eVar 3) (eNil))))) (eC .non)))) (sRet (eC (.bl false))) (sNx)) (t_law_7)
def t_law_5 : S3 :=
  sSeq (sAsg (eCallP 2 [] f_L_told (eCons (eVar 1) (eCons (eVar 2) (eNil)))) (gName 6)) (t_law_6)
def t_law_4 : S3 :=
  sSeq (sFor (iRng1 (eCons (eVar 4) (eNil))) (gName 5) b_law_2) (t_law_5)
def t_law_3 : S3 :=
  sSeq (sAsg (eCB rMin3 (eCons (eCB rLenD (eCons (eVar 0) (eNil))) (eCons (eC (.int 98)) (eNil)))) (gName 4)) (t_law_4)
def t_law_2 : S3 :=
  sSeq (sAsg (eDict0) (gName 3)) (t_law_3)
def t_law_1 : S3 :=
  sSeq (sAsg (eDict0) (gName 2)) (t_law_2)
def m_law : S3 :=
  sSeq (sAsg (eLst (eNil)) (gName 1)) (t_law_1)
def f_law : Fn := bodyF 11 m_law
theorem d_law (F : FD K "law" "law" s_law f fd) (b_len : mg "len" = Option.none) (b_min : mg "min" = Option.none) (b_range : mg "range" = Option.none) (c_L_deed_2 : CallPS P w K mg base (GK P w K) "_law_deed" 2 2 [] f_L_deed) (c_L_value_1 : CallPS P w K mg base (GK P w K) "_law_value" 1 1 [] f_L_value) (c_L_behind_2 : CallPS P w K mg base (GK P w K) "_law_behind" 1 2 [] f_L_behind) (c_L_told_2 : CallPS P w K mg base (GK P w K) "_law_told" 7 2 [] f_L_told) :
    FnOk P w K mg base (L2.CX P w) 8 f fd ["_law_script"] (spOf (GK P w K) 1 f_law) :=
  fn_ok2 F sc_law (by decide) fun cdv A outer s H E hr tk0 po0 => (sss_cons (ss_set (i := 1) sc_law.nd rfl (by first | exact Or.inl rfl | exact Or.inr rfl) (se_lst (sa_nil))) (sss_cons (ss_set (i := 2) sc_law.nd rfl (by first | exact Or.inl rfl | exact Or.inr rfl) (se_dict0)) (sss_cons (ss_set (i := 3) sc_law.nd rfl (by first | exact Or.inl rfl | exact Or.inr rfl) (se_dict0)) (sss_cons (ss_set (i := 4) sc_law.nd rfl (by first | exact Or.inl rfl | exact Or.inr rfl) (se_min2 (by rfl) b_min (sa_cons (se_lenD (by rfl) b_len (sa_cons (sv 0) (sa_nil))) (sa_cons (se_int) (sa_nil))))) (sss_cons (ss_for po0 rfl (si_range1 (by rfl) b_range (sa_cons (sv 4) (sa_nil))) (sg_name (i := 5) sc_law.nd rfl (by first | exact Or.inl rfl | exact Or.inr rfl)) (sss_cons (ss_setlcL (own := [("_law_j", 10)]) (i := 7) rfl sc_law.nd rfl rfl (sw_true rfl rfl rfl (by decide +kernel)) (si_range1 (by rfl) b_range (sa_cons (se_int) (sa_nil))) (blkOk_by (by rfl)) (nt_name) (fun _ _ _ _ _ => pg_name (i := 10) sc_law.nd rfl (Or.inl rfl)) (fun _ _ _ _ _ => sts_nil) (fun _ _ _ _ _ => se_ixD (u65 hr) (sv 0) (se_mod (se_add (sv 5) (sv 10)) (se_lenD (by rfl) b_len (sa_cons (sv 0) (sa_nil)))))) (sss_cons (ss_set (i := 8) sc_law.nd rfl (by first | exact Or.inl rfl | exact Or.inr rfl) (se_callP c_L_deed_2 (mo hr) (by rfl) tk0 (sa_cons (sv 7) (sa_cons (sv 2) (sa_nil))))) (sss_cons (ss_set (i := 9) sc_law.nd rfl (by first | exact Or.inl rfl | exact Or.inr rfl) (se_getD (u65 hr) (sv 2) (sa_cons (se_ixD (u65 hr) (sv 8) (se_int)) (sa_cons (se_int) (sa_nil))))) (sss_cons (ss_expr (se_append (sv 1) (se_tup (sa_cons (se_mod (se_ixD (u65 hr) (sv 7) (se_int)) (se_int)) (sa_cons (sv 8) (sa_cons (se_ixD (u65 hr) (se_frzL (se_lst (sa_cons (se_mod (sv 9) (se_pow (se_int) (se_int))) (sa_cons (se_callP c_L_value_1 (mo hr) (by rfl) tk0 (sa_cons (se_ixD (u65 hr) (sv 7) (se_int)) (sa_nil))) (sa_nil))))) (se_mod (se_fdiv (se_ixD (u65 hr) (sv 7) (se_int)) (se_int)) (se_int))) (sa_nil))))))) (sss_cons (ss_setix (u65 hr) (sv 2) (se_ixD (u65 hr) (sv 8) (se_int)) (se_callP c_L_behind_2 (mo hr) (by rfl) tk0 (sa_cons (sv 8) (sa_cons (sv 9) (sa_nil))))) (sss_one (ss_if (sb_lt (sv 5) (se_fdiv (sv 4) (se_int))) (sss_one (ss_setix (u65 hr) (sv 3) (se_ixD (u65 hr) (sv 8) (se_int)) (se_ixD (u65 hr) (sv 2) (se_ixD (u65 hr) (sv 8) (se_int))))) (sss_nil))))))))) (sss_cons (ss_set (i := 6) sc_law.nd rfl (by first | exact Or.inl rfl | exact Or.inr rfl) (se_callP c_L_told_2 (mo hr) (by rfl) tk0 (sa_cons (sv 1) (sa_cons (sv 2) (sa_nil))))) (sss_cons (ss_if (sw_sb (sw_or (sb_is (sv 6) (se_non)) (sw_or1 (sb_is (se_frzL (se_callP c_L_told_2 (mo hr) (by rfl) tk0 (sa_cons (se_frzL (se_sl (sv 1) (so_none) (so_some (se_fdiv (sv 4) (se_int))))) (sa_cons (sv 3) (sa_nil))))) (se_non))))) (sss_one (ss_ret (se_bl))) (sss_nil)) (sss_cons (ss_expr (se_append (sv 6) (se_int))) (sss_cons (ss_expr (se_reverse (sv 6))) (sss_one (ss_ret (se_and (se_isnot (se_frzL (se_callP c_L_told_2 (mo hr) (by rfl) tk0 (sa_cons (sv 1) (sa_cons (sv 2) (sa_nil))))) (se_non)) (se_one (se_eq hr.units (se_lenD (by rfl) b_len (sa_cons (sv 6) (sa_nil))) (se_add (se_lenD (by rfl) b_len (sa_cons (sv 2) (sa_nil))) (se_int))))))))))))))))
end
theorem exAt {K : PySem.W.Frag} (h : ex K = true) (i : Nat) {b : Bool} (e : (exL K)[i]? = some b) : b = true := List.all_eq_true.mp h b (List.mem_of_getElem? e)
theorem facts {P : Program} {w : World} {K : PySem.W.Frag} {h : Heap} {mg : Str → Option Value} {f : Addr} (X : K.In h) (Gn : h.Ns mainGlobals mg) (hfa : mg ("law" : Str) = some (.ref f)) (c : SaysY fa fn ex K) :
    ∃ fd : FuncData, (∀ (s : Shared) (v : Value), BindsTo s fd ⟨[v], []⟩ [("_law_script", v)]) ∧ ∀ base : Heap, K.In base → base.Ns mainGlobals mg → FnOk P w K mg base (L2.CX P w) 8 f fd ["_law_script"] (spOf (GK P w K) 1 f_law) := by
  obtain ⟨_, F_Deed___init__⟩ := c.d.def_ 0 (d := D_Deed___init__) rfl
  obtain ⟨_, F_WriteDeed___init__⟩ := c.d.def_ 1 (d := D_WriteDeed___init__) rfl
  obtain ⟨_, F_AddDeed___init__⟩ := c.d.def_ 2 (d := D_AddDeed___init__) rfl
  obtain ⟨_, F_SwapDeed___init__⟩ := c.d.def_ 3 (d := D_SwapDeed___init__) rfl
  obtain ⟨_, F_is_whole⟩ := c.d.def_ 4 (d := D_is_whole) rfl
  obtain ⟨_, F_deed_of⟩ := c.d.def_ 5 (d := D_deed_of) rfl
  obtain ⟨_, F_Deed_behind⟩ := c.d.def_ 6 (d := D_Deed_behind) rfl
  obtain ⟨_, F_WriteDeed_behind⟩ := c.d.def_ 7 (d := D_WriteDeed_behind) rfl
  obtain ⟨_, F_AddDeed_behind⟩ := c.d.def_ 8 (d := D_AddDeed_behind) rfl
  obtain ⟨_, F_SwapDeed_behind⟩ := c.d.def_ 9 (d := D_SwapDeed_behind) rfl
  obtain ⟨_, F_Deed_place⟩ := c.d.def_ 10 (d := D_Deed_place) rfl
  obtain ⟨_, F_walked⟩ := c.d.def_ 11 (d := D_walked) rfl
  obtain ⟨_, F_memory_of⟩ := c.d.def_ 12 (d := D_memory_of) rfl
  obtain ⟨_, F_L_whole⟩ := c.d.def_ 13 (d := D_L_whole) rfl
  obtain ⟨_, F_L_told⟩ := c.d.def_ 14 (d := D_L_told) rfl
  obtain ⟨_, F_L_value⟩ := c.d.def_ 15 (d := D_L_value) rfl
  obtain ⟨_, F_L_deed⟩ := c.d.def_ 16 (d := D_L_deed) rfl
  obtain ⟨_, F_L_behind⟩ := c.d.def_ 17 (d := D_L_behind) rfl
  obtain ⟨fd_law, F_law⟩ := c.d.def_ 18 (d := D_law) rfl
  have e := hfa.symm.trans (gK X Gn c 56 rfl)
  cases e
  have f_address : FldOk K (GK P w K) ["Deed", "ReadDeed", "WriteDeed", "AddDeed", "SwapDeed"] "address" := by
    intro C hC
    simp only [List.mem_cons, List.mem_nil_iff, or_false] at hC
    rcases hC with rfl | rfl | rfl | rfl | rfl
    · exact ⟨cK c 0 rfl, He.noat_ok (c.d.fact 1 rfl)⟩
    · exact ⟨cK c 2 rfl, He.noat_ok (c.d.fact 3 rfl)⟩
    · exact ⟨cK c 4 rfl, He.noat_ok (c.d.fact 5 rfl)⟩
    · exact ⟨cK c 6 rfl, He.noat_ok (c.d.fact 7 rfl)⟩
    · exact ⟨cK c 8 rfl, He.noat_ok (c.d.fact 9 rfl)⟩

  have f_value : FldOk K (GK P w K) ["WriteDeed", "AddDeed"] "value" := by
    intro C hC
    simp only [List.mem_cons, List.mem_nil_iff, or_false] at hC
    rcases hC with rfl | rfl
    · exact ⟨cK c 4 rfl, He.noat_ok (c.d.fact 10 rfl)⟩
    · exact ⟨cK c 6 rfl, He.noat_ok (c.d.fact 11 rfl)⟩

  have f_old : FldOk K (GK P w K) ["SwapDeed"] "old" := by
    intro C hC
    simp only [List.mem_cons, List.mem_nil_iff, or_false] at hC
    rcases hC with rfl
    · exact ⟨cK c 8 rfl, He.noat_ok (c.d.fact 12 rfl)⟩

  have f_new : FldOk K (GK P w K) ["SwapDeed"] "new" := by
    intro C hC
    simp only [List.mem_cons, List.mem_nil_iff, or_false] at hC
    rcases hC with rfl
    · exact ⟨cK c 8 rfl, He.noat_ok (c.d.fact 13 rfl)⟩

  have b_isinstance : mg "isinstance" = Option.none := He.free_ok X Gn (c.d.fact 14 rfl)
  have b_int : mg "int" = Option.none := He.free_ok X Gn (c.d.fact 15 rfl)
  have b_bool : mg "bool" = Option.none := He.free_ok X Gn (c.d.fact 16 rfl)
  have b_tuple : mg "tuple" = Option.none := He.free_ok X Gn (c.d.fact 17 rfl)
  have b_len : mg "len" = Option.none := He.free_ok X Gn (c.d.fact 18 rfl)
  have b_str : mg "str" = Option.none := He.free_ok X Gn (c.d.fact 19 rfl)
  have x_NoDeed : ExcK K mg "NoDeed" := ⟨(He.exc_ok (c.d.fact 20 rfl)).1, gK X Gn c 21 rfl, (He.exc_ok (c.d.fact 20 rfl)).2.1, (He.exc_ok (c.d.fact 20 rfl)).2.2.1, (He.exc_ok (c.d.fact 20 rfl)).2.2.2⟩
  have b_enumerate : mg "enumerate" = Option.none := He.free_ok X Gn (c.d.fact 22 rfl)
  have b_sorted : mg "sorted" = Option.none := He.free_ok X Gn (c.d.fact 23 rfl)
  have b_list : mg "list" = Option.none := He.free_ok X Gn (c.d.fact 24 rfl)
  have b_abs : mg "abs" = Option.none := He.free_ok X Gn (c.d.fact 25 rfl)
  have b_min : mg "min" = Option.none := He.free_ok X Gn (c.d.fact 26 rfl)
  have b_range : mg "range" = Option.none := He.free_ok X Gn (c.d.fact 27 rfl)
  have bl := FunD.bindsA (ps := ["_law_script"]) F_law fun _ _ _ _ _ _ us hl => match us, hl with | [_], _ => rfl
  refine ⟨fd_law, fun s v => bl s [v] rfl, fun base _ _ => ?_⟩
  have B_is_whole := bd1 F_is_whole "thing"
  have B_deed_of := bd1 F_deed_of "thing"
  have B_Deed_place := bd1 F_Deed_place "self"
  have B_Deed_behind := bd2 F_Deed_behind "self" "value"
  have B_WriteDeed_behind := bd2 F_WriteDeed_behind "self" "value"
  have B_AddDeed_behind := bd2 F_AddDeed_behind "self" "value"
  have B_SwapDeed_behind := bd2 F_SwapDeed_behind "self" "value"
  have B_walked := bd1 F_walked "trail"
  have B_memory_of := bd1 F_memory_of "trail"
  have B_L_whole := bd1 F_L_whole "_law_found"
  have B_L_value := bd1 F_L_value "_law_cell"
  have B_L_deed := bd2 F_L_deed "_law_cells" "_law_memory"
  have B_L_behind := bd2 F_L_behind "_law_deed_here" "_law_value_here"
  have B_L_told := bd2 F_L_told "_law_trail" "_law_due"
  have O_Deed___init__ := d_Deed___init__ (P := P) (w := w) (mg := mg) (base := base) F_Deed___init__ f_address
  have q_Deed___init__ : ClsS P w K mg base (GK P w K) "Deed" "__init__" 1 2 f_Deed___init__ := clsB_ok (exAt c.more 0 rfl) (gK X Gn c 28 rfl) O_Deed___init__ (FunD.bindsN F_Deed___init__ fun _ _ _ _ _ _ us hl => match us, hl with | [_, _], _ => rfl) F_Deed___init__.kp
  have O_WriteDeed___init__ := d_WriteDeed___init__ (P := P) (w := w) (mg := mg) (base := base) F_WriteDeed___init__ q_Deed___init__ f_value
  have O_AddDeed___init__ := d_AddDeed___init__ (P := P) (w := w) (mg := mg) (base := base) F_AddDeed___init__ q_Deed___init__ f_value
  have O_SwapDeed___init__ := d_SwapDeed___init__ (P := P) (w := w) (mg := mg) (base := base) F_SwapDeed___init__ q_Deed___init__ f_old f_new
  have O_is_whole := d_is_whole (P := P) (w := w) (mg := mg) (base := base) F_is_whole b_isinstance b_int b_bool
  have c_is_whole_1 := callP0 (y := "is_whole") B_is_whole O_is_whole (gK X Gn c 29 rfl) F_is_whole
  have k_ReadDeed_1 : MakeS P w K mg base (GK P w K) "ReadDeed" 1 2 [] f_Deed___init__ := by
    obtain ⟨ds, hv, hb⟩ := bn0 (FunD.bindsN (ps := ["self", "address"]) F_Deed___init__ fun _ _ _ _ _ _ us hl => match us, hl with | [_, _], _ => rfl)
    exact ⟨gK X Gn c 31 rfl, _, _, _, _, ds, mk_to (He.mkr_ok (c.d.fact 30 rfl)) (sameB_ok (exAt c.more 1 rfl)), O_Deed___init__, hb, hv, fun _ _ => rfl⟩
  have k_WriteDeed_2 : MakeS P w K mg base (GK P w K) "WriteDeed" 2 3 [] f_WriteDeed___init__ := by
    obtain ⟨ds, hv, hb⟩ := bn0 (FunD.bindsN (ps := ["self", "address", "value"]) F_WriteDeed___init__ fun _ _ _ _ _ _ us hl => match us, hl with | [_, _, _], _ => rfl)
    exact ⟨gK X Gn c 33 rfl, _, _, _, _, ds, He.mkr_ok (c.d.fact 32 rfl), O_WriteDeed___init__, hb, hv, fun _ _ => rfl⟩
  have k_AddDeed_2 : MakeS P w K mg base (GK P w K) "AddDeed" 2 3 [] f_AddDeed___init__ := by
    obtain ⟨ds, hv, hb⟩ := bn0 (FunD.bindsN (ps := ["self", "address", "value"]) F_AddDeed___init__ fun _ _ _ _ _ _ us hl => match us, hl with | [_, _, _], _ => rfl)
    exact ⟨gK X Gn c 35 rfl, _, _, _, _, ds, He.mkr_ok (c.d.fact 34 rfl), O_AddDeed___init__, hb, hv, fun _ _ => rfl⟩
  have k_SwapDeed_3 : MakeS P w K mg base (GK P w K) "SwapDeed" 2 4 [] f_SwapDeed___init__ := by
    obtain ⟨ds, hv, hb⟩ := bn0 (FunD.bindsN (ps := ["self", "address", "old", "new"]) F_SwapDeed___init__ fun _ _ _ _ _ _ us hl => match us, hl with | [_, _, _, _], _ => rfl)
    exact ⟨gK X Gn c 37 rfl, _, _, _, _, ds, He.mkr_ok (c.d.fact 36 rfl), O_SwapDeed___init__, hb, hv, fun _ _ => rfl⟩
  have O_deed_of := d_deed_of (P := P) (w := w) (mg := mg) (base := base) F_deed_of b_isinstance b_tuple b_len b_str x_NoDeed c_is_whole_1 k_ReadDeed_1 k_WriteDeed_2 k_AddDeed_2 k_SwapDeed_3
  have O_Deed_behind := d_Deed_behind (P := P) (w := w) (mg := mg) (base := base) F_Deed_behind 
  have O_WriteDeed_behind := d_WriteDeed_behind (P := P) (w := w) (mg := mg) (base := base) F_WriteDeed_behind f_value
  have O_AddDeed_behind := d_AddDeed_behind (P := P) (w := w) (mg := mg) (base := base) F_AddDeed_behind f_value
  have O_SwapDeed_behind := d_SwapDeed_behind (P := P) (w := w) (mg := mg) (base := base) F_SwapDeed_behind f_old f_new
  have O_Deed_place := d_Deed_place (P := P) (w := w) (mg := mg) (base := base) F_Deed_place f_address
  have c_deed_of_1 := callP0 (y := "deed_of") B_deed_of O_deed_of (gK X Gn c 38 rfl) F_deed_of
  have h_tab_place_0_0 : MethPS P w K mg base (GK P w K) "place" 1 1 [] tab_place_0 := ⟨tabC (rowP (cK c 0 rfl) (mK c 43 rfl) B_Deed_place O_Deed_place) (tabC (rowP (cK c 2 rfl) (meth_to (mK c 42 rfl) (sameB_ok (exAt c.more 5 rfl))) B_Deed_place O_Deed_place) (tabC (rowP (cK c 4 rfl) (meth_to (mK c 41 rfl) (sameB_ok (exAt c.more 4 rfl))) B_Deed_place O_Deed_place) (tabC (rowP (cK c 6 rfl) (meth_to (mK c 40 rfl) (sameB_ok (exAt c.more 3 rfl))) B_Deed_place O_Deed_place) (tabC (rowP (cK c 8 rfl) (meth_to (mK c 39 rfl) (sameB_ok (exAt c.more 2 rfl))) B_Deed_place O_Deed_place) tabN))))⟩
  have h_tab_behind_0_1 : MethPS P w K mg base (GK P w K) "behind" 1 2 [] tab_behind_0 := ⟨tabC (rowP (cK c 0 rfl) (mK c 48 rfl) B_Deed_behind O_Deed_behind) (tabC (rowP (cK c 2 rfl) (meth_to (mK c 47 rfl) (sameB_ok (exAt c.more 6 rfl))) B_Deed_behind O_Deed_behind) (tabC (rowP (cK c 4 rfl) (mK c 46 rfl) B_WriteDeed_behind O_WriteDeed_behind) (tabC (rowP (cK c 6 rfl) (mK c 45 rfl) B_AddDeed_behind O_AddDeed_behind) (tabC (rowP (cK c 8 rfl) (mK c 44 rfl) B_SwapDeed_behind O_SwapDeed_behind) tabN))))⟩
  have O_walked := d_walked (P := P) (w := w) (mg := mg) (base := base) F_walked b_enumerate c_deed_of_1 h_tab_place_0_0 h_tab_behind_0_1
  have c_walked_1 := callP0 (y := "walked") B_walked O_walked (gK X Gn c 49 rfl) F_walked
  have O_memory_of := d_memory_of (P := P) (w := w) (mg := mg) (base := base) F_memory_of c_walked_1 b_sorted
  have O_L_whole := d_L_whole (P := P) (w := w) (mg := mg) (base := base) F_L_whole b_isinstance b_int b_bool
  have c_memory_of_1 := callP0 (y := "memory_of") B_memory_of O_memory_of (gK X Gn c 50 rfl) F_memory_of
  have c_L_whole_1 := callP0 (y := "_law_whole") B_L_whole O_L_whole (gK X Gn c 51 rfl) F_L_whole
  have O_L_told := d_L_told (P := P) (w := w) (mg := mg) (base := base) F_L_told b_list c_memory_of_1 b_isinstance b_tuple c_L_whole_1 b_sorted
  have O_L_value := d_L_value (P := P) (w := w) (mg := mg) (base := base) F_L_value 
  have c_L_value_1 := callP0 (y := "_law_value") B_L_value O_L_value (gK X Gn c 52 rfl) F_L_value
  have O_L_deed := d_L_deed (P := P) (w := w) (mg := mg) (base := base) F_L_deed c_L_value_1 b_abs
  have O_L_behind := d_L_behind (P := P) (w := w) (mg := mg) (base := base) F_L_behind 
  have c_L_deed_2 := callP0 (y := "_law_deed") B_L_deed O_L_deed (gK X Gn c 53 rfl) F_L_deed
  have c_L_behind_2 := callP0 (y := "_law_behind") B_L_behind O_L_behind (gK X Gn c 54 rfl) F_L_behind
  have c_L_told_2 := callP0 (y := "_law_told") B_L_told O_L_told (gK X Gn c 55 rfl) F_L_told
  have O_law := d_law (P := P) (w := w) (mg := mg) (base := base) F_law b_len b_min b_range c_L_deed_2 c_L_value_1 c_L_behind_2 c_L_told_2
  exact O_law
theorem ob_eq (s : PySem.W.SharedT) : ob s = hk.obs s.abs := obsY_eq (HandSHeadRun.getT_eq s)
end K51
namespace K51
open PySem L2 VL
theorem whole_w (b : Int) : f_is_whole [.im (.int b)] = .ok (.im (.bl true)) [.im (.int b)] := by
  simp [f_is_whole, bodyP_ev, m_is_whole, isB]
theorem dInit (C : String) (hC : C ∈ ["Deed", "ReadDeed", "WriteDeed", "AddDeed", "SwapDeed"]) (a : Int) : f_Deed___init__ [.mi C [], .im (.int a)] = .ok (.im .non) [.mi C [("address", .im (.int a))], .im (.int a)] := by
  simp [f_Deed___init__, bodyF_ev, m_Deed___init__, hC]
theorem dInit_wr (a v : Int) : f_WriteDeed___init__ [.mi "WriteDeed" [], .im (.int a), .im (.int v)] = .ok (.im .non) [.mi "WriteDeed" [("address", .im (.int a)), ("value", .im (.int v))], .im (.int a), .im (.int v)] := by
  simp [f_WriteDeed___init__, bodyF_ev, m_WriteDeed___init__, dInit]
theorem dInit_add (a v : Int) : f_AddDeed___init__ [.mi "AddDeed" [], .im (.int a), .im (.int v)] = .ok (.im .non) [.mi "AddDeed" [("address", .im (.int a)), ("value", .im (.int v))], .im (.int a), .im (.int v)] := by
  simp [f_AddDeed___init__, bodyF_ev, m_AddDeed___init__, dInit]
theorem dInit_sw (a o n : Int) : f_SwapDeed___init__ [.mi "SwapDeed" [], .im (.int a), .im (.int o), .im (.int n)] = .ok (.im .non) [.mi "SwapDeed" [("address", .im (.int a)), ("old", .im (.int o)), ("new", .im (.int n))], .im (.int a), .im (.int o), .im (.int n)] := by
  simp [f_SwapDeed___init__, bodyF_ev, m_SwapDeed___init__, t_SwapDeed___init___1, dInit]
theorem whole_loop (xs : List Int) (x : W) (k : Option W) : ∃ k', forF (gName 1) b_deed_of_1 (ime (iw xs)) [some (.val x), jk k] = .nx [some (.val x), jk k'] := by
  obtain ⟨e, h1, k', h2⟩ := forF_map (tg := gName 1) (b := b_deed_of_1) W.int xs (fun _ env => ∃ k, env = [some (.val x), jk k]) [some (.val x), jk k]
    (by rintro pre z r env hq ⟨k, rfl⟩; exact ⟨_, Turn.im (by simp; rfl) (by simp [b_deed_of_1, whole_w]), some (.int z), rfl⟩) ⟨k, rfl⟩
  subst h2
  exact ⟨k', h1⟩
theorem deed_of_ev (d : Dd) (h : 0 ≤ d.addr) : f_deed_of [.im (.tup d.plain)] = .ok (.im d.w) [.im (.tup d.plain)] := by
  obtain ⟨k, hk⟩ := whole_loop d.rest (.tup d.plain) none
  have hc : cutA d.plain (some (1 : Int)) none = iw d.rest := by
    have := cutA_drop d.plain 1
    rw [show ((1 : Nat) : Int) = 1 from rfl] at this
    rw [this, Dd.plain_eq]; rfl
  have hn : ¬ d.addr < 0 := by omega
  cases d <;> simp only [Dd.plain, Dd.addr, Dd.rest, iw_cons, iw_nil, jk_none] at hc hn hk ⊢ <;>
    simp [f_deed_of, bodyP_ev, m_deed_of, t_deed_of_1, t_deed_of_2, t_deed_of_3, t_deed_of_4, t_deed_of_5, t_deed_of_6, isB, hc, atI, ixN] <;> simp at hk <;>
    simp [hk, hn, dInit, dInit_wr, dInit_add, dInit_sw, atI, ixN] <;> rfl
noncomputable def fbehind : Dd → Fn
  | .rd _ => f_Deed_behind | .wr _ _ => f_WriteDeed_behind | .add _ _ => f_AddDeed_behind | .sw _ _ _ => f_SwapDeed_behind
theorem tab_behind_dd (d : Dd) : tab_behind_0 d.cls = some (fbehind d) := by cases d <;> simp [tab_behind_0, Dd.cls, fbehind]
theorem fbehind_ev (d : Dd) (x : Int) : fbehind d [.im d.w, .im (.int x)] = .ok (.im (.int (d.behind x))) [.im d.w, .im (.int x)] := by
  cases d with
  | sw a o n => by_cases h : x = o <;> simp [fbehind, bodyP_ev, f_SwapDeed_behind, m_SwapDeed_behind, Dd.w, Dd.cls, Dd.flds, Dd.behind, h]
  | _ => simp [fbehind, bodyP_ev, f_Deed_behind, m_Deed_behind, f_WriteDeed_behind, m_WriteDeed_behind, f_AddDeed_behind, m_AddDeed_behind, Dd.w, Dd.cls, Dd.flds, Dd.behind]
theorem tab_place_dd (d : Dd) : tab_place_0 d.cls = some f_Deed_place := by cases d <;> simp [tab_place_0, Dd.cls]
theorem fplace_ev (d : Dd) : f_Deed_place [.im d.w] = .ok (.im (.int d.addr)) [.im d.w] := by
  cases d <;> simp [bodyP_ev, f_Deed_place, m_Deed_place, Dd.w, Dd.cls, Dd.flds, Dd.addr]
end K51
namespace K51
open PySem L2 VL PyProof.Rows PySem.W
theorem value_ev (z : Int) : ∃ v : Int, f_L_value [.im (.int z)] = .ok (.im (.int v)) [.im (.int z)] := by
  have h : z % 4 = 0 ∨ z % 4 = 1 ∨ z % 4 = 2 ∨ z % 4 = 3 := by omega
  rcases h with h | h | h | h <;> exact ⟨_, by simp [f_L_value, bodyP_ev, m_L_value, t_L_value_1, t_L_value_2, t_L_value_3, h, atI, ixN]; rfl⟩
noncomputable def val (z : Int) : Int := (value_ev z).choose
theorem val_ev (z : Int) : f_L_value [.im (.int z)] = .ok (.im (.int (val z))) [.im (.int z)] := (value_ev z).choose_spec
def cells (a b c : Int) : W := .lst [.int a, .int b, .int c]
theorem deed_tail (z0 z1 z2 p : Int) (m : List (Int × Int)) (k : Nat) (hk : k < 4) (L : List Path) (hp : 0 ≤ p) : ∃ d : Dd, 0 ≤ d.addr ∧ ∃ s0 s1, t_L_deed_3 [some (.val (cells z0 z1 z2)), some (.own true L (.md (mdi intT m))), some (.val (.str (["read", "write", "add", "swap"][k]'(by simpa using hk)))), some (.val (.int p)), none, none] = .rt (.im (.tup d.plain)) [some (.val (cells z0 z1 z2)), some (.own true L (.md (mdi intT m))), some (.val (.str (["read", "write", "add", "swap"][k]'(by simpa using hk)))), some (.val (.int p)), s0, s1] := by
  have : k = 0 ∨ k = 1 ∨ k = 2 ∨ k = 3 := by omega
  rcases this with rfl | rfl | rfl | rfl
  · exact ⟨.rd p, hp, by simp [t_L_deed_3, t_L_deed_4, cells, Dd.plain]⟩
  · exact ⟨.wr p (val z2), hp, by simp [t_L_deed_3, t_L_deed_4, cells, Dd.plain, atI, ixN, val_ev]⟩
  · exact ⟨.add p (val z2), hp, by simp [t_L_deed_3, t_L_deed_4, cells, Dd.plain, atI, ixN, val_ev]⟩
  · by_cases h : z2 % 2 = 0
    · by_cases h2 : (if (mget p m).getD 0 < 0 then -((mget p m).getD 0) else (mget p m).getD 0) < 1000000000000000000000000000000000000000000000000000000000000
      · exact ⟨.sw p ((mget p m).getD 0) (val (z0 + z2)), hp, by simp [t_L_deed_3, t_L_deed_4, cells, Dd.plain, atI, ixN, val_ev, h, h2]⟩
      · exact ⟨.sw p (val z2) (val (z0 + z2)), hp, by simp [t_L_deed_3, t_L_deed_4, cells, Dd.plain, atI, ixN, val_ev, h, h2]⟩
    · exact ⟨.sw p (val z2) (val (z0 + z2)), hp, by simp [t_L_deed_3, t_L_deed_4, cells, Dd.plain, atI, ixN, val_ev, h]⟩
structure Rw where
  near : Int
  d : Dd
  v : Int
def Rw.w (r : Rw) : W := .tup [.int r.near, .tup r.d.plain, .int r.v]
structure St where
  m : List (Int × Int)
  fs : List Int
  n : Nat
def found (m : List (Int × Int)) (d : Dd) : Int := (mget d.addr m).getD 0
def St.up (s : St) (r : Rw) : St := ⟨mput r.d.addr (r.d.behind (found s.m r.d)) s.m, if r.v = found s.m r.d then s.fs else s.fs ++ [(s.n : Int)], s.n + 1⟩
def St.of (rs : List Rw) : St := rs.foldl St.up ⟨[], [], 0⟩
theorem St.of_snoc (rs : List Rw) (r : Rw) : St.of (rs ++ [r]) = (St.of rs).up r := by simp [St.of, List.foldl_append]
theorem St.len (rs : List Rw) : ∀ s : St, (rs.foldl St.up s).n = s.n + rs.length ∧ (rs.foldl St.up s).m.length ≤ s.m.length + rs.length ∧ (rs.foldl St.up s).fs.length ≤ s.fs.length + rs.length := by
  induction rs with
  | nil => intro s; exact ⟨rfl, Nat.le_refl _, Nat.le_refl _⟩
  | cons r rs ih =>
    intro s
    obtain ⟨h1, h2, h3⟩ := ih (s.up r)
    have h4 : (s.up r).m.length ≤ s.m.length + 1 := mput_len _ _ _
    have h5 : (s.up r).fs.length ≤ s.fs.length + 1 := by
      unfold St.up; dsimp only; split <;> simp
    have h6 : (s.up r).n = s.n + 1 := rfl
    simp only [List.foldl_cons, List.length_cons]
    omega
theorem St.of_len (rs : List Rw) : (St.of rs).n = rs.length ∧ (St.of rs).m.length ≤ rs.length ∧ (St.of rs).fs.length ≤ rs.length := by
  have := St.len rs ⟨[], [], 0⟩; simpa [St.of] using this
def EW (rs : W) (s : St) (a b c d : Option W) : Env3 := [some (.val rs), some (.own false [] (.md (mdi intT s.m))), some (.own false [] (.ml (ims (iw s.fs)))), jk a, jk b, jk c, jk d]
theorem walk_turn (rs : W) (s : St) (r : Rw) (hr : 0 ≤ r.d.addr) (h1 : s.m.length < 1000) (h2 : s.fs.length < 1000) (a b c d : Option W) : ∃ a' b' c' d', Turn (gTup 2 (gCons 3 (gCons 4 gNil))) b_walked_1 (.im (.tup [.int (s.n : Int), r.w])) (EW rs s a b c d) (EW rs (s.up r) a' b' c' d') := by
  refine ⟨some (.int s.n), some r.w, some r.d.w, some (.int (found s.m r.d)), Turn.im (by simp [EW]; rfl) ?_⟩
  have hd := deed_of_ev r.d hr
  have n1 := Dd.flds_no r.d "place" (by decide)
  have n2 := Dd.flds_no r.d "behind" (by decide)
  have l1 : s.m.length < 10000000 := by omega
  have l2 : s.fs.length < 10000000 := by omega
  by_cases hv : r.v = (mget r.d.addr s.m).getD 0
  · simp [b_walked_1, u1_walked_1, u1_walked_2, EW, Rw.w, atI, ixN, hd, tab_place_dd, tab_behind_dd, fplace_ev, fbehind_ev, n1, n2, l1, l2, hv, St.up, found]
  · simp [b_walked_1, u1_walked_1, u1_walked_2, EW, Rw.w, atI, ixN, hd, tab_place_dd, tab_behind_dd, fplace_ev, fbehind_ev, n1, n2, l1, l2, hv, St.up, found]
def rws (rs : List Rw) : List W := rs.map Rw.w
theorem walked_ev (rs : List Rw) (hr : ∀ r ∈ rs, 0 ≤ r.d.addr) (hl : rs.length < 1000) : f_walked [.im (.lst (rws rs))] = .ok (.tmp (.tp [.md (mdi intT (St.of rs).m), .ml (ims (iw (St.of rs).fs))])) [.im (.lst (rws rs))] := by
  obtain ⟨env, h1, a, b, c, d, h2⟩ := forF_enum (tg := gTup 2 (gCons 3 (gCons 4 gNil))) (b := b_walked_1) Rw.w rs (fun pre env => ∃ a b c d, env = EW (.lst (rws rs)) (St.of pre) a b c d) (EW (.lst (rws rs)) (St.of []) none none none none)
    (by
      rintro pre r post env hq ⟨a, b, c, d, rfl⟩
      have hp := St.of_len pre
      have hq2 : pre.length < 1000 := by rw [hq] at hl; simp at hl; omega
      obtain ⟨a', b', c', d', ht⟩ := walk_turn (.lst (rws rs)) (St.of pre) r (hr r (by rw [hq]; simp)) (by omega) (by omega) a b c d
      rw [hp.1] at ht
      exact ⟨_, ht, a', b', c', d', by rw [St.of_snoc]⟩)
    ⟨_, _, _, _, rfl⟩
  subst h2
  have e0 : St.of [] = ⟨[], [], 0⟩ := rfl
  simp only [EW, jk_none, e0, mdi_nil, iw_nil, ims_nil] at h1
  unfold rws at h1 ⊢
  simp [f_walked, bodyP_ev, m_walked, t_walked_1, t_walked_2, h1]
theorem behind_ev (d : Dd) (x : Int) : f_L_behind [.im (.tup d.plain), .im (.int x)] = .ok (.im (.int (d.behind x))) [.im (.tup d.plain), .im (.int x)] := by
  cases d with
  | sw a o n =>
    by_cases h : o = x
    · subst h; simp [f_L_behind, bodyP_ev, m_L_behind, t_L_behind_1, t_L_behind_2, Dd.plain, Dd.behind, atI, ixN]
    · have h2 : ¬ x = o := fun e => h e.symm
      simp [f_L_behind, bodyP_ev, m_L_behind, t_L_behind_1, t_L_behind_2, Dd.plain, Dd.behind, atI, ixN, h, h2]
  | _ => simp [f_L_behind, bodyP_ev, m_L_behind, t_L_behind_1, t_L_behind_2, Dd.plain, Dd.behind, atI, ixN]
theorem whole_ev (n : Int) : f_L_whole [.im (.int n)] = .ok (.im (.bl true)) [.im (.int n)] := by
  simp [f_L_whole, bodyP_ev, m_L_whole, isB]
theorem ok_rws (rs : List Rw) : okWs 63 (rws rs) = true := okWs_map _ _ (fun r => by
  have : okWs 61 r.d.plain = true := by cases r.d <;> simp [Dd.plain]
  simp [Rw.w, this]) _
theorem deed_ev (z0 z1 z2 : Int) (m : List (Int × Int)) : ∃ d : Dd, 0 ≤ d.addr ∧ f_L_deed [.im (cells z0 z1 z2), .md (mdi intT m)] = .ok (.im (.tup d.plain)) [.im (cells z0 z1 z2), .md (mdi intT m)] := by
  obtain ⟨k, hk, h4⟩ : ∃ k : Nat, z0 * 48271 % 2147483647 / 64 % 4 = (k : Int) ∧ k < 4 := ⟨(z0 * 48271 % 2147483647 / 64 % 4).toNat, by omega, by omega⟩
  have fin : ∀ p : Int, 0 ≤ p → ∃ d : Dd, 0 ≤ d.addr ∧ ∃ s0 s1, t_L_deed_3 [some (.val (cells z0 z1 z2)), some (.own true (pthT (.md (mdi intT m))) (.md (mdi intT m))), some (.val (.str (["read", "write", "add", "swap"][k]'(by simpa using h4)))), some (.val (.int p)), none, none] = .rt (.im (.tup d.plain)) [some (.val (cells z0 z1 z2)), some (.own true (pthT (.md (mdi intT m))) (.md (mdi intT m))), some (.val (.str (["read", "write", "add", "swap"][k]'(by simpa using h4)))), some (.val (.int p)), s0, s1] := fun p hp => deed_tail z0 z1 z2 p m k h4 _ hp
  by_cases h3 : 3 < z1 * 39373 % 2147483629 / 64 % 6
  · by_cases h5 : z1 * 39373 % 2147483629 / 64 % 6 % 2 = 0
    · obtain ⟨d, hd, s0, s1, e⟩ := fin (z1 % 10000) (by omega)
      refine ⟨d, hd, ?_⟩
      simp only [cells] at e
      have : k = 0 ∨ k = 1 ∨ k = 2 ∨ k = 3 := by omega
      rcases this with rfl | rfl | rfl | rfl <;> simp at e <;> simp [f_L_deed, bodyP_ev, m_L_deed, t_L_deed_1, t_L_deed_2, cells, hk, h3, h5, atI, ixN, e]
    · have h6 : z1 * 39373 % 2147483629 / 64 % 6 % 2 = 1 := by omega
      obtain ⟨d, hd, s0, s1, e⟩ := fin (z1 % 1000000000000000000000000000000000000000000000000000000000000) (by omega)
      refine ⟨d, hd, ?_⟩
      simp only [cells] at e
      have : k = 0 ∨ k = 1 ∨ k = 2 ∨ k = 3 := by omega
      rcases this with rfl | rfl | rfl | rfl <;> simp at e <;> simp [f_L_deed, bodyP_ev, m_L_deed, t_L_deed_1, t_L_deed_2, cells, hk, h3, h6, atI, ixN, e]
  · obtain ⟨d, hd, s0, s1, e⟩ := fin (z1 * 39373 % 2147483629 / 64 % 6) (by omega)
    refine ⟨d, hd, ?_⟩
    simp only [cells] at e
    have : k = 0 ∨ k = 1 ∨ k = 2 ∨ k = 3 := by omega
    rcases this with rfl | rfl | rfl | rfl <;> simp at e <;> simp [f_L_deed, bodyP_ev, m_L_deed, t_L_deed_1, t_L_deed_2, cells, hk, h3, atI, ixN, e]
def ltII (p q : Int × Int) : Bool := decide (p.1 < q.1 ∨ (p.1 = q.1 ∧ p.2 < q.2))
theorem ky_II : KyE (eP2 eI eI) ltII := by
  refine ⟨fun k => by simp, fun k k' => by simp [W.dat, W.dats, alike, alikeAll], .inl fun k => ⟨_, _, rfl⟩, fun k k' => ?_⟩
  exact dataLt_ii k.1 k.2 k'.1 k'.2
def prs (m : List (Int × Int)) : List W := m.map (eP2 eI eI)
def srtM (m : List (Int × Int)) : List (Int × Int) := m.mergeSort (leK ltII fun x => some x)
theorem srt_ok (m : List (Int × Int)) : KeyOk idF (prs m) ∧ sortByK idF (prs m) = prs (srtM m) :=
  sortK_of (F := idF) (f := eP2 eI eI) (key := fun x => some x) ky_II (fun x k e => by cases e; rfl) (fun x _ => ⟨x, rfl⟩)
theorem kx_int (m : List (Int × Int)) : kxPairs (mdi intT m) = some (m.map fun q => (Ky.i q.1, W.int q.2)) := by
  induction m with
  | nil => rfl
  | cons q r ih => show (kxPairs (mdi intT r)).map _ = _; rw [ih]; rfl
open Classical in
noncomputable def kSI (x : Option T) (e : Env3) : Out EV := match x with
  | some (.md kvs) => (match (kxPairs kvs).map (fun ps => ps.map pairW) with
    | some ws => if KeyOk idF ws then .ok (.tmp (.ml ((sortByK idF ws).map T.im))) e else .stuck
    | none => .stuck)
  | _ => .stuck
theorem eSortItems_ev (fe : M3 EV) (env : Env3) : eSortItems fe env = (fe env).bind fun o e => kSI (rd e o) e := by
  unfold eSortItems Out.bind
  cases fe env with
  | stuck => rfl
  | exc c e => rfl
  | ok o e =>
    unfold itemsT kSI
    cases hx : rd e o with
    | none => simp only [hx]
    | some x => cases x <;> simp only [hx] <;> rfl
theorem kSI_int (m : List (Int × Int)) (e : Env3) : kSI (some (.md (mdi intT m))) e = .ok (.tmp (.ml (ims (prs (srtM m))))) e := by
  obtain ⟨k1, k2⟩ := srt_ok m
  unfold kSI
  dsimp only
  rw [kx_int, Option.map_some, List.map_map]
  have e1 : (m.map (pairW ∘ fun q => (Ky.i q.1, W.int q.2))) = prs m := rfl
  rw [e1]
  dsimp only
  rw [if_pos k1, k2]; rfl
theorem memory_ev (rs : List Rw) (hr : ∀ r ∈ rs, 0 ≤ r.d.addr) (hl : rs.length < 1000) : f_memory_of [.im (.lst (rws rs))] = .ok (.tmp (.ml (ims (prs (srtM (St.of rs).m))))) [.im (.lst (rws rs))] := by
  simp [f_memory_of, bodyP_ev, m_memory_of, eSortItems_ev, walked_ev rs hr hl, ixN, kidEV_tmp, kSI_int]
theorem ok_prs (m : List (Int × Int)) : okWs 63 (prs m) = true := okWs_map _ _ (fun q => by simp) _
theorem told_loop (m : List (Int × Int)) (k : Option W) (a b c d : Option SV) : ∃ k', forF (gName 4) b_L_told_1 (ime (prs m)) [a, b, c, d, jk k] = .nx [a, b, c, d, jk k'] := by
  obtain ⟨e, h1, k', h2⟩ := forF_map (tg := gName 4) (b := b_L_told_1) (eP2 eI eI) m (fun _ env => ∃ k, env = [a, b, c, d, jk k]) [a, b, c, d, jk k]
    (by rintro pre z r env hq ⟨k, rfl⟩; exact ⟨_, Turn.im (by simp; rfl) (by simp [b_L_told_1, whole_ev, isB, atI, ixN]), some (eP2 eI eI z), rfl⟩) ⟨k, rfl⟩
  subst h2
  exact ⟨k', h1⟩
theorem told_ev (rs : List Rw) (hr : ∀ r ∈ rs, 0 ≤ r.d.addr) (hl : rs.length < 1000) : f_L_told [.ml (ims (rws rs)), .md (mdi intT (St.of rs).m)] = .ok (.tmp (.ml (ims (prs (srtM (St.of rs).m))))) [.ml (ims (rws rs)), .md (mdi intT (St.of rs).m)] := by
  have h1 := memory_ev rs hr hl
  have o1 := ok_rws rs
  have o2 := ok_prs (srtM (St.of rs).m)
  have r1 := eqv_refl_all.2 _ _ o1
  have r2 := eqv_refl_all.2 _ _ o2
  obtain ⟨k', hk⟩ := told_loop (srtM (St.of rs).m) none (some (.own true (pthT (.ml (ims (rws rs)))) (.ml (ims (rws rs))))) (some (.own true (pthT (.md (mdi intT (St.of rs).m))) (.md (mdi intT (St.of rs).m)))) (some (.val (.lst (rws rs)))) (some (.own false [[]] (.ml (ims (prs (srtM (St.of rs).m))))))
  simp only [jk_none] at hk
  simp [f_L_told, bodyP_ev, m_L_told, t_L_told_1, t_L_told_2, t_L_told_3, t_L_told_4, isB, h1, o1, o2, r1, r2, holdsS_ptr, hk, eSortItems_ev, kSI_int]
theorem told_im (rs : List Rw) (m : List (Int × Int)) (hm : m = (St.of rs).m) (hr : ∀ r ∈ rs, 0 ≤ r.d.addr) (hl : rs.length < 1000) : f_L_told [.im (.lst (rws rs)), .md (mdi intT m)] = .ok (.tmp (.ml (ims (prs (srtM m))))) [.im (.lst (rws rs)), .md (mdi intT m)] := by
  subst hm
  have h1 := memory_ev rs hr hl
  have o1 := ok_rws rs
  have o2 := ok_prs (srtM (St.of rs).m)
  have r1 := eqv_refl_all.2 _ _ o1
  have r2 := eqv_refl_all.2 _ _ o2
  obtain ⟨k', hk⟩ := told_loop (srtM (St.of rs).m) none (some (.val (.lst (rws rs)))) (some (.own true (pthT (.md (mdi intT (St.of rs).m))) (.md (mdi intT (St.of rs).m)))) (some (.val (.lst (rws rs)))) (some (.own false [[]] (.ml (ims (prs (srtM (St.of rs).m))))))
  simp only [jk_none] at hk
  simp [f_L_told, bodyP_ev, m_L_told, t_L_told_1, t_L_told_2, t_L_told_3, t_L_told_4, isB, h1, o1, o2, r1, r2, holdsS_ptr, hk, eSortItems_ev, kSI_int]
theorem rws_take (rs : List Rw) (h : Nat) : (rws rs).take h = rws (rs.take h) := by unfold rws; rw [List.map_take]
def E1 (ns : List Int) (h : Nat) (rs : List Rw) (a b c d f : Option W) : Env3 := [some (.val (.scr (ns.map W.int))), some (.own false [] (.ml (ims (rws rs)))), some (.own false [] (.md (mdi intT (St.of rs).m))), some (.own false [] (.md (mdi intT (St.of (rs.take h)).m))), some (.val (.int (ns.length : Int))), jk a, none, jk b, jk c, jk d, jk f]
theorem idx (ns : List Int) (i j : Nat) (h : 0 < ns.length) : ∃ y : Int, atI (ns.map W.int) (((i : Int) + (j : Int)) % (ns.length : Int)) = some (.int y) := by
  have hq : (i + j) % ns.length < ns.length := Nat.mod_lt _ h
  refine ⟨ns[(i + j) % ns.length], ?_⟩
  have := atI_scr ns _ hq
  rw [← this]; push_cast; rfl
theorem kid_int {k : Nat} {π : Path} {s : VL.Step} {x : Int} : kidEV (.ptr k π) s (intT x) = .im (.int x) := rfl
theorem at20 (x y : W) : atI [x, y] 0 = some x := rfl
theorem at21 (x y : W) : atI [x, y] 1 = some y := rfl
theorem at30 (x y z : W) : atI [x, y, z] 0 = some x := rfl
theorem at31 (x y z : W) : atI [x, y, z] 1 = some y := rfl
theorem turn (ns : List Int) (hn : ns.length ≤ 63) (i : Nat) (hi : i < ns.length) (rs : List Rw) (hl : rs.length = i) (hr : ∀ r ∈ rs, 0 ≤ r.d.addr) (a b c d f : Option W) : ∃ rs' a' b' c' d' f', rs'.length = i + 1 ∧ (∀ r ∈ rs', 0 ≤ r.d.addr) ∧ Turn (gName 5) b_law_2 (.im (.int (0 + (i : Int)))) (E1 ns (ns.length / 2) rs a b c d f) (E1 ns (ns.length / 2) rs' a' b' c' d' f') := by
  obtain ⟨y0, h0⟩ := idx ns i 0 (by omega)
  obtain ⟨y1, h1⟩ := idx ns i 1 (by omega)
  obtain ⟨y2, h2⟩ := idx ns i 2 (by omega)
  have hlen := fun a : Int => fMod_ev (i := a) (j := (ns.length : Int)) (by omega)
  have lc : ∀ s1 s2 s3 s4 s6 s7 s8 s9 : Option SV, lcF (gName 10) bYes b_law_1 [10] (intsE 0 3) [] [some (.val (.scr (ns.map W.int))), s1, s2, s3, s4, some (.val (.int i)), s6, s7, s8, s9, none] = some (ims [W.int y0, .int y1, .int y2], [some (.val (.scr (ns.map W.int))), s1, s2, s3, s4, some (.val (.int i)), s6, s7, s8, s9, none]) := by
    intro s1 s2 s3 s4 s6 s7 s8 s9
    have st : ∀ (j : Nat) (y : Int), atI (ns.map W.int) (((i : Int) + (j : Int)) % (ns.length : Int)) = some (.int y) → LcStep (gName 10) bYes b_law_1 [10] (.im (.int j)) [some (.val (.scr (ns.map W.int))), s1, s2, s3, s4, some (.val (.int i)), s6, s7, s8, s9, none] (some (.im (.int y))) := by
      intro j y hy
      exact LcStep.yes (e1 := [some (.val (.scr (ns.map W.int))), s1, s2, s3, s4, some (.val (.int i)), s6, s7, s8, s9, some (.val (.int j))]) (by simp) (by simp; rfl) (by simp [b_law_1, hlen, hy]; exact ⟨rfl, rfl⟩) (by simp) (by simp)
    have e : intsE 0 3 = [.im (.int (0 : Nat)), .im (.int (1 : Nat)), .im (.int (2 : Nat))] := rfl
    rw [e, (st 0 y0 h0).go _ _ (by simp), (st 1 y1 h1).go _ _ (by simp), (st 2 y2 h2).go _ _ (by simp)]
    simp
  obtain ⟨d0, hd, hde⟩ := deed_ev y0 y1 y2 (St.of rs).m
  simp only [cells] at hde
  have q1 := St.of_len rs
  have q2 := St.of_len (rs.take (ns.length / 2))
  have q3 : (rs.take (ns.length / 2)).length ≤ rs.length := by rw [List.length_take]; omega
  have l1 : (St.of rs).m.length < 10000000 := by omega
  have l2 : (St.of (rs.take (ns.length / 2))).m.length < 10000000 := by omega
  have l3 : rs.length < 10000000 := by omega
  have hat : atI d0.plain 1 = some (.int d0.addr) := by cases d0 <;> simp [Dd.plain, Dd.addr, atI, ixN]
  have hfd : (mget d0.addr (St.of rs).m).getD 0 = found (St.of rs).m d0 := rfl
  have hmp : mget d0.addr (mput d0.addr (d0.behind (found (St.of rs).m d0)) (St.of rs).m) = some (d0.behind (found (St.of rs).m d0)) := by simp
  obtain ⟨v, hv⟩ : ∃ v : Int, v = (if y0 / 4 % 2 = 0 then found (St.of rs).m d0 % 1000000000000000000000000000000000000000000000000000000000000 else val y0) := ⟨_, rfl⟩
  refine ⟨rs ++ [⟨y1 % 16, d0, v⟩], some (.int i), some (.lst [.int y0, .int y1, .int y2]), some (.tup d0.plain), some (.int (found (St.of rs).m d0)), f, by simp [hl], fun r hr2 => ?_, Turn.im (by simp [E1]; rfl) ?_⟩
  · rcases List.mem_append.mp hr2 with h | h
    · exact hr r h
    · simp at h; subst h; exact hd
  have hy : y0 / 4 % 2 = 0 ∨ y0 / 4 % 2 = 1 := by omega
  by_cases hh : i < ns.length / 2
  · have e1 : rs.take (ns.length / 2) = rs := List.take_of_length_le (by omega)
    have e2 : (rs ++ [(⟨y1 % 16, d0, v⟩ : Rw)]).take (ns.length / 2) = rs ++ [(⟨y1 % 16, d0, v⟩ : Rw)] := List.take_of_length_le (by simp; omega)
    have hhi : (i : Int) < (ns.length : Int) / 2 := by omega
    rcases hy with hy | hy
    · have hv0 : found (St.of rs).m d0 % 1000000000000000000000000000000000000000000000000000000000000 = v := by rw [hv, if_pos hy]
      simp [b_law_2, u1_law_1, u1_law_2, u1_law_3, u1_law_4, E1, lc, hde, hat, hfd, hy, hv0, kid_int, e1, e2, hhi, l1, l2, l3, behind_ev, St.of_snoc, St.up, rws, Rw.w, hmp, at20, at21, at30, at31, val_ev]
    · have hv0 : val y0 = v := by rw [hv, if_neg (by omega)]
      simp [b_law_2, u1_law_1, u1_law_2, u1_law_3, u1_law_4, E1, lc, hde, hat, hfd, hy, hv0, kid_int, e1, e2, hhi, l1, l2, l3, behind_ev, St.of_snoc, St.up, rws, Rw.w, hmp, at20, at21, at30, at31, val_ev]
  · have e2 : (rs ++ [(⟨y1 % 16, d0, v⟩ : Rw)]).take (ns.length / 2) = rs.take (ns.length / 2) := by rw [List.take_append_of_le_length (by omega)]
    have hhi : ¬ (i : Int) < (ns.length : Int) / 2 := by omega
    rcases hy with hy | hy
    · have hv0 : found (St.of rs).m d0 % 1000000000000000000000000000000000000000000000000000000000000 = v := by rw [hv, if_pos hy]
      simp [b_law_2, u1_law_1, u1_law_2, u1_law_3, u1_law_4, E1, lc, hde, hat, hfd, hy, hv0, kid_int, e2, hhi, l1, l2, l3, behind_ev, St.of_snoc, St.up, rws, Rw.w, hmp, at20, at21, at30, at31, val_ev]
    · have hv0 : val y0 = v := by rw [hv, if_neg (by omega)]
      simp [b_law_2, u1_law_1, u1_law_2, u1_law_3, u1_law_4, E1, lc, hde, hat, hfd, hy, hv0, kid_int, e2, hhi, l1, l2, l3, behind_ev, St.of_snoc, St.up, rws, Rw.w, hmp, at20, at21, at30, at31, val_ev]
def kRv (x : Option T) (ob : EV) (env : Env3) : Option (EV × Env3) := match x with
  | some (.ml xs) => (putE false ob (.ml xs.reverse) env).map fun e => (.im .non, e)
  | _ => none
theorem rRev3_ev (ob : EV) (env : Env3) : rRev3 ob [] env = kRv (rd env ob) ob env := by
  unfold rRev3 kRv
  cases rd env ob with
  | none => rfl
  | some x => cases x <;> rfl
theorem kRv_ml (xs : List T) (ob : EV) (env : Env3) : kRv (some (.ml xs)) ob env = (putE false ob (.ml xs.reverse) env).map fun e => (.im .non, e) := rfl
theorem isN_lst (xs : List W) : Hd.isN (.lst xs) = false := rfl
theorem law_ok (ns : List Int) (hn : ns.length ≤ 63) : ∃ ts, f_law [.im (.scr (ns.map W.int))] = .ok (.im (.bl true)) ts := by
  obtain ⟨env, h1, rs, a, b, c, d, f, hl, hr, h2⟩ := forF_range (tg := gName 5) (b := b_law_2) (lo := 0) ns.length (fun n env => ∃ rs a b c d f, rs.length = n ∧ (∀ r ∈ rs, 0 ≤ r.d.addr) ∧ env = E1 ns (ns.length / 2) rs a b c d f) (E1 ns (ns.length / 2) [] none none none none none)
    (by
      rintro i env hi ⟨rs, a, b, c, d, f, hl, hr, rfl⟩
      obtain ⟨rs', a', b', c', d', f', hl', hr', ht⟩ := turn ns hn i hi rs hl hr a b c d f
      exact ⟨_, ht, rs', a', b', c', d', f', hl', hr', rfl⟩)
    ⟨[], _, _, _, _, _, rfl, (fun _ h => nomatch h), rfl⟩
  subst h2
  have e0 : St.of [] = ⟨[], [], 0⟩ := rfl
  have e1 : rws [] = [] := rfl
  simp only [E1, jk_none, e0, e1, List.take_nil, mdi_nil, iw_nil, ims_nil] at h1
  have hb : -1000000000 ≤ (ns.length : Int) ∧ (ns.length : Int) ≤ 1000000000 := by omega
  have hm : (if (98 : Int) < ns.length then (98 : Int) else ns.length) = ns.length := if_neg (by omega)
  have t1 := told_ev rs hr (by omega)
  have t2 := told_im (rs.take (ns.length / 2)) _ rfl (fun r q => hr r (List.mem_of_mem_take q)) (by rw [List.length_take]; omega)
  have ct : cutA (rws rs) none (some ((ns.length : Int) / 2)) = rws (rs.take (ns.length / 2)) := by
    rw [show (ns.length : Int) / 2 = ((ns.length / 2 : Nat) : Int) by omega, cutA_take, rws_take]
  have q1 := St.of_len rs
  have l1 : (St.of rs).m.length < 10000000 := by omega
  have l2 : (prs (srtM (St.of rs).m)).length = (St.of rs).m.length := by unfold prs srtM; rw [List.length_map, (List.mergeSort_perm _ _).length_eq]
  have l3 : (prs (srtM (St.of rs).m)).length < 10000000 := by omega
  have l4 : (mdi intT (St.of rs).m).length = (St.of rs).m.length := by unfold mdi; rw [List.length_map]
  have hD : lenD (T.md (mdi intT (St.of rs).m)) = some (St.of rs).m.length := by
    unfold lenD
    simp [l4]
    omega
  exact ⟨[.im (.scr (ns.map W.int))], by simp [f_law, bodyF_ev, m_law, t_law_1, t_law_2, t_law_3, t_law_4, t_law_5, t_law_6, t_law_7, t_law_8, t_law_9, hm, hb.1, hb.2, h1, t1, t2, ct, l1, l2, l3, l4, isN_lst, rRev3_ev, kRv_ml, hD]⟩
end K51
namespace K51
open PySem L2 PyProof.Rows VL
end K51
open PySem PySem.W PySem.Calls PyProof.Rows
theorem K51.holds_of (law_ok : ∀ ns : List Int, ns.length ≤ 63 → ∃ ts, K51.f_law [.im (.scr (ns.map VL.W.int))] = .ok (.im (.bl true)) ts) : PySem.Challenge.rw_linewarden_k51_memory_behind_a_trail.Holds := by
  w_on; o_law
  refine HandSHeadRun.head_any (r := OpenLaw.row PySem.Challenge.rw_linewarden_k51_memory_behind_a_trail) (q := view (OpenLaw.row PySem.Challenge.rw_linewarden_k51_memory_behind_a_trail).prog [21]) (H := K51.hk) (ob := K51.ob) (M := 9000) (loose := K51.loose) (d := HandSHeadRun.topDef (OpenLaw.row PySem.Challenge.rw_linewarden_k51_memory_behind_a_trail).prog 21) (kwd := []) K51.ob_eq
    (by kernel_rfl) (fun s => by kernel_rfl) K51.run (by kernel_rfl) (by kernel_rfl) (by kernel_rfl) (by rfl) (by first | assumption | decide +kernel) (by decide +kernel) ⟨rfl, rfl, rfl, rfl, rfl, by decide +kernel⟩ ?hw ?hc
  case hw => w_witness2
  case hc =>
    refine VL.walk_ofX (l := PySem.Challenge.rw_linewarden_k51_memory_behind_a_trail) (n := 63) (k := 8) (x := "_law_script") rfl (by decide) (by kernel_rfl) ⟨rfl, by decide, by decide⟩ ?F
    intro w mg fa h Y G hmg0
    obtain ⟨K, KX, c⟩ := Y
    have hmg : mg ("law" : PySem.Str) = some (.ref fa) := by
      have e : (HandSHeadRun.topDef (OpenLaw.row PySem.Challenge.rw_linewarden_k51_memory_behind_a_trail).prog 21).name = ("law" : PySem.Str) := by kernel_rfl
      rw [← e]
      exact hmg0
    obtain ⟨fd, hb, hF⟩ := K51.facts (P := (PySem.Challenge.rw_linewarden_k51_memory_behind_a_trail).prog) (w := w) KX G hmg c
    exact ⟨K, fd, K51.f_law, KX, hb, law_ok, hF⟩
theorem PySem.Challenge.cw_linewarden_k51_memory_behind_a_trail_holds : PySem.Challenge.rw_linewarden_k51_memory_behind_a_trail.Holds :=
  K51.holds_of K51.law_ok
#print axioms PySem.Challenge.cw_linewarden_k51_memory_behind_a_trail_holds
