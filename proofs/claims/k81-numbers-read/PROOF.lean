import PyProof.Rows.All
import Wide.All
import OpenK.AllK
import Wide.FinOn
import HandS.ForMost
import HandS.ForExc
import HandS.DictTup
import HandS.SortKw
import HandS.Deep
import HandS.Defaults
import HandS.IsInst
import KE.KDictKeyed
import KE.KLam
import HandS.Wide
import HandS.TupAny
import HandS.Text
import HandS.Comp
import HandS.Rev
import HandS.Zip
import HandS.Small
import HandS.HeadHook2
import HandS.Iter
import HandS.ClsMeth
import HandS.ExcIs
import HandS.HeadHook4
import HandS.HeadEnd
import HandS.Ends
import HandS.Head0
import HandS.Head1
import HandS.Head2
import KE.KDictList
import HandS.Conv
import KE.KDictSum
import HandS.RevRange
import PyProof.FactsAll.range_iterator_1
import KE.KDictDisplayH
import HandS.ExcValue
import HandS.Exc
import KE.KItemsList
import KE.KDictOf
import HandS.SetFor
import KE.SortCalls
import KE.SortData
import KE.SortKeyHeap
import KE.SortLaws
import HandS.Lambda
import HandS.EndTab
import PyProof.StrOps2
import KE.KIntText
import PyProof.Rows.StrIntSpec
import PySem.Challenge.RW_linewarden_k81_numbers_read
set_option Elab.async false
set_option linter.all false
set_option maxRecDepth 100000
set_option maxHeartbeats 4000000
set_option synthInstance.maxSize 20000
set_option synthInstance.maxHeartbeats 4000000
namespace VL
open PySem L2 PyProof.Rows
def isx (c D : String) : Bool := c == D || D == "WardenError"
def xtabB (K : PySem.W.Frag) (ns : List String) : Bool :=
  (ns.all fun c => He.eqO (PySem.W.findIn K (.ref (He.ga K (Str.ofString c))) "__getattribute__") (some (some (.builtin "BaseException.__getattribute__"))) && (He.eqO (PySem.W.findIn K (.ref (He.ga K (Str.ofString c))) "__getattr__") (some none) &&
    (decide (PySem.W.subIn K (.ref (He.ga K (Str.ofString c))) (.type "BaseException") = some true) && (PySem.W.hasDictIn K (He.ga K (Str.ofString c)) && (He.eqO (PySem.W.findIn K (.ref (He.ga K (Str.ofString c))) "__class__") (some (some (.builtin "object.__class__"))) &&
    (He.eqO (PySem.W.specialIn K (.builtin "object.__class__") "__get__") (some (some (.builtin "getset_descriptor.__get__"))) && (decide (PySem.W.takesIn K (.builtin "object.__class__") = some true) && decide (PySem.W.mroIn K (He.ga K (Str.ofString c)) (.type "object") = some true)))))))) &&
  ((ns.all fun c => ns.all fun D => decide (PySem.W.kitOne K (.ref (He.ga K (Str.ofString c))) (.ref (He.ga K (Str.ofString D))) = some (isx c D))) &&
  ((ns.all fun c => decide (PySem.W.kitOne K (.ref (He.ga K (Str.ofString c))) (.type "ValueError") = some true)) &&
  (ns.all fun c => ns.all fun D => decide (PySem.W.exmOne K (.ref (He.ga K (Str.ofString c))) (.ref (He.ga K (Str.ofString D))) = some (isx c D)))))
structure SaysY (fa : List He.Fa) (fn : List He.DefD) (ex : PySem.W.Frag → Bool) (K : PySem.W.Frag) : Prop where
  d : He.SaysD fa fn K
  more : ex K = true
abbrev AlY : Type := He.AlD × Bool
def frY (g : Addr → Option Obj) (n : Nat) : PySem.W.Frag := He.frT g (cStatics :: He.asD g n)
def obsY (n : Nat) (fa : List He.Fa) (fn : List He.DefD) (ex : PySem.W.Frag → Bool) (g : Addr → Option Obj) : AlY := (He.obsD fa fn (frY g n), ex (frY g n))
def hookY (n : Nat) (fa : List He.Fa) (fn : List He.DefD) (ex : PySem.W.Frag → Bool) : PySem.W.Hook where
  α := AlY
  obs := fun s => obsY n fa fn ex s.heap.get?
  val := fun _ => (He.valD fn, true)
  says := fun _ h => ∃ K : PySem.W.Frag, K.In h ∧ SaysY fa fn ex K
  of := fun _ _ e => ⟨_, He.frT_in, ⟨congrArg (fun z : AlY => z.1) e, congrArg (fun z : AlY => z.2) e⟩⟩
  keeps := fun _ _ _ ⟨K, hK, c⟩ k => ⟨K, PySem.W.Frag.In.keeps hK k, c⟩
end VL
namespace K81
open PySem L2 PyProof.Rows VL
noncomputable section
def top (i : Nat) : Stmt := PySem.Challenge.pw_linewarden_k81_numbers_read.main.body.getD i (.Pass ⟨0, 0, 0, 0⟩)
abbrev xns : List String := ["WardenError", "NoWord", "NoLetter", "Early", "NoDeed", "Unawaited", "NoHouse", "NoPlace", "TooMany", "NoRow"]
abbrev s_L_bad : Stmt := top 18
abbrev s_read_number : Stmt := top 13
abbrev s_read_value : Stmt := top 14
abbrev s_L_refused : Stmt := top 17
abbrev s_L_whole : Stmt := top 16
abbrev s_L_one : Stmt := top 19
abbrev s_law : Stmt := top 20
def D_L_bad : He.DefD := ⟨("_law_bad", none), "_law_bad", "_law_bad", defArgs s_L_bad, defBody s_L_bad, defScope s_L_bad, [], []⟩
def D_read_number : He.DefD := ⟨("read_number", none), "read_number", "read_number", defArgs s_read_number, defBody s_read_number, defScope s_read_number, [], []⟩
def D_read_value : He.DefD := ⟨("read_value", none), "read_value", "read_value", defArgs s_read_value, defBody s_read_value, defScope s_read_value, [], []⟩
def D_L_refused : He.DefD := ⟨("_law_refused", none), "_law_refused", "_law_refused", defArgs s_L_refused, defBody s_L_refused, defScope s_L_refused, [], []⟩
def D_L_whole : He.DefD := ⟨("_law_whole", none), "_law_whole", "_law_whole", defArgs s_L_whole, defBody s_L_whole, defScope s_L_whole, [], []⟩
def D_L_one : He.DefD := ⟨("_law_one", none), "_law_one", "_law_one", defArgs s_L_one, defBody s_L_one, defScope s_L_one, [], []⟩
def D_law : He.DefD := ⟨("law", none), "law", "law", defArgs s_law, defBody s_law, defScope s_law, [], []⟩
def fn : List He.DefD := [D_L_bad, D_read_number, D_read_value, D_L_refused, D_L_whole, D_L_one, D_law]
def fa : List He.Fa := [.free "isinstance", .free "str", .free "len", .exc "NoRow", .glo "NoRow", .str "FIGURES" "0123456789", .free "int", .free "ValueError", .glo "NoWord", .glo "NoDeed", .glo "NoHouse", .glo "NoPlace", .glo "NoLetter", .glo "Early", .glo "TooMany", .glo "Unawaited", .glo "WardenError", .free "bool", .free "abs", .glo "read_number", .glo "read_value", .glo "_law_whole", .glo "_law_refused", .glo "_law_bad", .glo "_law_one", .glo "law"]
def exL (K : PySem.W.Frag) : List Bool := [xtabB K xns]
def ex (K : PySem.W.Frag) : Bool := (exL K).all id
abbrev R : PySem.W.OpenRow := PySem.W.OpenLaw.row PySem.Challenge.rw_linewarden_k81_numbers_read
abbrev hk : PySem.W.Hook := hookY 4 fa fn ex
def ob (s : PySem.W.SharedT) : AlY := obsY 4 fa fn ex (HandSHeadRun.getT s)
def loose0 : List PySem.Str := ["WardenError", "NoWord", "NoLetter", "Early", "NoDeed", "Unawaited", "NoHouse", "NoPlace", "TooMany", "NoRow", "FIGURES", "read_number", "read_value", "_law_whole", "_law_refused", "_law_bad", "_law_one"]
def loose : List PySem.Str := loose0
theorem run (w : World) : HandSHeadRun.RunEq R (PySem.W.view R.prog [20]) hk ob 9000 loose w := by
  intro os
  kernel_rfl
end
end K81
namespace VL
open PySem L2
inductive W where
  | non | bl (b : Bool) | int (i : Int) | str (s : String)
  | tup (xs : List W) | lst (xs : List W) | scr (xs : List W) | ktp (xs : List W)
  | ins (C : String) (fs : List (String × W))
inductive Ky where
  | i (n : Int) | s (x : String)
  deriving DecidableEq
inductive T where
  | im (w : W)
  | ml (xs : List T)
  | md (kvs : List (Ky × T))
  | mt (kvs : List (W × W))
  | mi (C : String) (fs : List (String × T))
  | tp (xs : List T)
inductive D where
  | nd (a : Option Addr) (o : Bool) (ds : List D)
abbrev D.z : D := .nd none false []
inductive Step where
  | idx (n : Nat) | key (k : Ky) | fld (f : String)
  deriving DecidableEq
abbrev Path := List Step
mutual
def W.nk : W → NestedKey
  | .bl b => .num (if b = true then 1 else 0)
  | .int i => .num i
  | .str s => .text (Str.ofString s)
  | .tup xs => .tup (W.nks xs)
  | _ => .none
def W.nks : List W → List NestedKey
  | [] => []
  | x :: xs => W.nk x :: W.nks xs
end
structure Gm where
  P : Program
  w : World
  K : PySem.W.Frag
  cA : String → Addr
  xa : Option (Addr × String)
  tb : Option Addr
def keyV : Ky → V
  | .i n => .int n
  | .s x => .str (Str.ofString x)
def keyL : Ky → Leaf
  | .i n => .num n
  | .s x => .text (Str.ofString x)
def dO (p : Addr) (ob : Obj) : HO := .ext fun h => h.get? p = some ob
structure IsDict (p : Addr) (ob : Obj) (es : List DictEntry) : Prop where
  low : (p == sysModules) = false
  ex : ob.ExactDict
  da : ∃ ep, ob.data = .dict es.toArray ep
  le : es.length ≤ sizeLine
def EntK (G : Gm) : List Ky → List V → List DictEntry → Prop
  | [], us, es => us = [] ∧ es = []
  | k :: ks, us, es => ∃ u r e er, us = u :: r ∧ es = e :: er ∧ RelV (keyV k) e.key ∧ e.hash = (leafKind G.P G.w).hash (keyL k) ∧ RelV u e.val ∧ EntK G ks r er
def SqF (K : PySem.W.Frag) (H : Hp) (a : Addr) (xs : List V) : Prop :=
  (∃ o, H a = some (.frz o (.lst xs))) ∨
    ∃ (o : Obj) (its : Array Value) (n : Nat), K.lookup a = some o ∧ o.cls = .type "list" ∧ o.dict = none ∧ o.data = .seq its n ∧ its.size ≤ sizeLine ∧ Vals xs its.toList
theorem SqF.seq {K : PySem.W.Frag} {H : Hp} {a : Addr} {xs : List V} (h : SqF K H a xs) : SqL K H a xs := h.elim (fun h => .inl (.inr h)) .inr
section
variable (G : Gm) (Z : Addr → Prop) (H : Hp)
mutual
def Rep : W → V → Prop
  | .non, v => v = .non
  | .bl b, v => v = .bl b
  | .int i, v => v = .int i
  | .str s, v => v = .str (Str.ofString s)
  | .tup xs, v => ∃ p vs, v = .ref p ∧ H p = some (.tup vs) ∧ RepL xs vs
  | .lst xs, v => ∃ p vs, v = .ref p ∧ Z p ∧ H p = some (.lst vs) ∧ RepL xs vs
  | .scr xs, v => ∃ p vs, v = .ref p ∧ SqF G.K H p vs ∧ RepL xs vs
  | .ktp xs, v => ∃ p vs, v = .ref p ∧ SqT G.K H p vs ∧ RepL xs vs
  | .ins C fs, v => ∃ p dx vs, v = .ref p ∧ Z p ∧ H p = some (.ins (G.cA C) dx vs) ∧ RepF fs vs
def RepL : List W → List V → Prop
  | [], vs => vs = []
  | x :: xs, vs => ∃ v r, vs = v :: r ∧ Rep x v ∧ RepL xs r
def RepF : List (String × W) → List (Str × V) → Prop
  | [], vs => vs = []
  | (f, x) :: xs, vs => ∃ v r, vs = (Str.ofString f, v) :: r ∧ Rep x v ∧ RepF xs r
end
mutual
def W.kp : W → Bool
  | .non => true
  | .bl _ => true
  | .int _ => true
  | .str _ => true
  | .tup xs => W.kps xs
  | _ => false
def W.kps : List W → Bool
  | [] => true
  | x :: xs => W.kp x && W.kps xs
end
def hkW : W → Bool
  | .tup xs => W.kps xs && decide ((W.nk (.tup xs)).depth ≤ 8)
  | _ => false
def EntT : List (W × W) → List DictEntry → Prop
  | [], es => es = []
  | (k, x) :: r, es => ∃ b u e er, es = e :: er ∧ e.key = .ref b ∧ Rep G Z H k (.ref b) ∧ hkW k = true ∧ e.hash = (nestedKind G.P G.w).hash (W.nk k) ∧ RelV u e.val ∧ Rep G Z H x u ∧ EntT r er
mutual
def RepT : T → V → D → Prop
  | .im w, v, d => d = .z ∧ Rep G Z H w v
  | .ml xs, v, d => ∃ p vs ds, v = .ref p ∧ d = .nd (some p) true ds ∧ H p = some (.lst vs) ∧ RepTL xs vs ds
  | .md kvs, v, d => ∃ p ob es us ds, v = .ref p ∧ d = .nd (some p) true ds ∧ H p = some (dO p ob) ∧ (IsDict p ob es ∧ EntK G (kvs.map (·.1)) us es ∧ (kvs.map (·.1)).Nodup) ∧ RepTK kvs us ds
  | .mt kvs, v, d => ∃ p ob es, v = .ref p ∧ d = .nd (some p) true [] ∧ H p = some (dO p ob) ∧ IsDict p ob es ∧ EntT G Z H kvs es ∧ (kvs.map fun q => W.nk q.1).Nodup
  | .mi C fs, v, d => ∃ p dx vs ds, v = .ref p ∧ d = .nd (some p) true ds ∧ (H p = some (.ins (G.cA C) dx vs) ∧ (fs.map (·.1)).Nodup) ∧ RepTF fs vs ds
  | .tp xs, v, d => ∃ p vs ds, v = .ref p ∧ d = .nd (some p) false ds ∧ H p = some (.tup vs) ∧ RepTL xs vs ds
def RepTL : List T → List V → List D → Prop
  | [], vs, ds => vs = [] ∧ ds = []
  | x :: xs, vs, ds => ∃ v r d e, vs = v :: r ∧ ds = d :: e ∧ RepT x v d ∧ RepTL xs r e
def RepTK : List (Ky × T) → List V → List D → Prop
  | [], vs, ds => vs = [] ∧ ds = []
  | (k, x) :: xs, vs, ds => ∃ v r d e, vs = v :: r ∧ ds = d :: e ∧ RepT x v d ∧ RepTK xs r e
def RepTF : List (String × T) → List (Str × V) → List D → Prop
  | [], vs, ds => vs = [] ∧ ds = []
  | (f, x) :: xs, vs, ds => ∃ v r d e, vs = (Str.ofString f, v) :: r ∧ ds = d :: e ∧ RepT x v d ∧ RepTF xs r e
end
end
mutual
def fp : D → List Addr
  | .nd a o ds => (if o = true then a.toList else []) ++ fps ds
def fps : List D → List Addr
  | [] => []
  | d :: ds => fp d ++ fps ds
end
theorem fp_z : fp D.z = [] := by simp [D.z, fp, fps]
def T.kids : T → List T
  | .ml xs => xs
  | .tp xs => xs
  | .md kvs => kvs.map (·.2)
  | .mi _ fs => fs.map (·.2)
  | _ => []
def T.pos : T → Step → Option Nat
  | .ml _, .idx n => some n
  | .tp _, .idx n => some n
  | .md kvs, .key k => kvs.findIdx? fun q => decide (q.1 = k)
  | .mi _ fs, .fld f => fs.findIdx? fun q => decide (q.1 = f)
  | _, _ => none
def setV {κ α : Type} : Nat → α → List (κ × α) → List (κ × α)
  | _, _, [] => []
  | 0, x, (k, _) :: r => (k, x) :: r
  | n + 1, x, q :: r => q :: setV n x r
def T.setKid : T → Nat → T → T
  | .ml xs, n, x => .ml (xs.set n x)
  | .tp xs, n, x => .tp (xs.set n x)
  | .md kvs, n, x => .md (setV n x kvs)
  | .mi C fs, n, x => .mi C (setV n x fs)
  | t, _, _ => t
theorem setV_map {κ α : Type} {x : α} : ∀ {l : List (κ × α)} {n : Nat}, (setV n x l).map (·.2) = (l.map (·.2)).set n x
  | [], _ => by simp [setV]
  | (k, y) :: r, 0 => by simp [setV]
  | (k, y) :: r, n + 1 => by simp [setV, setV_map]
theorem setV_keys {κ α : Type} {x : α} : ∀ {l : List (κ × α)} {n : Nat}, (setV n x l).map (·.1) = l.map (·.1)
  | [], _ => by simp [setV]
  | (k, y) :: r, 0 => by simp [setV]
  | (k, y) :: r, n + 1 => by simp [setV, setV_keys]
theorem find_keys {κ α β : Type} (p : κ → Bool) : ∀ {l : List (κ × α)} {m : List (κ × β)}, l.map (·.1) = m.map (·.1) → (l.findIdx? fun q => p q.1) = m.findIdx? fun q => p q.1
  | [], [], _ => rfl
  | [], _ :: _, h => by cases h
  | _ :: _, [], h => by cases h
  | (k, x) :: l, (j, y) :: m, h => by
    simp only [List.map_cons, List.cons.injEq] at h
    obtain ⟨rfl, h⟩ := h
    simp only [List.findIdx?_cons]
    rw [find_keys p h]
theorem kids_set {t : T} {n : Nat} {x : T} : (t.setKid n x).kids = t.kids.set n x := by
  cases t <;> simp [T.setKid, T.kids, setV_map]
theorem pos_set {t : T} {n : Nat} {x : T} {s : Step} : (t.setKid n x).pos s = t.pos s := by
  cases t <;> cases s <;> try rfl
  · exact find_keys (fun k => decide (k = _)) setV_keys
  · exact find_keys (fun k => decide (k = _)) setV_keys
def T.kid (t : T) (s : Step) : Option T := (t.pos s).bind fun i => t.kids[i]?
def T.getP : T → Path → Option T
  | t, [] => some t
  | t, s :: π => (t.kid s).bind fun c => c.getP π
def T.setP : T → Path → T → Option T
  | _, [], x => some x
  | t, s :: π, x => (t.pos s).bind fun i => (t.kids[i]?).bind fun c => (c.setP π x).map fun c' => t.setKid i c'
def adr : T → D → Path → Option Addr
  | _, .nd a _ _, [] => a
  | t, .nd _ _ ds, s :: π => (t.pos s).bind fun i => (t.kids[i]?).bind fun c => (ds[i]?).bind fun e => adr c e π
def lamQ : Str := Str.ofString "House.picture.<locals>.<lambda>"
def TabF (H : Hp) (P : Addr) : Prop := ∃ ps : Array Value, H P = some (.tbl ps) ∧ TriplesOk ps.toList ∧
  ∀ (pos : Pos) (cv : Value), codeAmong pos ps.toList = some cv → ∃ (c : Addr) (oc : Obj) (vs : Array Value) (t : Tok), cv = .ref c ∧ H c = some (.frz oc (.own c)) ∧ oc.data = .fields vs ∧ vs[1]? = some (.str lamQ t)
structure FK (H H' : Hp) : Prop where
  f : ∀ b o u, H b = some (.frz o u) → H' b = some (.frz o u)
  t : ∀ P, TabF H P → TabF H' P
theorem FK.refl {H : Hp} : FK H H := ⟨fun _ _ _ h => h, fun _ h => h⟩
theorem FK.trans {H1 H2 H3 : Hp} (a : FK H1 H2) (b : FK H2 H3) : FK H1 H3 := ⟨fun c o u h => b.f c o u (a.f c o u h), fun P h => b.t P (a.t P h)⟩
theorem FK.of {H H' : Hp} (f : ∀ b o u, H b = some (.frz o u) → H' b = some (.frz o u)) (t : ∀ b ps, H b = some (.tbl ps) → H' b = some (.tbl ps)) : FK H H' := by
  refine ⟨f, fun P h => ?_⟩
  obtain ⟨ps, h1, h2, h3⟩ := h
  refine ⟨ps, t _ _ h1, h2, fun pos cv hc => ?_⟩
  obtain ⟨c, oc, vs, tk, e1, e2, e3, e4⟩ := h3 pos cv hc
  exact ⟨c, oc, vs, tk, e1, f _ _ _ e2, e3, e4⟩
theorem FK.upd {H : Hp} {p : Addr} {o : HO} (h : ∀ x, H p = some x → (∀ b u, x ≠ .frz b u) ∧ ∀ ps, x ≠ .tbl ps) : FK H (L2.upd H p o) := by
  have ne : ∀ {b : Addr} {x : HO}, H b = some x → ((∃ c u, x = .frz c u) ∨ ∃ ps, x = .tbl ps) → b ≠ p := fun {b x} e q z => by
    subst z
    obtain ⟨h1, h2⟩ := h x e
    rcases q with ⟨c, u, q⟩ | ⟨ps, q⟩
    · exact h1 c u q
    · exact h2 ps q
  exact FK.of (fun b c u e => by rw [upd_ne (ne e (.inl ⟨_, _, rfl⟩))]; exact e) fun b ps e => by rw [upd_ne (ne e (.inr ⟨_, rfl⟩))]; exact e
theorem FK.mut {H : Hp} {p : Addr} {x o : HO} (h : H p = some x) (m : Mut (some x)) : FK H (L2.upd H p o) := FK.upd fun y e => by
  rw [h] at e; cases e
  exact ⟨fun b u q => by subst q; exact m.elim, fun ps q => by subst q; exact m.elim⟩
theorem FK.new {H : Hp} {p : Addr} {o : HO} (h : H p = none) : FK H (L2.upd H p o) := FK.upd fun y e => by rw [h] at e; cases e
def Ob (H : Hp) (p : Addr) : Prop := ∃ o, H p = some o ∧ ∀ ps, o ≠ .tbl ps
theorem Ob.ex {H : Hp} {p : Addr} (h : Ob H p) : ∃ o, H p = some o := let ⟨o, e, _⟩ := h; ⟨o, e⟩
theorem Ob.mut {H : Hp} {p : Addr} {o : HO} (h : H p = some o) (m : Mut (some o)) : Ob H p := ⟨o, h, fun ps q => by subst q; exact m.elim⟩
theorem Ob.eq {H H' : Hp} {p : Addr} (h : Ob H p) (e : H' p = H p) : Ob H' p := let ⟨o, a, b⟩ := h; ⟨o, e.trans a, b⟩
structure KeepZ (Z : Addr → Prop) (H : Hp) (Z' : Addr → Prop) (H' : Hp) : Prop where
  z : ∀ p, Z p → Z' p ∧ H' p = H p
  tups : ∀ b xs, H b = some (.tup xs) → H' b = some (.tup xs)
  frzs : FK H H'
theorem KeepZ.refl {Z : Addr → Prop} {H : Hp} : KeepZ Z H Z H := ⟨fun _ h => ⟨h, rfl⟩, fun _ _ h => h, FK.refl⟩
theorem KeepZ.trans {Z1 Z2 Z3 : Addr → Prop} {H1 H2 H3 : Hp} (a : KeepZ Z1 H1 Z2 H2) (b : KeepZ Z2 H2 Z3 H3) : KeepZ Z1 H1 Z3 H3 :=
  ⟨fun p h => ⟨(b.z p (a.z p h).1).1, ((b.z p (a.z p h).1).2).trans (a.z p h).2⟩, fun c xs h => b.tups c xs (a.tups c xs h), a.frzs.trans b.frzs⟩
section
variable {G : Gm} {Z Z' : Addr → Prop} {H H' : Hp}
theorem sqT_keep (k : KeepZ Z H Z' H') {p : Addr} {vs : List V} (h : SqT G.K H p vs) : SqT G.K H' p vs := by
  rcases h with (h | ⟨o, h⟩) | h
  · exact .inl (.inl (k.tups _ _ h))
  · exact .inl (.inr ⟨o, k.frzs.f _ _ _ h⟩)
  · exact .inr h
mutual
theorem Rep.keep (k : KeepZ Z H Z' H') : ∀ {w : W} {v : V}, Rep G Z H w v → Rep G Z' H' w v
  | .non, _, h => h
  | .bl _, _, h => h
  | .int _, _, h => h
  | .str _, _, h => h
  | .tup xs, _, ⟨p, vs, e, q, r⟩ => ⟨p, vs, e, k.tups _ _ q, RepL.keep k r⟩
  | .lst xs, _, ⟨p, vs, e, q, q2, r⟩ => ⟨p, vs, e, (k.z p q).1, (k.z p q).2.trans q2, RepL.keep k r⟩
  | .scr xs, _, ⟨p, vs, e, q, r⟩ => ⟨p, vs, e, q.imp (fun ⟨o, q⟩ => ⟨o, k.frzs.f _ _ _ q⟩) id, RepL.keep k r⟩
  | .ktp xs, _, ⟨p, vs, e, q, r⟩ => ⟨p, vs, e, sqT_keep k q, RepL.keep k r⟩
  | .ins C fs, _, ⟨p, dx, vs, e, q, q2, r⟩ => ⟨p, dx, vs, e, (k.z p q).1, (k.z p q).2.trans q2, RepF.keep k r⟩
theorem RepL.keep (k : KeepZ Z H Z' H') : ∀ {xs : List W} {vs : List V}, RepL G Z H xs vs → RepL G Z' H' xs vs
  | [], _, h => h
  | x :: xs, _, ⟨v, r, e, a, b⟩ => ⟨v, r, e, Rep.keep k a, RepL.keep k b⟩
theorem RepF.keep (k : KeepZ Z H Z' H') : ∀ {xs : List (String × W)} {vs : List (Str × V)}, RepF G Z H xs vs → RepF G Z' H' xs vs
  | [], _, h => h
  | (f, x) :: xs, _, ⟨v, r, e, a, b⟩ => ⟨v, r, e, Rep.keep k a, RepF.keep k b⟩
end
theorem EntT.keep (k : KeepZ Z H Z' H') : ∀ {xs : List (W × W)} {es : List DictEntry}, EntT G Z H xs es → EntT G Z' H' xs es
  | [], _, h => h
  | (f, x) :: xs, _, ⟨b, u, e, er, h1, h2, h3, h4, h5, h6, h7, h8⟩ => ⟨b, u, e, er, h1, h2, Rep.keep k h3, h4, h5, h6, Rep.keep k h7, EntT.keep k h8⟩
theorem mem_fps {p : Addr} {d : D} : ∀ {ds : List D}, d ∈ ds → p ∈ fp d → p ∈ fps ds
  | e :: ds, h, q => by
    unfold fps
    rcases List.mem_cons.mp h with rfl | h
    · exact List.mem_append_left _ q
    · exact List.mem_append_right _ (mem_fps h q)
mutual
theorem RepT.keep (k : KeepZ Z H Z' H') : ∀ {t : T} {v : V} {d : D}, (∀ p ∈ fp d, H' p = H p) → RepT G Z H t v d → RepT G Z' H' t v d
  | .im w, _, _, _, ⟨e, q⟩ => ⟨e, Rep.keep k q⟩
  | .ml xs, _, _, u, ⟨p, vs, ds, e, e2, q, r⟩ => ⟨p, vs, ds, e, e2, (u p (by simp [e2, fp])).trans q, RepTL.keep k (fun x hx => u x (by simp [e2, fp, hx])) r⟩
  | .md xs, _, _, u, ⟨p, ob, es, us, ds, e, e2, q, a, r⟩ => ⟨p, ob, es, us, ds, e, e2, (u p (by simp [e2, fp])).trans q, a, RepTK.keep k (fun x hx => u x (by simp [e2, fp, hx])) r⟩
  | .mt xs, _, _, u, ⟨p, ob, es, e, e2, q, a, r, n⟩ => ⟨p, ob, es, e, e2, (u p (by simp [e2, fp])).trans q, a, EntT.keep k r, n⟩
  | .mi C xs, _, _, u, ⟨p, dx, vs, ds, e, e2, q, r⟩ => ⟨p, dx, vs, ds, e, e2, ⟨(u p (by simp [e2, fp])).trans q.1, q.2⟩, RepTF.keep k (fun x hx => u x (by simp [e2, fp, hx])) r⟩
  | .tp xs, _, _, u, ⟨p, vs, ds, e, e2, q, r⟩ => ⟨p, vs, ds, e, e2, k.tups _ _ q, RepTL.keep k (fun x hx => u x (by simp [e2, fp, hx])) r⟩
theorem RepTL.keep (k : KeepZ Z H Z' H') : ∀ {xs : List T} {vs : List V} {ds : List D}, (∀ p ∈ fps ds, H' p = H p) → RepTL G Z H xs vs ds → RepTL G Z' H' xs vs ds
  | [], _, _, _, h => h
  | x :: xs, _, _, u, ⟨v, r, d, e, e1, e2, a, b⟩ => ⟨v, r, d, e, e1, e2, RepT.keep k (fun x hx => u x (by simp [e2, fps, hx])) a, RepTL.keep k (fun x hx => u x (by simp [e2, fps, hx])) b⟩
theorem RepTK.keep (k : KeepZ Z H Z' H') : ∀ {xs : List (Ky × T)} {vs : List V} {ds : List D}, (∀ p ∈ fps ds, H' p = H p) → RepTK G Z H xs vs ds → RepTK G Z' H' xs vs ds
  | [], _, _, _, h => h
  | (_, x) :: xs, _, _, u, ⟨v, r, d, e, e1, e2, a, b⟩ => ⟨v, r, d, e, e1, e2, RepT.keep k (fun x hx => u x (by simp [e2, fps, hx])) a, RepTK.keep k (fun x hx => u x (by simp [e2, fps, hx])) b⟩
theorem RepTF.keep (k : KeepZ Z H Z' H') : ∀ {xs : List (String × T)} {vs : List (Str × V)} {ds : List D}, (∀ p ∈ fps ds, H' p = H p) → RepTF G Z H xs vs ds → RepTF G Z' H' xs vs ds
  | [], _, _, _, h => h
  | (_, x) :: xs, _, _, u, ⟨v, r, d, e, e1, e2, a, b⟩ => ⟨v, r, d, e, e1, e2, RepT.keep k (fun x hx => u x (by simp [e2, fps, hx])) a, RepTF.keep k (fun x hx => u x (by simp [e2, fps, hx])) b⟩
end
mutual
theorem RepT.there : ∀ {t : T} {v : V} {d : D}, RepT G Z H t v d → ∀ p ∈ fp d, ∃ o, H p = some o ∧ Mut (some o)
  | .im w, _, _, ⟨e, q⟩ => by simp [e, fp_z]
  | .ml xs, _, _, ⟨p, vs, ds, e, e2, q, r⟩ => fun x hx => by
    subst e2
    simp only [fp, reduceIte, eq_self, Option.toList_some, List.singleton_append, List.mem_cons] at hx
    rcases hx with rfl | hx
    · exact ⟨_, q, trivial⟩
    · exact RepTL.there r x hx
  | .md xs, _, _, ⟨p, ob, es, us, ds, e, e2, q, a, r⟩ => fun x hx => by
    subst e2
    simp only [fp, reduceIte, eq_self, Option.toList_some, List.singleton_append, List.mem_cons] at hx
    rcases hx with rfl | hx
    · exact ⟨_, q, trivial⟩
    · exact RepTK.there r x hx
  | .mt xs, _, _, ⟨p, ob, es, e, e2, q, a, r, n⟩ => fun x hx => by
    subst e2
    simp only [fp, reduceIte, eq_self, Option.toList_some, List.singleton_append, List.mem_cons, fps, List.not_mem_nil, or_false] at hx
    rw [hx]; exact ⟨_, q, trivial⟩
  | .mi C xs, _, _, ⟨p, dx, vs, ds, e, e2, q, r⟩ => fun x hx => by
    subst e2
    simp only [fp, reduceIte, eq_self, Option.toList_some, List.singleton_append, List.mem_cons] at hx
    rcases hx with rfl | hx
    · exact ⟨_, q.1, trivial⟩
    · exact RepTF.there r x hx
  | .tp xs, _, _, ⟨p, vs, ds, e, e2, q, r⟩ => fun x hx => by
    subst e2
    simp only [fp, Bool.false_eq_true, reduceIte, List.nil_append] at hx
    exact RepTL.there r x hx
theorem RepTL.there : ∀ {xs : List T} {vs : List V} {ds : List D}, RepTL G Z H xs vs ds → ∀ p ∈ fps ds, ∃ o, H p = some o ∧ Mut (some o)
  | [], _, _, ⟨_, e⟩ => by simp [e, fps]
  | x :: xs, _, _, ⟨v, r, d, e, e1, e2, a, b⟩ => fun y hy => by
    subst e2
    simp only [fps, List.mem_append] at hy
    rcases hy with h | h
    · exact RepT.there a y h
    · exact RepTL.there b y h
theorem RepTK.there : ∀ {xs : List (Ky × T)} {vs : List V} {ds : List D}, RepTK G Z H xs vs ds → ∀ p ∈ fps ds, ∃ o, H p = some o ∧ Mut (some o)
  | [], _, _, ⟨_, e⟩ => by simp [e, fps]
  | (_, x) :: xs, _, _, ⟨v, r, d, e, e1, e2, a, b⟩ => fun y hy => by
    subst e2
    simp only [fps, List.mem_append] at hy
    rcases hy with h | h
    · exact RepT.there a y h
    · exact RepTK.there b y h
theorem RepTF.there : ∀ {xs : List (String × T)} {vs : List (Str × V)} {ds : List D}, RepTF G Z H xs vs ds → ∀ p ∈ fps ds, ∃ o, H p = some o ∧ Mut (some o)
  | [], _, _, ⟨_, e⟩ => by simp [e, fps]
  | (_, x) :: xs, _, _, ⟨v, r, d, e, e1, e2, a, b⟩ => fun y hy => by
    subst e2
    simp only [fps, List.mem_append] at hy
    rcases hy with h | h
    · exact RepT.there a y h
    · exact RepTF.there b y h
end
def zipK {κ κ' : Type} (f : κ → κ') : List κ → List V → List (κ' × V)
  | k :: ks, v :: vs => (f k, v) :: zipK f ks vs
  | _, _ => []
def Shell (G : Gm) (Z : Addr → Prop) (H : Hp) (v : V) (us : List V) (a : Option Addr) (o : Bool) : T → Prop
  | .im w => a = none ∧ o = false ∧ us = [] ∧ Rep G Z H w v
  | .ml _ => ∃ p, v = .ref p ∧ a = some p ∧ o = true ∧ H p = some (.lst us)
  | .md kvs => ∃ p ob es, v = .ref p ∧ a = some p ∧ o = true ∧ H p = some (dO p ob) ∧ IsDict p ob es ∧ EntK G (kvs.map (·.1)) us es ∧ (kvs.map (·.1)).Nodup
  | .mt kvs => ∃ p ob es, v = .ref p ∧ a = some p ∧ o = true ∧ us = [] ∧ H p = some (dO p ob) ∧ IsDict p ob es ∧ EntT G Z H kvs es ∧ (kvs.map fun q => W.nk q.1).Nodup
  | .mi C fs => ∃ p dx, v = .ref p ∧ a = some p ∧ o = true ∧ H p = some (.ins (G.cA C) dx (zipK Str.ofString (fs.map (·.1)) us)) ∧ (fs.map (·.1)).Nodup
  | .tp _ => ∃ p, v = .ref p ∧ a = some p ∧ o = false ∧ H p = some (.tup us)
theorem repTK_iff : ∀ {xs : List (Ky × T)} {vs : List V} {ds : List D}, RepTK G Z H xs vs ds ↔ RepTL G Z H (xs.map (·.2)) vs ds
  | [], vs, ds => Iff.rfl
  | (k, x) :: xs, vs, ds => by
    constructor
    · rintro ⟨v, r, d, e, rfl, rfl, a, b⟩
      exact ⟨v, r, d, e, rfl, rfl, a, repTK_iff.mp b⟩
    · rintro ⟨v, r, d, e, rfl, rfl, a, b⟩
      exact ⟨v, r, d, e, rfl, rfl, a, repTK_iff.mpr b⟩
theorem repTF_iff : ∀ {xs : List (String × T)} {vs : List (Str × V)} {ds : List D}, RepTF G Z H xs vs ds ↔ ∃ us, vs = zipK Str.ofString (xs.map (·.1)) us ∧ RepTL G Z H (xs.map (·.2)) us ds
  | [], vs, ds => by
    constructor
    · rintro ⟨rfl, rfl⟩; exact ⟨[], rfl, rfl, rfl⟩
    · rintro ⟨us, rfl, rfl, rfl⟩; exact ⟨rfl, rfl⟩
  | (k, x) :: xs, vs, ds => by
    constructor
    · rintro ⟨v, r, d, e, rfl, rfl, a, b⟩
      obtain ⟨us, rfl, q⟩ := repTF_iff.mp b
      exact ⟨v :: us, rfl, v, us, d, e, rfl, rfl, a, q⟩
    · rintro ⟨us, rfl, v, us', d, e, rfl, rfl, a, q⟩
      exact ⟨v, _, d, e, rfl, rfl, a, repTF_iff.mpr ⟨us', rfl, q⟩⟩
theorem repT_iff : ∀ {t : T} {v : V} {d : D}, RepT G Z H t v d ↔ ∃ a o us ds, d = .nd a o ds ∧ Shell G Z H v us a o t ∧ RepTL G Z H t.kids us ds
  | .im w, v, d => by
    constructor
    · rintro ⟨rfl, r⟩; exact ⟨none, _, [], [], rfl, ⟨rfl, rfl, rfl, r⟩, rfl, rfl⟩
    · rintro ⟨a, o, us, ds, rfl, ⟨rfl, rfl, rfl, r⟩, _, rfl⟩; exact ⟨rfl, r⟩
  | .ml xs, v, d => by
    constructor
    · rintro ⟨p, vs, ds, rfl, rfl, q, r⟩; exact ⟨_, _, _, _, rfl, ⟨p, rfl, rfl, rfl, q⟩, r⟩
    · rintro ⟨a, o, us, ds, rfl, ⟨p, rfl, rfl, rfl, q⟩, r⟩; exact ⟨p, _, _, rfl, rfl, q, r⟩
  | .md xs, v, d => by
    constructor
    · rintro ⟨p, ob, es, us, ds, rfl, rfl, q, ⟨a1, a2, a3⟩, r⟩
      exact ⟨_, _, us, _, rfl, ⟨p, ob, es, rfl, rfl, rfl, q, a1, a2, a3⟩, repTK_iff.mp r⟩
    · rintro ⟨a, o, us, ds, rfl, ⟨p, ob, es, rfl, rfl, rfl, q, a1, a2, a3⟩, r⟩; exact ⟨p, ob, es, us, _, rfl, rfl, q, ⟨a1, a2, a3⟩, repTK_iff.mpr r⟩
  | .mt xs, v, d => by
    constructor
    · rintro ⟨p, ob, es, rfl, rfl, q, a, r, n⟩; exact ⟨_, _, [], _, rfl, ⟨p, ob, es, rfl, rfl, rfl, rfl, q, a, r, n⟩, rfl, rfl⟩
    · rintro ⟨a, o, us, ds, rfl, ⟨p, ob, es, rfl, rfl, rfl, rfl, q, a1, r, n⟩, _, rfl⟩; exact ⟨p, ob, es, rfl, rfl, q, a1, r, n⟩
  | .mi C xs, v, d => by
    constructor
    · rintro ⟨p, dx, vs, ds, rfl, rfl, q, r⟩
      obtain ⟨us, rfl, r2⟩ := repTF_iff.mp r
      exact ⟨_, _, _, _, rfl, ⟨p, dx, rfl, rfl, rfl, q.1, q.2⟩, r2⟩
    · rintro ⟨a, o, us, ds, rfl, ⟨p, dx, rfl, rfl, rfl, q, qn⟩, r⟩; exact ⟨p, dx, _, _, rfl, rfl, ⟨q, qn⟩, repTF_iff.mpr ⟨_, rfl, r⟩⟩
  | .tp xs, v, d => by
    constructor
    · rintro ⟨p, vs, ds, rfl, rfl, q, r⟩; exact ⟨_, _, _, _, rfl, ⟨p, rfl, rfl, rfl, q⟩, r⟩
    · rintro ⟨a, o, us, ds, rfl, ⟨p, rfl, rfl, rfl, q⟩, r⟩; exact ⟨p, _, _, rfl, rfl, q, r⟩
theorem RepTL.len : ∀ {xs : List T} {vs : List V} {ds : List D}, RepTL G Z H xs vs ds → vs.length = xs.length ∧ ds.length = xs.length
  | [], _, _, ⟨e, e2⟩ => by simp [e, e2]
  | x :: xs, _, _, ⟨v, r, d, e, e1, e2, a, b⟩ => by subst e1 e2; simp [(RepTL.len b).1, (RepTL.len b).2]
theorem RepTL.get : ∀ {xs : List T} {vs : List V} {ds : List D} {i : Nat} {x : T}, RepTL G Z H xs vs ds → xs[i]? = some x → ∃ v d, vs[i]? = some v ∧ ds[i]? = some d ∧ RepT G Z H x v d
  | y :: ys, _, _, 0, x, ⟨v, r, d, e, e1, e2, a, b⟩, h => by
    subst e1 e2
    rw [List.getElem?_cons_zero] at h; cases h
    exact ⟨v, d, rfl, rfl, a⟩
  | y :: ys, _, _, i + 1, x, ⟨v, r, d, e, e1, e2, a, b⟩, h => by
    subst e1 e2
    rw [List.getElem?_cons_succ] at h
    simpa using RepTL.get b h
theorem fps_append : ∀ {ds es : List D}, fps (ds ++ es) = fps ds ++ fps es
  | [], _ => rfl
  | d :: ds, es => by simp [fps, fps_append]
theorem RepTL.put : ∀ {xs : List T} {vs : List V} {ds : List D} {i : Nat} {x : T}, RepTL G Z H xs vs ds → xs[i]? = some x → ∃ v d out, vs[i]? = some v ∧ ds[i]? = some d ∧ RepT G Z H x v d ∧ (∀ e, (fps (ds.set i e)).Perm (out ++ fp e)) ∧
    (fps ds).Perm (out ++ fp d) ∧ ∀ Z' H' (k : KeepZ Z H Z' H') (o : ∀ p ∈ out, H' p = H p) (y : T) (e : D), RepT G Z' H' y v e → RepTL G Z' H' (xs.set i y) vs (ds.set i e)
  | y :: ys, _, _, 0, x, ⟨v, r, d, e, e1, e2, a, b⟩, h => by
    subst e1 e2
    rw [List.getElem?_cons_zero] at h; cases h
    refine ⟨v, d, fps e, rfl, rfl, a, fun e' => ?_, ?_, fun Z' H' k o y e' hy => ⟨v, r, e', e, rfl, rfl, hy, b.keep k o⟩⟩
    · simpa [fps] using List.perm_append_comm
    · simpa [fps] using List.perm_append_comm
  | y :: ys, _, _, i + 1, x, ⟨v, r, d, e, e1, e2, a, b⟩, h => by
    subst e1 e2
    rw [List.getElem?_cons_succ] at h
    obtain ⟨v', d', out, q1, q2, q3, q4, q5, q6⟩ := RepTL.put b h
    refine ⟨v', d', fp d ++ out, by simpa using q1, by simpa using q2, q3, fun e' => ?_, ?_, fun Z' H' k o y' e' hy => ⟨v, r, d, _, rfl, rfl, a.keep k fun p hp => o p (List.mem_append_left _ hp), q6 _ _ k (fun p hp => o p (List.mem_append_right _ hp)) _ _ hy⟩⟩
    · show (fp d ++ fps (e.set i e')).Perm _
      rw [List.append_assoc]; exact (q4 e').append_left _
    · show (fp d ++ fps e).Perm _
      rw [List.append_assoc]; exact q5.append_left _
theorem Shell.keep (k : KeepZ Z H Z' H') {v : V} {us : List V} {a : Option Addr} {o : Bool} (st : ∀ p, a = some p → o = true → H' p = H p) : ∀ {t : T}, Shell G Z H v us a o t → Shell G Z' H' v us a o t
  | .im _, ⟨e, e2, e3, r⟩ => ⟨e, e2, e3, r.keep k⟩
  | .ml _, ⟨p, e, e2, e3, q⟩ => ⟨p, e, e2, e3, (st p e2 e3).trans q⟩
  | .md _, ⟨p, ob, es, e, e2, e3, q, r⟩ => ⟨p, ob, es, e, e2, e3, (st p e2 e3).trans q, r⟩
  | .mt _, ⟨p, ob, es, e, e2, e4, e3, q, a, r, n⟩ => ⟨p, ob, es, e, e2, e4, e3, (st p e2 e4).trans q, a, r.keep k, n⟩
  | .mi _ _, ⟨p, dx, e, e2, e3, q, n⟩ => ⟨p, dx, e, e2, e3, (st p e2 e3).trans q, n⟩
  | .tp _, ⟨p, e, e2, e3, q⟩ => ⟨p, e, e2, e3, k.tups _ _ q⟩
theorem Shell.set {v : V} {us : List V} {a : Option Addr} {o : Bool} {n : Nat} {x : T} : ∀ {t : T}, Shell G Z H v us a o t → Shell G Z H v us a o (t.setKid n x)
  | .im _, h => h
  | .ml _, h => h
  | .md kvs, ⟨p, ob, es, e, e2, e3, q, a, b, c⟩ => ⟨p, ob, es, e, e2, e3, q, a, by rw [setV_keys]; exact b, by rw [setV_keys]; exact c⟩
  | .mt _, h => h
  | .mi _ fs, ⟨p, dx, e, e2, e3, q⟩ => ⟨p, dx, e, e2, e3, by rw [setV_keys]; exact q⟩
  | .tp _, h => h
theorem RepT.kidput {t x : T} {v : V} {d : D} {s : Step} (r : RepT G Z H t v d) (h : t.kid s = some x) : ∃ i a o ds u e out, t.pos s = some i ∧ t.kids[i]? = some x ∧ d = .nd a o ds ∧ ds[i]? = some e ∧ RepT G Z H x u e ∧ (fp d).Perm (out ++ fp e) ∧
    ∀ Z' H' (k : KeepZ Z H Z' H') (st : ∀ p ∈ out, H' p = H p) (y : T) (e' : D), RepT G Z' H' y u e' → RepT G Z' H' (t.setKid i y) v (.nd a o (ds.set i e')) ∧ (fp (.nd a o (ds.set i e'))).Perm (out ++ fp e') := by
  obtain ⟨i, h1, h2⟩ := Option.bind_eq_some_iff.mp h
  obtain ⟨a, o, us, ds, rfl, sh, rl⟩ := repT_iff.mp r
  obtain ⟨u, e, out, q1, q2, q3, q4, q5, q6⟩ := rl.put h2
  refine ⟨i, a, o, ds, u, e, (if o = true then a.toList else []) ++ out, h1, h2, rfl, q2, q3, ?_, fun Z' H' k st y e' hy => ⟨?_, ?_⟩⟩
  · simp only [fp]
    rw [List.append_assoc]; exact q5.append_left _
  · refine repT_iff.mpr ⟨a, o, us, _, rfl, (sh.keep k fun p hp ho => st p (by simp [hp, ho])).set, ?_⟩
    rw [kids_set]
    exact q6 _ _ k (fun p hp => st p (List.mem_append_right _ hp)) _ _ hy
  · simp only [fp]
    rw [List.append_assoc]; exact (q4 e').append_left _
theorem RepT.adr_in : ∀ {π : Path} {t : T} {v : V} {d : D} {a : Addr}, RepT G Z H t v d → adr t d π = some a → a ∈ fp d ∨ ∃ vs, H a = some (.tup vs)
  | [], t, v, d, a, r, h => by
    obtain ⟨b, o, us, ds, rfl, sh, rl⟩ := repT_iff.mp r
    have h' : b = some a := h
    subst h'
    cases t with
    | im w => cases sh.1
    | ml _ => obtain ⟨p, rfl, e, rfl, q⟩ := sh; cases e; exact .inl (by simp [fp])
    | md _ => obtain ⟨p, _, _, rfl, e, rfl, q⟩ := sh; cases e; exact .inl (by simp [fp])
    | mt _ => obtain ⟨p, _, _, rfl, e, rfl, q⟩ := sh; cases e; exact .inl (by simp [fp])
    | mi _ _ => obtain ⟨p, _, rfl, e, rfl, q⟩ := sh; cases e; exact .inl (by simp [fp])
    | tp _ => obtain ⟨p, rfl, e, rfl, q⟩ := sh; cases e; exact .inr ⟨_, q⟩
  | s :: π, t, v, d, a, r, h => by
    obtain ⟨b, o, us, ds, rfl, sh, rl⟩ := repT_iff.mp r
    simp only [adr] at h
    obtain ⟨i, h1, h⟩ := Option.bind_eq_some_iff.mp h
    obtain ⟨c, h2, h⟩ := Option.bind_eq_some_iff.mp h
    obtain ⟨e, h3, h⟩ := Option.bind_eq_some_iff.mp h
    obtain ⟨u, d', q1, q2, q3⟩ := rl.get h2
    rw [h3] at q2; cases q2
    rcases RepT.adr_in q3 h with z | z
    · exact .inl (by simp only [fp]; exact List.mem_append_right _ (mem_fps (List.mem_of_getElem? h3) z))
    · exact .inr z
theorem fps_split {i j : Nat} (hij : i ≠ j) : ∀ {ds : List D} {d e : D} {p : Addr}, (fps ds).Nodup → ds[i]? = some d → ds[j]? = some e → p ∈ fp d → p ∉ fp e := by
  intro ds
  induction ds generalizing i j with
  | nil => intro d e p _ h; simp at h
  | cons x xs ih =>
    intro d e p hn hi hj hp hq
    simp only [fps] at hn
    obtain ⟨n1, n2, n3⟩ := List.nodup_append.mp hn
    cases i with
    | zero =>
      cases j with
      | zero => exact hij rfl
      | succ j =>
        rw [List.getElem?_cons_zero] at hi; cases hi
        rw [List.getElem?_cons_succ] at hj
        exact n3 p hp p (mem_fps (List.mem_of_getElem? hj) hq) rfl
    | succ i =>
      rw [List.getElem?_cons_succ] at hi
      cases j with
      | zero =>
        rw [List.getElem?_cons_zero] at hj; cases hj
        exact n3 p hq p (mem_fps (List.mem_of_getElem? hi) hp) rfl
      | succ j =>
        rw [List.getElem?_cons_succ] at hj
        exact ih (by omega) n2 hi hj hp hq
theorem pos_inj {t : T} {s s2 : Step} {i : Nat} (h : t.pos s = some i) (h2 : t.pos s2 = some i) : s = s2 := by
  revert h h2
  cases t <;> cases s <;> cases s2 <;> simp only [T.pos] <;> intro p1 hp <;> try (first | (cases p1; done) | (cases hp; done))
  · cases p1; cases hp; rfl
  · obtain ⟨l1, a1, _⟩ := List.findIdx?_eq_some_iff_getElem.mp p1
    obtain ⟨l2, a2, _⟩ := List.findIdx?_eq_some_iff_getElem.mp hp
    rw [← of_decide_eq_true a1, ← of_decide_eq_true a2]
  · obtain ⟨l1, a1, _⟩ := List.findIdx?_eq_some_iff_getElem.mp p1
    obtain ⟨l2, a2, _⟩ := List.findIdx?_eq_some_iff_getElem.mp hp
    rw [← of_decide_eq_true a1, ← of_decide_eq_true a2]
  · cases p1; cases hp; rfl
theorem fps_get : ∀ {ds : List D} {i : Nat} {d : D}, (fps ds).Nodup → ds[i]? = some d → (fp d).Nodup
  | x :: xs, 0, d, h, e => by rw [List.getElem?_cons_zero] at e; cases e; simp only [fps] at h; exact (List.nodup_append.mp h).1
  | x :: xs, i + 1, d, h, e => by rw [List.getElem?_cons_succ] at e; simp only [fps] at h; exact fps_get (List.nodup_append.mp h).2.1 e
theorem RepT.lens : ∀ {π : Path} {t x : T} {v : V} {d : D}, RepT G Z H t v d → t.getP π = some x → ∃ u e out, RepT G Z H x u e ∧ (fp d).Perm (out ++ fp e) ∧ (∀ π', adr t d (π ++ π') = adr x e π') ∧ ((fp d).Nodup → ∀ ρ b, ¬ π <+: ρ → adr t d ρ = some b → b ∉ fp e) ∧
    ∀ Z' H' (k : KeepZ Z H Z' H') (o : ∀ p ∈ out, H' p = H p) (y : T) (e' : D), RepT G Z' H' y u e' → ∃ t' d', t.setP π y = some t' ∧ RepT G Z' H' t' v d' ∧ (fp d').Perm (out ++ fp e') ∧
      (∀ π', adr t' d' (π ++ π') = adr y e' π') ∧ ∀ ρ, ¬ π <+: ρ → adr t' d' ρ = adr t d ρ
  | [], t, x, v, d, r, h => by
    cases h
    refine ⟨v, d, [], r, by simp, fun _ => rfl, fun _ ρ b hn => absurd List.nil_prefix hn, fun Z' H' k o y e' hy => ⟨y, e', rfl, hy, by simp, fun _ => rfl, fun ρ hn => absurd (List.nil_prefix) hn⟩⟩
  | s :: π, t, x, v, d, r, h => by
    obtain ⟨c, h1, h2⟩ := Option.bind_eq_some_iff.mp (show (t.kid s).bind (fun c => c.getP π) = some x from h)
    obtain ⟨i, a, o, ds, u, e, out, p1, p2, rfl, p3, p4, p5, p6⟩ := r.kidput h1
    obtain ⟨u', e', out', q1, q2, q3, q0, q4⟩ := RepT.lens p4 h2
    refine ⟨u', e', out ++ out', q1, ?_, fun π' => ?_, fun hn ρ b hp hb hbe => ?_, fun Z' H' k st y e2 hy => ?_⟩
    · rw [List.append_assoc]; exact p5.trans (q2.append_left _)
    · show adr t (.nd a o ds) (s :: (π ++ π')) = _
      simp only [adr, p1, p2, p3, Option.bind_some]
      exact q3 π'
    · have sub : b ∈ fp e := q2.mem_iff.mpr (List.mem_append_right _ hbe)
      have ine : b ∈ fps ds := mem_fps (List.mem_of_getElem? p3) sub
      obtain ⟨ob, hob, mub⟩ := q1.there b hbe
      simp only [fp] at hn
      obtain ⟨n1, n2, n3⟩ := List.nodup_append.mp hn
      cases ρ with
      | nil =>
        rcases r.adr_in (π := []) hb with z | ⟨vs, z⟩
        · have hb' : a = some b := hb
          subst hb'
          simp only [fp] at z
          cases o with
          | true => exact n3 b (by simp) b ine rfl
          | false =>
            obtain ⟨_, o', us, ds', e0, sh, _⟩ := repT_iff.mp r
            cases e0
            cases t with
            | im w => cases sh.1
            | ml _ => obtain ⟨p, _, _, e2, _⟩ := sh; cases e2
            | md _ => obtain ⟨p, _, _, _, _, e2, _⟩ := sh; cases e2
            | mt _ => obtain ⟨p, _, _, _, _, e2, _⟩ := sh; cases e2
            | mi _ _ => obtain ⟨p, _, _, _, e2, _⟩ := sh; cases e2
            | tp _ => obtain ⟨p, _, e1, _, q⟩ := sh; cases e1; rw [q] at hob; cases hob; exact mub
        · rw [z] at hob; cases hob; exact mub
      | cons s2 ρ =>
        simp only [adr] at hb
        obtain ⟨j, h1', hb⟩ := Option.bind_eq_some_iff.mp hb
        obtain ⟨c2, h2', hb⟩ := Option.bind_eq_some_iff.mp hb
        obtain ⟨e2, h3', hb⟩ := Option.bind_eq_some_iff.mp hb
        by_cases hij : i = j
        · subst hij
          have := pos_inj p1 h1'
          subst this
          rw [p2] at h2'; cases h2'
          rw [p3] at h3'; cases h3'
          exact q0 (fps_get n2 p3) ρ b (fun hq => hp ((List.cons_prefix_cons).mpr ⟨rfl, hq⟩)) hb hbe
        · obtain ⟨_, _, us, ds', e0, sh, rl⟩ := repT_iff.mp r
          cases e0
          obtain ⟨v2, d2, w1, w2, w3⟩ := rl.get h2'
          rw [h3'] at w2; cases w2
          rcases w3.adr_in hb with z | ⟨vs, z⟩
          · exact fps_split hij n2 p3 h3' sub z
          · rw [z] at hob; cases hob; exact mub
    · obtain ⟨t', d', w1, w2, w3, w4, w5⟩ := q4 _ _ k (fun p hp => st p (List.mem_append_right _ hp)) _ _ hy
      obtain ⟨z1, z2⟩ := p6 _ _ k (fun p hp => st p (List.mem_append_left _ hp)) _ _ w2
      refine ⟨t.setKid i t', _, ?_, z1, ?_, fun π' => ?_, fun ρ hn => ?_⟩
      · simp only [T.setP, p1, p2, Option.bind_some, w1, Option.map_some]
      · refine z2.trans ?_
        rw [List.append_assoc]; exact w3.append_left _
      · have hi : i < t.kids.length := (List.getElem?_eq_some_iff.mp p2).1
        have hj : i < ds.length := (List.getElem?_eq_some_iff.mp p3).1
        show adr _ _ (s :: (π ++ π')) = _
        simp only [adr, pos_set, p1, Option.bind_some, kids_set, List.getElem?_set_self hi, List.getElem?_set_self hj]
        exact w4 π'
      · cases ρ with
        | nil => rfl
        | cons s2 ρ =>
          simp only [adr, pos_set, kids_set]
          cases hp : t.pos s2 with
          | none => rfl
          | some j =>
            simp only [Option.bind_some]
            by_cases hij : i = j
            · subst hij
              by_cases hs : s = s2
              · subst hs
                have hi : i < t.kids.length := (List.getElem?_eq_some_iff.mp p2).1
                have hj : i < ds.length := (List.getElem?_eq_some_iff.mp p3).1
                simp only [List.getElem?_set_self hi, List.getElem?_set_self hj, p2, p3, Option.bind_some]
                exact w5 ρ fun hq => hn ((List.cons_prefix_cons).mpr ⟨rfl, hq⟩)
              · exact absurd (pos_inj p1 hp) hs
            · rw [List.getElem?_set_ne hij, List.getElem?_set_ne hij]
end
end VL
namespace VL
open PySem L2
inductive SV where
  | val (w : W) | own (p : Bool) (L : List Path) (t : T) | ptr (k : Nat) (π : Path) | exc (c : String)
inductive EV where
  | im (w : W) | tmp (t : T) | ptr (k : Nat) (π : Path)
abbrev Env3 := List (Option SV)
@[simp] def T.mut : T → Bool
  | .im _ => false
  | _ => true
structure Gh where
  Z : Addr → Prop
  P : Addr → Prop
  rt : Nat → Option Addr
  lk : Nat → List (Path × Addr)
  xa : Option Addr
structure Keep (g : Gh) (H : Hp) (g' : Gh) (H' : Hp) : Prop where
  z : ∀ p, g.Z p → g'.Z p ∧ H' p = H p
  p : ∀ p, g.P p → g'.P p ∧ H' p = H p
  q : ∀ p, g'.P p → g.P p
  tups : ∀ b xs, H b = some (.tup xs) → H' b = some (.tup xs)
  frzs : FK H H'
  rt : g'.rt = g.rt
  lk : g'.lk = g.lk
  xa : g'.xa = g.xa
  l : ∀ i q, q ∈ g.lk i → H' q.2 = H q.2
theorem Keep.refl (g : Gh) (H : Hp) : Keep g H g H := ⟨fun _ h => ⟨h, rfl⟩, fun _ h => ⟨h, rfl⟩, fun _ h => h, fun _ _ h => h, FK.refl, rfl, rfl, rfl, fun _ _ _ => rfl⟩
theorem Keep.trans {g1 g2 g3 : Gh} {H1 H2 H3 : Hp} (a : Keep g1 H1 g2 H2) (b : Keep g2 H2 g3 H3) : Keep g1 H1 g3 H3 :=
  ⟨fun p h => ⟨(b.z p (a.z p h).1).1, ((b.z p (a.z p h).1).2).trans (a.z p h).2⟩, fun p h => ⟨(b.p p (a.p p h).1).1, ((b.p p (a.p p h).1).2).trans (a.p p h).2⟩,
    fun p h => a.q p (b.q p h), fun c xs h => b.tups c xs (a.tups c xs h), a.frzs.trans b.frzs, b.rt.trans a.rt, b.lk.trans a.lk, b.xa.trans a.xa, fun i q h => (b.l i q (by rw [a.lk]; exact h)).trans (a.l i q h)⟩
theorem Keep.kz {g g' : Gh} {H H' : Hp} (k : Keep g H g' H') : KeepZ g.Z H g'.Z H' := ⟨k.z, k.tups, k.frzs⟩
def Tb (G : Gm) (H : Hp) : Prop := ∀ P, G.tb = some P → TabF H P
theorem Tb.keep {G : Gm} {H H' : Hp} (t : Tb G H) (k : FK H H') : Tb G H' := fun P e => k.t P (t P e)
structure Sim (G : Gm) (g : Gh) (env : Env3) (σ : L2.St) (H : Hp) (ds : Nat → D) : Prop where
  len : env.length = σ.length
  val : ∀ (i : Nat) w, env[i]? = some (some (SV.val w)) → ∃ v, σ[i]? = some (some v) ∧ Rep G g.Z H w v
  own : ∀ (i : Nat) p L t, env[i]? = some (some (SV.own p L t)) → ∃ v, σ[i]? = some (some v) ∧ RepT G g.Z H t v (ds i) ∧ t.mut = true ∧ (p = true → g.rt i = adr t (ds i) []) ∧ L = (g.lk i).map (·.1) ∧ ∀ q ∈ g.lk i, adr t (ds i) q.1 = some q.2
  ptr : ∀ (i : Nat) k π, env[i]? = some (some (SV.ptr k π)) → ∃ a p L t, σ[i]? = some (some (.ref a)) ∧ env[k]? = some (some (SV.own p L t)) ∧ adr t (ds k) π = some a
  exc : ∀ (i : Nat) c, env[i]? = some (some (SV.exc c)) → ∃ a, σ[i]? = some (some (.ref a)) ∧ G.xa = some (a, c)
  non : ∀ i : Nat, (∀ p L t, env[i]? ≠ some (some (SV.own p L t))) → ds i = .z ∧ g.lk i = []
  nd : ∀ i, (fp (ds i)).Nodup
  dj : ∀ i j p, p ∈ fp (ds i) → p ∈ fp (ds j) → i = j
  no : ∀ i p, p ∈ fp (ds i) → ¬ g.Z p ∧ ¬ g.P p
  zt : ∀ p, g.Z p → ¬ g.P p ∧ Ob H p
  pt : (∀ p, g.P p → Ob H p) ∧ Tb G H
section
variable {G : Gm} {g g' : Gh} {env env' : Env3} {σ : L2.St} {H H' : Hp} {ds : Nat → D}
theorem adr_root {Z : Addr → Prop} {t : T} {v : V} {d : D} (r : RepT G Z H t v d) (m : t.mut = true) : ∃ a, adr t d [] = some a ∧ v = .ref a := by
  obtain ⟨a, o, us, es, rfl, sh, rl⟩ := repT_iff.mp r
  cases t with
  | im w => cases m
  | ml _ => obtain ⟨p, rfl, rfl, _⟩ := sh; exact ⟨p, by simp [adr], rfl⟩
  | md _ => obtain ⟨p, _, _, rfl, rfl, _⟩ := sh; exact ⟨p, by simp [adr], rfl⟩
  | mt _ => obtain ⟨p, _, _, rfl, rfl, _⟩ := sh; exact ⟨p, by simp [adr], rfl⟩
  | mi _ _ => obtain ⟨p, _, rfl, rfl, _⟩ := sh; exact ⟨p, by simp [adr], rfl⟩
  | tp _ => obtain ⟨p, rfl, rfl, _⟩ := sh; exact ⟨p, by simp [adr], rfl⟩
theorem Sim.there (s : Sim G g env σ H ds) {i : Nat} {p : Addr} (h : p ∈ fp (ds i)) : ∃ o, H p = some o ∧ Mut (some o) := by
  by_cases e : ∃ p L t, env[i]? = some (some (SV.own p L t))
  · obtain ⟨q, L, t, e⟩ := e
    obtain ⟨v, _, r, _⟩ := s.own i q L t e
    exact r.there p h
  · have := (s.non i fun q L t z => e ⟨q, L, t, z⟩).1
    rw [this, fp_z] at h; cases h
theorem Sim.locked (s : Sim G g env σ H ds) {i : Nat} {q : Path × Addr} (h : q ∈ g.lk i) : ∃ o, H q.2 = some o := by
  by_cases e : ∃ p L t, env[i]? = some (some (SV.own p L t))
  · obtain ⟨p, L, t, e⟩ := e
    obtain ⟨v, _, r, _, _, _, r6⟩ := s.own i p L t e
    rcases r.adr_in (r6 q h) with z | ⟨vs, z⟩
    · obtain ⟨o, z, _⟩ := r.there _ z; exact ⟨o, z⟩
    · exact ⟨_, z⟩
  · have := (s.non i fun q L t z => e ⟨q, L, t, z⟩).2
    rw [this] at h; cases h
theorem Sim.free (s : Sim G g env σ H ds) {p : Addr} (h : H p = none) : ¬ g.Z p ∧ ¬ g.P p ∧ ∀ i, p ∉ fp (ds i) := by
  refine ⟨fun z => ?_, fun z => ?_, fun i z => ?_⟩
  · obtain ⟨_, o, e, _⟩ := s.zt p z; rw [h] at e; cases e
  · obtain ⟨o, e, _⟩ := s.pt.1 p z; rw [h] at e; cases e
  · obtain ⟨o, e, _⟩ := s.there z; rw [h] at e; cases e
theorem Sim.upd (s : Sim G g env σ H ds) (k : Keep g H g' H') (U : Nat → Option (T × D)) (hl : env'.length = env.length)
    (hU : ∀ i t' d', U i = some (t', d') → ∃ p L t v, env[i]? = some (some (SV.own p L t)) ∧ env'[i]? = some (some (SV.own p L t')) ∧ σ[i]? = some (some v) ∧ RepT G g'.Z H' t' v d' ∧ t'.mut = true ∧ ∀ q ∈ g.lk i, adr t' d' q.1 = some q.2)
    (hn : ∀ i, U i = none → env'[i]? = env[i]? ∨ ∃ k π, env[i]? = some (some (SV.ptr k π)) ∧ env'[i]? = some none)
    (hp : ∀ (i : Nat) k π, env'[i]? = some (some (SV.ptr k π)) → ∀ t' d', U k = some (t', d') → ∀ p L t, env[k]? = some (some (SV.own p L t)) → ∀ a, adr t (ds k) π = some a → adr t' d' π = some a)
    (hH : ∀ i, U i = none → ∀ p ∈ fp (ds i), H' p = H p ∧ ¬ g'.Z p)
    (hN : ∀ i t' d', U i = some (t', d') → (fp d').Nodup ∧ ∀ p ∈ fp d', ¬ g'.Z p ∧ ¬ g'.P p ∧ (∀ j, j ≠ i → U j = none → p ∉ fp (ds j)) ∧ ∀ j t2 d2, j ≠ i → U j = some (t2, d2) → p ∉ fp d2)
    (zt : ∀ p, g'.Z p → ¬ g'.P p ∧ Ob H' p) (pt : ∀ p, g'.P p → Ob H' p) :
    Sim G g' env' σ H' (fun i => match U i with
      | some (_, d') => d'
      | none => ds i) := by
  have inv : ∀ i, (∀ t' d', U i = some (t', d') → False) → U i = none := fun i h => by
    cases e : U i with
    | none => rfl
    | some q => exact (h q.1 q.2 e).elim
  have dsn : ∀ i, U i = none → (match U i with | some (_, d') => d' | none => ds i) = ds i := fun i e => by rw [e]
  have dss : ∀ i t' d', U i = some (t', d') → (match U i with | some (_, d') => d' | none => ds i) = d' := fun i t' d' e => by rw [e]
  have mem : ∀ i p, p ∈ fp (match U i with | some (_, d') => d' | none => ds i) → (U i = none ∧ p ∈ fp (ds i)) ∨ ∃ t' d', U i = some (t', d') ∧ p ∈ fp d' := fun i p h => by
    cases e : U i with
    | none => rw [dsn i e] at h; exact .inl ⟨rfl, h⟩
    | some q => rw [dss i q.1 q.2 e] at h; exact .inr ⟨q.1, q.2, rfl, h⟩
  have same : ∀ i x, U i = none → env'[i]? = some (some x) → env[i]? = some (some x) := fun i x e h => by
    rcases hn i e with q | ⟨k, π, _, q⟩
    · rw [← q]; exact h
    · rw [h] at q; cases q
  refine ⟨hl.trans s.len, fun i w h => ?_, fun i p L t h => ?_, fun i j π h => ?_, fun i c h => ?_, fun i h => ?_, fun i => ?_, fun i j p h h' => ?_, fun i p h => ?_, zt, pt, s.pt.2.keep k.frzs⟩
  · cases e : U i with
    | some q =>
      obtain ⟨_, _, _, _, _, h2, _⟩ := hU i q.1 q.2 e
      rw [h] at h2; cases h2
    | none =>
      obtain ⟨v, h1, h2⟩ := s.val i w (same i _ e h)
      exact ⟨v, h1, h2.keep k.kz⟩
  · cases e : U i with
    | some q =>
      obtain ⟨p0, L0, t0, v, h1, h2, h3, h4, h5, h6⟩ := hU i q.1 q.2 e
      rw [h] at h2; cases h2
      obtain ⟨v', h1', h2', h3', h4', h5', h6'⟩ := s.own i _ _ _ h1
      rw [h3] at h1'; cases h1'
      refine ⟨v, h3, by simpa only [e] using h4, h5, fun hp => ?_, by rw [k.lk]; exact h5', by rw [k.lk]; simpa only [e] using h6⟩
      rw [k.rt, h4' hp]
      obtain ⟨a1, r1, r2⟩ := adr_root h2' h3'
      obtain ⟨a2, r3, r4⟩ := adr_root h4 h5
      rw [r2] at r4; cases r4
      rw [r1]; exact r3.symm
    | none =>
      have h0 := same i _ e h
      obtain ⟨v', h1', h2', h3', h4', h5', h6'⟩ := s.own i _ _ _ h0
      exact ⟨v', h1', by simpa only [e] using h2'.keep k.kz fun p hp => (hH i e p hp).1, h3', fun hp => by rw [k.rt]; exact h4' hp, by rw [k.lk]; exact h5', by rw [k.lk]; exact h6'⟩
  · cases e : U i with
    | some q =>
      obtain ⟨_, _, _, _, _, h2, _⟩ := hU i q.1 q.2 e
      rw [h] at h2; cases h2
    | none =>
      obtain ⟨a, p, L, t, h1, h2, h3⟩ := s.ptr i j π (same i _ e h)
      cases e2 : U j with
      | none =>
        refine ⟨a, p, L, t, h1, ?_, by simpa only [e2] using h3⟩
        rcases hn j e2 with q | ⟨k, π, q, _⟩
        · rw [q]; exact h2
        · rw [h2] at q; cases q
      | some q =>
        obtain ⟨p0, L0, t0, v, r1, r2, r3, r4, r5, r6⟩ := hU j q.1 q.2 e2
        exact ⟨a, _, _, _, h1, r2, by simpa only [e2] using hp i j π h _ _ e2 _ _ _ h2 _ h3⟩
  · cases e : U i with
    | some q =>
      obtain ⟨_, _, _, _, _, h2, _⟩ := hU i q.1 q.2 e
      rw [h] at h2; cases h2
    | none =>
      obtain ⟨a, h1, h2⟩ := s.exc i c (same i _ e h)
      exact ⟨a, h1, h2⟩
  · cases e : U i with
    | some q =>
      obtain ⟨p, L, _, _, _, h2, _⟩ := hU i q.1 q.2 e
      exact absurd h2 (h _ _ _)
    | none =>
      have : ∀ p L t, env[i]? ≠ some (some (SV.own p L t)) := fun p L t z => by
        rcases hn i e with q | ⟨k, π, q, _⟩
        · exact h p L t (q.trans z)
        · rw [z] at q; cases q
      obtain ⟨h1, h2⟩ := s.non i this
      exact ⟨by simpa only [e] using h1, by rw [k.lk]; exact h2⟩
  · cases e : U i with
    | some q => simpa only [e] using (hN i _ _ e).1
    | none => simpa only [e] using s.nd i
  · rcases mem i p h with ⟨e, h⟩ | ⟨t1, d1, e, h⟩
    · rcases mem j p h' with ⟨e', h'⟩ | ⟨t2, d2, e', h'⟩
      · exact s.dj i j p h h'
      · refine Classical.byContradiction fun ne => ?_
        exact ((hN j _ _ e').2 p h').2.2.1 i ne e h
    · rcases mem j p h' with ⟨e', h'⟩ | ⟨t2, d2, e', h'⟩
      · refine Classical.byContradiction fun ne => ?_
        exact ((hN i _ _ e).2 p h).2.2.1 j (Ne.symm ne) e' h'
      · refine Classical.byContradiction fun ne => ?_
        exact ((hN i _ _ e).2 p h).2.2.2 j _ _ (Ne.symm ne) e' h'
  · rcases mem i p h with ⟨e, h⟩ | ⟨t1, d1, e, h⟩
    · exact ⟨(hH i e p h).2, fun z => (s.no i p h).2 (k.q p z)⟩
    · exact ⟨((hN i _ _ e).2 p h).1, ((hN i _ _ e).2 p h).2.1⟩
theorem Sim.grow (s : Sim G g env σ H ds) (k : Keep g H g' H') (hH : ∀ i, ∀ p ∈ fp (ds i), H' p = H p ∧ ¬ g'.Z p) (zt : ∀ p, g'.Z p → ¬ g'.P p ∧ Ob H' p) (pt : ∀ p, g'.P p → Ob H' p) : Sim G g' env σ H' ds :=
  s.upd k (fun _ => none) rfl (fun _ _ _ e => by cases e) (fun _ _ => .inl rfl) (fun _ _ _ _ _ _ e => by cases e) (fun i _ => hH i) (fun _ _ _ e => by cases e) zt pt
variable {p : Addr} {o : HO}
theorem Keep.new (h : H p = none) (s : Sim G g env σ H ds) : Keep g H g (upd H p o) := by
  have f := s.free h
  refine ⟨fun q z => ⟨z, upd_ne fun e => ?_⟩, fun q z => ⟨z, upd_ne fun e => ?_⟩, fun _ z => z, fun b xs e => ?_, FK.new h, rfl, rfl, rfl, fun i q hq => ?_⟩
  · subst e; exact f.1 z
  · subst e; exact f.2.1 z
  · rw [upd_ne (ne_of_none e h)]; exact e
  · obtain ⟨o, e⟩ := s.locked hq
    exact upd_ne (ne_of_none e h)
theorem upd_st {q : Addr} (h : Ob H q) (ne : q ≠ p) : Ob (L2.upd H p o) q := h.eq (upd_ne ne)
theorem upd_stn {q : Addr} (hn : H p = none) (h : Ob H q) : Ob (L2.upd H p o) q := upd_st h fun e => by
  obtain ⟨x, e2, _⟩ := h
  rw [e, hn] at e2; cases e2
theorem Sim.new (s : Sim G g env σ H ds) (h : H p = none) : Sim G g env σ (L2.upd H p o) ds := by
  have f := s.free h
  refine s.grow (Keep.new h s) (fun i q hq => ⟨upd_ne fun e => ?_, (s.no i q hq).1⟩) (fun q z => ⟨(s.zt q z).1, upd_stn h (s.zt q z).2⟩) (fun q z => upd_stn h (s.pt.1 q z))
  subst e; exact f.2.2 i hq
def Gh.frz (g : Gh) (a : Addr) : Gh := { g with Z := fun p => g.Z p ∨ p = a }
def EvR (G : Gm) (g : Gh) (env : Env3) (H : Hp) (ds : Nat → D) : EV → V → D → Prop
  | .im w, v, d => d = .z ∧ Rep G g.Z H w v
  | .tmp t, v, d => RepT G g.Z H t v d ∧ t.mut = true ∧ (fp d).Nodup ∧ ∀ p ∈ fp d, ¬ g.Z p ∧ ¬ g.P p ∧ ∀ i, p ∉ fp (ds i)
  | .ptr k π, v, d => d = .z ∧ ∃ a p L t, v = .ref a ∧ env[k]? = some (some (SV.own p L t)) ∧ adr t (ds k) π = some a
def EvL (G : Gm) (g : Gh) (env : Env3) (H : Hp) (ds : Nat → D) : List EV → List V → List D → Prop
  | [], vs, es => vs = [] ∧ es = []
  | e :: r, vs, es => ∃ v vr d dr, vs = v :: vr ∧ es = d :: dr ∧ EvR G g env H ds e v d ∧ EvL G g env H ds r vr dr ∧ ∀ p ∈ fp d, p ∉ fps dr
def SimN (G : Gm) (g : Gh) (env : Env3) (σ : L2.St) (H : Hp) : Prop := ∃ ds, Sim G g env σ H ds
def SimE (G : Gm) (g : Gh) (env : Env3) (σ : L2.St) (H : Hp) (ev : EV) (v : V) : Prop := ∃ ds d, Sim G g env σ H ds ∧ EvR G g env H ds ev v d
def SimA (G : Gm) (g : Gh) (env : Env3) (σ : L2.St) (H : Hp) (evs : List EV) (vs : List V) : Prop := ∃ ds es, Sim G g env σ H ds ∧ EvL G g env H ds evs vs es
theorem SimE.n {ev : EV} {v : V} (h : SimE G g env σ H ev v) : SimN G g env σ H := let ⟨ds, _, s, _⟩ := h; ⟨ds, s⟩
def lockE (ev : EV) (env : Env3) : Env3 := match ev with
  | .ptr k (s :: π) => match env[k]? with
    | some (some (SV.own p L t)) => env.set k (some (SV.own p ((s :: π) :: L) t))
    | _ => env
  | _ => env
def unlE (ev : EV) (env : Env3) : Env3 := match ev with
  | .ptr k (_ :: _) => match env[k]? with
    | some (some (SV.own p (_ :: L) t)) => env.set k (some (SV.own p L t))
    | _ => env
  | _ => env
def okE (ev : EV) (env : Env3) : Bool := match ev with
  | .ptr k _ => match env[k]? with
    | some (some (SV.own _ _ _)) => true
    | _ => false
  | _ => true
theorem get_lt {α : Type} {l : List α} {i : Nat} {x : α} (h : l[i]? = some x) : i < l.length := (List.getElem?_eq_some_iff.mp h).1
theorem Sim.lk (s : Sim G g env σ H ds) {k : Nat} {p : Bool} {L L' : List Path} {t : T} (h : env[k]? = some (some (SV.own p L t))) (l' : List (Path × Addr)) (hL : L' = l'.map (·.1)) (hq : ∀ q ∈ l', adr t (ds k) q.1 = some q.2) :
    Sim G { g with lk := fun i => if i = k then l' else g.lk i } (env.set k (some (SV.own p L' t))) σ H ds := by
  have gk : (env.set k (some (SV.own p L' t)))[k]? = some (some (SV.own p L' t)) := List.getElem?_set_self (get_lt h)
  have gn : ∀ i, i ≠ k → (env.set k (some (SV.own p L' t)))[i]? = env[i]? := fun i hi => List.getElem?_set_ne (Ne.symm hi)
  have un : ∀ i x, (∀ p L t, x ≠ SV.own p L t) → (env.set k (some (SV.own p L' t)))[i]? = some (some x) → env[i]? = some (some x) := fun i x hx e => by
    by_cases hi : i = k
    · subst hi; rw [gk] at e; cases e; exact absurd rfl (hx _ _ _)
    · rw [gn i hi] at e; exact e
  refine ⟨by rw [List.length_set]; exact s.len, fun i w e => s.val i w (un i _ (fun _ _ _ z => by cases z) e), fun i p2 L2 t2 e => ?_, fun i j π e => ?_, fun i c e => s.exc i c (un i _ (fun _ _ _ z => by cases z) e), fun i e => ?_, s.nd, s.dj, s.no, s.zt, s.pt⟩
  · by_cases hi : i = k
    · subst hi
      rw [gk] at e; cases e
      obtain ⟨v, h1, h2, h3, h4, h5, h6⟩ := s.own _ _ _ _ h
      exact ⟨v, h1, h2, h3, h4, by simpa using hL, by simpa using hq⟩
    · rw [gn i hi] at e
      obtain ⟨v, h1, h2, h3, h4, h5, h6⟩ := s.own _ _ _ _ e
      exact ⟨v, h1, h2, h3, h4, by simpa [hi] using h5, by simpa [hi] using h6⟩
  · obtain ⟨a, p2, L2, t2, h1, h2, h3⟩ := s.ptr i j π (un i _ (fun _ _ _ z => by cases z) e)
    by_cases hj : j = k
    · subst hj
      rw [h] at h2; cases h2
      exact ⟨a, _, _, _, h1, gk, h3⟩
    · exact ⟨a, _, _, _, h1, (gn j hj).trans h2, h3⟩
  · by_cases hi : i = k
    · subst hi; exact absurd gk (e _ _ _)
    · have := s.non i fun p L t z => e p L t ((gn i hi).trans z)
      exact ⟨this.1, by simpa [hi] using this.2⟩
theorem Sim.moreP (s : Sim G g env σ H ds) {A : Addr → Prop} (h1 : ∀ p, A p → ¬ g.Z p ∧ (∀ i, p ∉ fp (ds i)) ∧ Ob H p) : Sim G { g with P := fun p => g.P p ∨ A p } env σ H ds :=
  ⟨s.len, s.val, s.own, s.ptr, s.exc, s.non, s.nd, s.dj, fun i p h => ⟨(s.no i p h).1, fun z => z.elim (s.no i p h).2 fun z => (h1 p z).2.1 i h⟩, fun p z => ⟨fun q => q.elim (s.zt p z).1 fun q => (h1 p q).1 z, (s.zt p z).2⟩, fun p z => z.elim (s.pt.1 p) fun z => (h1 p z).2.2, s.pt.2⟩
theorem Sim.lessP (s : Sim G g env σ H ds) {A : Addr → Prop} (h1 : ∀ p, A p → g.P p) : Sim G { g with P := A } env σ H ds :=
  ⟨s.len, s.val, s.own, s.ptr, s.exc, s.non, s.nd, s.dj, fun i p h => ⟨(s.no i p h).1, fun z => (s.no i p h).2 (h1 p z)⟩, fun p z => ⟨fun q => (s.zt p z).1 (h1 p q), (s.zt p z).2⟩, fun p z => s.pt.1 p (h1 p z), s.pt.2⟩
theorem EvR.there {ev : EV} {v : V} {d : D} (r : EvR G g env H ds ev v d) : ∀ p ∈ fp d, ¬ g.Z p ∧ ¬ g.P p ∧ (∀ i, p ∉ fp (ds i)) ∧ ∃ o, H p = some o ∧ Mut (some o) := by
  intro p hp
  cases ev with
  | im w => rw [r.1, fp_z] at hp; cases hp
  | ptr k π => rw [r.1, fp_z] at hp; cases hp
  | tmp t => exact ⟨(r.2.2.2 p hp).1, (r.2.2.2 p hp).2.1, (r.2.2.2 p hp).2.2, r.1.there p hp⟩
theorem EvR.to {g1 : Gh} {env1 : Env3} {ev : EV} {v : V} {d : D} (r : EvR G g env H ds ev v d) (hz : g1.Z = g.Z) (hp : ∀ p, g1.P p → g.P p) (he : ∀ (k : Nat) p L t, env[k]? = some (some (SV.own p L t)) → ∃ L', env1[k]? = some (some (SV.own p L' t))) : EvR G g1 env1 H ds ev v d := by
  cases ev with
  | im w => exact ⟨r.1, by rw [hz]; exact r.2⟩
  | tmp t => exact ⟨by rw [hz]; exact r.1, r.2.1, r.2.2.1, fun p h => ⟨by rw [hz]; exact (r.2.2.2 p h).1, fun z => (r.2.2.2 p h).2.1 (hp p z), (r.2.2.2 p h).2.2⟩⟩
  | ptr k π =>
    obtain ⟨e, a, p, L, t, h1, h2, h3⟩ := r
    obtain ⟨L', h2'⟩ := he k p L t h2
    exact ⟨e, a, p, L', t, h1, h2', h3⟩
theorem EvL.to {g1 : Gh} {env1 : Env3} (hz : g1.Z = g.Z) (hp : ∀ p, g1.P p → g.P p) (he : ∀ (k : Nat) p L t, env[k]? = some (some (SV.own p L t)) → ∃ L', env1[k]? = some (some (SV.own p L' t))) : ∀ {evs : List EV} {vs : List V} {es : List D}, EvL G g env H ds evs vs es → EvL G g1 env1 H ds evs vs es
  | [], _, _, h => h
  | e :: r, _, _, ⟨v, vr, d, dr, e1, e2, a, b, c⟩ => ⟨v, vr, d, dr, e1, e2, a.to hz hp he, EvL.to hz hp he b, c⟩
theorem EvL.noP : ∀ {evs : List EV} {vs : List V} {es : List D}, EvL G g env H ds evs vs es → ∀ p ∈ fps es, ¬ g.P p ∧ ¬ g.Z p ∧ (∀ i, p ∉ fp (ds i)) ∧ ∃ o, H p = some o ∧ Mut (some o)
  | [], _, _, h => by rw [h.2]; intro p hp; cases hp
  | e :: r, _, _, ⟨v, vr, d, dr, e1, e2, a, b, c⟩ => by
    subst e2
    intro p hp
    rcases List.mem_append.mp hp with h | h
    · exact ⟨(a.there p h).2.1, (a.there p h).1, (a.there p h).2.2.1, (a.there p h).2.2.2⟩
    · exact EvL.noP b p h
theorem Sim.pend (s : Sim G g env σ H ds) {ev : EV} {v : V} {d : D} (r : EvR G g env H ds ev v d) : ∃ g1, Sim G g1 (lockE ev env) σ H ds ∧ g1.Z = g.Z ∧
    ∀ g2 env2 H2 σ2 ds2, Keep g1 H g2 H2 → Sim G g2 env2 σ2 H2 ds2 → ∃ g3, g3.Z = g2.Z ∧ Keep g H g3 H2 ∧ Sim G g3 (unlE ev env2) σ2 H2 ds2 ∧ (σ2 = σ → okE ev env2 = true → EvR G g3 (unlE ev env2) H2 ds2 ev v d) ∧
      ∀ evs vs es, EvL G g2 env2 H2 ds2 evs vs es → EvL G g3 (unlE ev env2) H2 ds2 evs vs es ∧ ∀ p ∈ fp d, p ∉ fps es := by
  have idl : ∀ (env : Env3), ∀ (k : Nat) p L t, env[k]? = some (some (SV.own p L t)) → ∃ L', env[k]? = some (some (SV.own p L' t)) := fun env k p L t h => ⟨L, h⟩
  cases ev with
  | im w =>
    refine ⟨g, s, rfl, fun g2 env2 H2 σ2 ds2 k s2 => ⟨g2, rfl, k, s2, fun _ _ => ⟨r.1, r.2.keep k.kz⟩, fun evs vs es l => ⟨l, ?_⟩⟩⟩
    rw [r.1, fp_z]; intro p hp; cases hp
  | tmp t =>
    obtain ⟨r1, r2, r3, r4⟩ := r
    refine ⟨{ g with P := fun p => g.P p ∨ p ∈ fp d }, s.moreP fun p hp => ⟨(r4 p hp).1, (r4 p hp).2.2, let ⟨o, e, m⟩ := r1.there p hp; Ob.mut e m⟩, rfl, fun g2 env2 H2 σ2 ds2 k s2 => ?_⟩
    have kd : ∀ p ∈ fp d, g2.P p ∧ H2 p = H p := fun p hp => k.p p (.inr hp)
    refine ⟨{ g2 with P := g.P }, rfl, ⟨k.z, fun p z => ⟨z, (k.p p (.inl z)).2⟩, fun _ z => z, k.tups, k.frzs, k.rt, k.lk, k.xa, k.l⟩, s2.lessP fun p z => (k.p p (.inl z)).1, fun _ _ => ?_, fun evs vs es l => ⟨EvL.to (g := g2) (g1 := { g2 with P := g.P }) rfl (fun p z => (k.p p (.inl z)).1) (idl env2) l, fun p hp hq => ?_⟩⟩
    · exact ⟨r1.keep k.kz fun p hp => (kd p hp).2, r2, r3, fun p hp => ⟨fun z => (s2.zt p z).1 (kd p hp).1, (r4 p hp).2.1, fun i z => (s2.no i p z).2 (kd p hp).1⟩⟩
    · exact (l.noP p hq).1 (kd p hp).1
  | ptr j π =>
    obtain ⟨rfl, a, p, L, t, rfl, h1, h2⟩ := r
    cases π with
    | nil =>
      refine ⟨g, s, rfl, fun g2 env2 H2 σ2 ds2 k s2 => ⟨g2, rfl, k, s2, fun es ok => ?_, fun evs vs es l => ⟨l, by rw [fp_z]; intro p hp; cases hp⟩⟩⟩
      subst es
      have : ∃ p L t, env2[j]? = some (some (SV.own p L t)) := by
        have ok2 : (match env2[j]? with | some (some (SV.own _ _ _)) => true | _ => false) = true := ok
        split at ok2
        · rename_i p' L' t' e; exact ⟨p', L', t', e⟩
        · cases ok2
      obtain ⟨p', L', t', h1'⟩ := this
      obtain ⟨v, q1, q2, q3, _⟩ := s.own _ _ _ _ h1
      obtain ⟨v', q1', q2', q3', _⟩ := s2.own _ _ _ _ h1'
      rw [q1] at q1'; cases q1'
      obtain ⟨b, b1, b2⟩ := adr_root q2 q3
      obtain ⟨c, c1, c2⟩ := adr_root q2' q3'
      rw [b2] at c2; cases c2
      rw [b1] at h2; cases h2
      exact ⟨rfl, _, p', L', t', rfl, h1', c1⟩
    | cons x π =>
      obtain ⟨v, q1, q2, q3, q4, q5, q6⟩ := s.own _ _ _ _ h1
      have e1 : lockE (.ptr j (x :: π)) env = env.set j (some (SV.own p ((x :: π) :: L) t)) := by unfold lockE; simp only [h1]
      refine ⟨{ g with lk := fun i => if i = j then (x :: π, a) :: g.lk j else g.lk i }, ?_, rfl, fun g2 env2 H2 σ2 ds2 k s2 => ?_⟩
      · rw [e1]
        refine s.lk h1 ((x :: π, a) :: g.lk j) (by simp [q5]) fun q hq => ?_
        rcases List.mem_cons.mp hq with rfl | hq
        · exact h2
        · exact q6 q hq
      · have kl : g2.lk j = (x :: π, a) :: g.lk j := by rw [k.lk]; simp
        have : ∃ p L t, env2[j]? = some (some (SV.own p L t)) := Classical.byContradiction fun e => by
          have := (s2.non j fun q L t z => e ⟨q, L, t, z⟩).2
          rw [kl] at this; cases this
        obtain ⟨p', L', t', h1'⟩ := this
        obtain ⟨v', q1', q2', q3', q4', q5', q6'⟩ := s2.own _ _ _ _ h1'
        rw [kl] at q5' q6'
        subst q5'
        have e2 : unlE (.ptr j (x :: π)) env2 = env2.set j (some (SV.own p' ((g.lk j).map (·.1)) t')) := by unfold unlE; simp only [h1', List.map_cons]
        have he : ∀ (k : Nat) p L t, env2[k]? = some (some (SV.own p L t)) → ∃ L', (env2.set j (some (SV.own p' ((g.lk j).map (·.1)) t')))[k]? = some (some (SV.own p L' t)) := fun k p L t h => by
          by_cases e : k = j
          · subst e
            rw [h1'] at h; cases h
            exact ⟨_, List.getElem?_set_self (get_lt h1')⟩
          · exact ⟨L, by rw [List.getElem?_set_ne (Ne.symm e)]; exact h⟩
        have s3 := s2.lk h1' (g.lk j) rfl fun q hq => q6' q (List.mem_cons_of_mem _ hq)
        have lke : (fun i => if i = j then g.lk j else g2.lk i) = g.lk := by
          funext i
          by_cases e : i = j
          · subst e; simp
          · rw [k.lk]; simp [e]
        rw [lke] at s3
        refine ⟨{ g2 with lk := g.lk }, rfl, ⟨k.z, k.p, k.q, k.tups, k.frzs, k.rt, rfl, k.xa, fun i q hq => k.l i q (by
          by_cases e : i = j
          · subst e; simp [hq]
          · simp [e, hq])⟩, by rw [e2]; exact s3, fun _ _ => ?_, fun evs vs es l => ⟨by rw [e2]; exact EvL.to (g := g2) (g1 := { g2 with lk := g.lk }) rfl (fun _ z => z) he l, by rw [fp_z]; intro p hp; cases hp⟩⟩
        rw [e2]
        exact ⟨rfl, a, _, _, _, rfl, List.getElem?_set_self (get_lt h1'), q6' (x :: π, a) (List.mem_cons_self ..)⟩
end
end VL
namespace VL
open PySem L2
inductive Out (α : Type) where
  | ok (a : α) (e : Env3) | exc (c : String) (e : Env3) | stuck
abbrev M3 (α : Type) := Env3 → Out α
inductive SO3 where
  | nx (e : Env3) | rt (v : EV) (e : Env3) | bk (e : Env3) | ct (e : Env3) | ex (c : String) (e : Env3) | stuck
abbrev S3 := Env3 → SO3
def SatX (G : Gm) (Wx : WX) (g : Gh) (σ : L2.St) (H : Hp) (c : String) (env' : Env3) : Prop := ∀ g' H', Keep g H g' H' → SimN G g' env' σ H' → Wx (.ref (G.cA c)) none σ H'
def SatE (G : Gm) (Wx : WX) (g : Gh) (σ : L2.St) (H : Hp) (Q : VK) : Out EV → Prop
  | .ok ev env' => ∀ g' v H', Keep g H g' H' → SimE G g' env' σ H' ev v → Q v H'
  | .exc c env' => SatX G Wx g σ H c env'
  | .stuck => False
def SatA (G : Gm) (Wx : WX) (g : Gh) (σ : L2.St) (H : Hp) (Q : List V → Hp → Prop) : Out (List EV) → Prop
  | .ok evs env' => ∀ g' vs H', Keep g H g' H' → SimA G g' env' σ H' evs vs → Q vs H'
  | .exc c env' => SatX G Wx g σ H c env'
  | .stuck => False
def SatB (G : Gm) (Wx : WX) (g : Gh) (σ : L2.St) (H : Hp) (Q : Bool → Hp → Prop) : Out Bool → Prop
  | .ok b env' => ∀ g' H', Keep g H g' H' → SimN G g' env' σ H' → Q b H'
  | .exc c env' => SatX G Wx g σ H c env'
  | .stuck => False
def liftE (G : Gm) (Wx : WX) (f : M3 EV) : TE := fun σ H Q => ∃ g env ds, Sim G g env σ H ds ∧ SatE G Wx g σ H Q (f env)
def liftT (G : Gm) (Wx : WX) (f : M3 Bool) : TT := fun σ H Q => ∃ g env ds, Sim G g env σ H ds ∧ SatB G Wx g σ H Q (f env)
def liftA (G : Gm) (Wx : WX) (f : M3 (List EV)) : TA := fun σ H Q => ∃ g env ds, Sim G g env σ H ds ∧ SatA G Wx g σ H Q (f env)
abbrev SE (G : Gm) (X : Cx) (Wx : WX) (e : Expr) (f : M3 EV) : Prop := PE X e (liftE G Wx f)
abbrev SB (G : Gm) (X : Cx) (Wx : WX) (e : Expr) (f : M3 Bool) : Prop := PT X e (liftT G Wx f)
abbrev SW (G : Gm) (X : Cx) (Wx : WX) (e : Expr) (f : M3 Bool) : Prop := PW X e (liftT G Wx f)
abbrev SA (G : Gm) (X : Cx) (Wx : WX) (es : List Expr) (f : M3 (List EV)) : Prop := PA X es (liftA G Wx f)
theorem pe_imp {X : Cx} {e : Expr} {t t' : TE} (h : PE X e t) (i : ∀ σ H Q, t' σ H Q → t σ H Q) : PE X e t' := ⟨fun pins s σ H Q I q => h.run pins s σ H Q I (i _ _ _ q)⟩
theorem pt_imp {X : Cx} {e : Expr} {t t' : TT} (h : PT X e t) (i : ∀ σ H Q, t' σ H Q → t σ H Q) : PT X e t' := ⟨fun pins s σ H Q I q => h.run pins s σ H Q I (i _ _ _ q)⟩
theorem pw_imp {X : Cx} {e : Expr} {t t' : TT} (h : PW X e t) (i : ∀ σ H Q, t' σ H Q → t σ H Q) : PW X e t' := ⟨fun wh pins s σ H Q I q => h.run wh pins s σ H Q I (i _ _ _ q)⟩
theorem pa_imp {X : Cx} {e : List Expr} {t t' : TA} (h : PA X e t) (i : ∀ σ H Q, t' σ H Q → t σ H Q) : PA X e t' := ⟨fun pos pins s σ H Q I q => h.run pos pins s σ H Q I (i _ _ _ q)⟩
theorem ps_imp {X : Cx} {e : Stmt} {t t' : TS} (h : PS X e t) (i : ∀ D σ H, t' D σ H → t D σ H) : PS X e t' := ⟨fun pins s σ H D I q => h.run pins s σ H D I (i _ _ _ q)⟩
theorem pss_imp {X : Cx} {e : List Stmt} {t t' : TS} (h : PSs X e t) (i : ∀ D σ H, t' D σ H → t D σ H) : PSs X e t' := ⟨fun pins s σ H D I q => h.run pins s σ H D I (i _ _ _ q)⟩
section
variable {G : Gm} {X : Cx} {Wx : WX} {g g' : Gh} {env env' : Env3} {σ : L2.St} {H H' : Hp} {ds : Nat → D}
theorem SatX.keep {c : String} (h : SatX G Wx g σ H c env) (k : Keep g H g' H') : SatX G Wx g' σ H' c env := fun g2 H2 k2 s2 => h g2 H2 (k.trans k2) s2
theorem SatE.keep {Q : VK} : ∀ {o : Out EV}, SatE G Wx g σ H Q o → Keep g H g' H' → SatE G Wx g' σ H' Q o
  | .ok _ _, h, k => fun g2 v H2 k2 s2 => h g2 v H2 (k.trans k2) s2
  | .exc _ _, h, k => SatX.keep h k
  | .stuck, h, _ => h
theorem SatA.keep {Q : List V → Hp → Prop} : ∀ {o : Out (List EV)}, SatA G Wx g σ H Q o → Keep g H g' H' → SatA G Wx g' σ H' Q o
  | .ok _ _, h, k => fun g2 v H2 k2 s2 => h g2 v H2 (k.trans k2) s2
  | .exc _ _, h, k => SatX.keep h k
  | .stuck, h, _ => h
theorem SatB.keep {Q : Bool → Hp → Prop} : ∀ {o : Out Bool}, SatB G Wx g σ H Q o → Keep g H g' H' → SatB G Wx g' σ H' Q o
  | .ok _ _, h, k => fun g2 H2 k2 s2 => h g2 H2 (k.trans k2) s2
  | .exc _ _, h, k => SatX.keep h k
  | .stuck, h, _ => h
theorem Sim.im (s : Sim G g env σ H ds) {w : W} {v : V} (r : Rep G g.Z H w v) : SimE G g env σ H (.im w) v := ⟨ds, .z, s, rfl, r⟩
theorem SimN.im (s : SimN G g env σ H) {w : W} {v : V} (r : Rep G g.Z H w v) : SimE G g env σ H (.im w) v := let ⟨_, s⟩ := s; s.im r
def pendB {β : Type} (ev : EV) (m : M3 β) : M3 β := fun env => match m (lockE ev env) with
  | .ok b env2 => if okE ev env2 = true then .ok b (unlE ev env2) else .stuck
  | .exc c env2 => .exc c (unlE ev env2)
  | .stuck => .stuck
def eNil : M3 (List EV) := fun env => .ok [] env
def eCons (e : M3 EV) (es : M3 (List EV)) : M3 (List EV) := fun env => match e env with
  | .ok ev env1 => (match pendB ev es env1 with
    | .ok evs env2 => .ok (ev :: evs) env2
    | .exc c env2 => .exc c env2
    | .stuck => .stuck)
  | .exc c env1 => .exc c env1
  | .stuck => .stuck
theorem pend_A {ev : EV} {v : V} {f : M3 (List EV)} {Q : List V → Hp → Prop} (s : SimE G g env σ H ev v) (h : match pendB ev f env with
    | .ok evs env2 => ∀ g' vs H', Keep g H g' H' → SimA G g' env2 σ H' (ev :: evs) (v :: vs) → Q vs H'
    | .exc c env2 => SatX G Wx g σ H c env2
    | .stuck => False) : liftA G Wx f σ H Q := by
  obtain ⟨ds, d, s, r⟩ := s
  obtain ⟨g1, s1, hz, pk⟩ := s.pend r
  refine ⟨g1, lockE ev env, ds, s1, ?_⟩
  unfold pendB at h
  cases e : f (lockE ev env) with
  | stuck => rw [e] at h; exact h.elim
  | exc c env2 =>
    rw [e] at h
    intro g2 H2 k2 ⟨ds2, s2⟩
    obtain ⟨g3, _, k3, s3, _⟩ := pk g2 env2 H2 σ ds2 k2 s2
    exact h g3 H2 k3 ⟨ds2, s3⟩
  | ok evs env2 =>
    rw [e] at h
    intro g2 vs H2 k2 ⟨ds2, es, s2, l2⟩
    obtain ⟨g3, hz3, k3, s3, r3, l3⟩ := pk g2 env2 H2 σ ds2 k2 s2
    by_cases ok : okE ev env2 = true
    · simp only [ok, if_true] at h
      obtain ⟨l4, l5⟩ := l3 _ _ _ l2
      exact h g3 vs H2 k3 ⟨ds2, d :: es, s3, v, vs, d, es, rfl, rfl, r3 rfl ok, l4, l5⟩
    · simp only [ok] at h; exact h.elim
theorem sa_nil : SA G X Wx [] eNil := by
  refine pa_imp pa_nil ?_
  rintro σ H Q ⟨g, env, ds, s, h⟩
  exact h g [] H (Keep.refl g H) ⟨ds, [], s, rfl, rfl⟩
theorem sa_cons {e : Expr} {es : List Expr} {f : M3 EV} {fs : M3 (List EV)} (ha : SE G X Wx e f) (hr : SA G X Wx es fs) (hs : starEach (e :: es) X.env = (false, eval e X.env) :: starEach es X.env := by rfl) : SA G X Wx (e :: es) (eCons f fs) := by
  refine pa_imp (pa_cons ha hr hs) ?_
  rintro σ H Q ⟨g, env, ds, s, h⟩
  refine ⟨g, env, ds, s, ?_⟩
  unfold eCons at h
  cases e1 : f env with
  | stuck => rw [e1] at h; exact h.elim
  | exc c env1 => rw [e1] at h; exact h
  | ok ev env1 =>
    simp only [e1] at h
    intro g1 v H1 k1 s1
    refine pend_A s1 ?_
    cases e2 : pendB ev fs env1 with
    | stuck => simp only [e2] at h; exact h.elim
    | exc c env2 => simp only [e2] at h; exact SatX.keep h k1
    | ok evs env2 =>
      simp only [e2] at h
      intro g2 vs H2 k2 s2
      exact h g2 (v :: vs) H2 (k1.trans k2) s2
def rd (env : Env3) : EV → Option T
  | .im w => some (.im w)
  | .tmp t => some t
  | .ptr k π => match env[k]? with
    | some (some (SV.own _ _ t)) => t.getP π
    | _ => none
theorem adr_val {Z : Addr → Prop} {t : T} {v : V} {d : D} {a : Addr} (r : RepT G Z H t v d) (h : adr t d [] = some a) : v = .ref a := by
  cases t with
  | im w => rw [r.1] at h; simp [adr, D.z] at h
  | _ =>
    obtain ⟨b, e1, e2⟩ := adr_root r rfl
    rw [e1] at h; cases h; exact e2
theorem EvR.rd {ev : EV} {v : V} {d : D} {t : T} (s : Sim G g env σ H ds) (r : EvR G g env H ds ev v d) (h : rd env ev = some t) : ∃ e, RepT G g.Z H t v e := by
  cases ev with
  | im w => cases h; exact ⟨_, rfl, r.2⟩
  | tmp u => cases h; exact ⟨_, r.1⟩
  | ptr k π =>
    obtain ⟨_, a, p, L, u, rfl, h1, h2⟩ := r
    have h' : u.getP π = some t := by simpa only [VL.rd, h1] using h
    obtain ⟨v', q1, q2, _⟩ := s.own _ _ _ _ h1
    obtain ⟨w, e, out, r1, _, r3, _, _⟩ := q2.lens h'
    have := r3 []
    rw [List.append_nil, h2] at this
    rw [adr_val r1 this.symm] at r1
    exact ⟨e, r1⟩
theorem SimE.rd {ev : EV} {v : V} {t : T} (s : SimE G g env σ H ev v) (h : rd env ev = some t) : ∃ e, RepT G g.Z H t v e := by
  obtain ⟨ds, d, s, r⟩ := s
  exact r.rd s h
theorem EvL.n : ∀ {evs : List EV} {vs : List V} {es : List D}, EvL G g env H ds evs vs es → evs.length = vs.length
  | [], _, _, h => by rw [h.1]; rfl
  | e :: r, _, _, ⟨v, vr, d, dr, e1, e2, a, b, c⟩ => by subst e1; simp [EvL.n b]
theorem SimA.n {evs : List EV} {vs : List V} (s : SimA G g env σ H evs vs) : SimN G g env σ H := let ⟨ds, _, s, _⟩ := s; ⟨ds, s⟩
theorem SimA.one {ev : EV} {v : V} (s : SimE G g env σ H ev v) : SimA G g env σ H [ev] [v] := by
  obtain ⟨ds, d, s, r⟩ := s
  exact ⟨ds, [d], s, v, [], d, [], rfl, rfl, r, ⟨rfl, rfl⟩, fun _ _ h => by cases h⟩
theorem SimA.hd {ev : EV} {v : V} {evs : List EV} {vs : List V} (s : SimA G g env σ H (ev :: evs) (v :: vs)) : SimE G g env σ H ev v := by
  obtain ⟨ds, es, s, v', vr, d, dr, e1, e2, a, b, c⟩ := s
  cases e1
  exact ⟨ds, d, s, a⟩
theorem SimA.tl {ev : EV} {v : V} {evs : List EV} {vs : List V} (s : SimA G g env σ H (ev :: evs) (v :: vs)) : SimA G g env σ H evs vs := by
  obtain ⟨ds, es, s, v', vr, d, dr, e1, e2, a, b, c⟩ := s
  cases e1
  exact ⟨ds, dr, s, b⟩
def eVar (i : Nat) : M3 EV := fun env => match env[i]? with
  | some (some (SV.val w)) => .ok (.im w) env
  | some (some (SV.own _ _ _)) => .ok (.ptr i []) env
  | some (some (SV.ptr k π)) => .ok (.ptr k π) env
  | _ => .stuck
theorem Sim.var (s : Sim G g env σ H ds) {i : Nat} {ev : EV} {env' : Env3} (h : eVar i env = .ok ev env') : env' = env ∧ ∃ v, σ[i]? = some (some v) ∧ SimE G g env σ H ev v := by
  unfold eVar at h
  split at h
  · rename_i w e
    cases h
    obtain ⟨v, h1, h2⟩ := s.val _ _ e
    exact ⟨rfl, v, h1, s.im h2⟩
  · rename_i p L t e
    cases h
    obtain ⟨v, h1, h2, h3, _⟩ := s.own _ _ _ _ e
    obtain ⟨a, h4, rfl⟩ := adr_root h2 h3
    exact ⟨rfl, _, h1, ds, .z, s, rfl, a, p, L, t, rfl, e, h4⟩
  · rename_i k π e
    cases h
    obtain ⟨a, p, L, t, h1, h2, h3⟩ := s.ptr _ _ _ e
    exact ⟨rfl, _, h1, ds, .z, s, rfl, a, p, L, t, rfl, h2, h3⟩
  · cases h
theorem eVar_ok {i : Nat} {c : String} {env' : Env3} (h : eVar i env = .exc c env') : False := by
  unfold eVar at h; split at h <;> cases h
theorem se_var {i : Nat} {x : Str} {pos : Pos} (hN : X.N[i]? = some x) (hv : Vis X.env.scope x) (hd : (x == ("__debug__" : Str)) = false := by decide) (hcd : (x == ("__classdict__" : Str)) = false := by decide) : SE G X Wx (.Name x pos) (eVar i) := by
  refine pe_imp (pe_var hN hv hd hcd) ?_
  rintro σ H Q ⟨g, env, ds, s, h⟩
  cases e : eVar i env with
  | stuck => rw [e] at h; exact h.elim
  | exc c env' => exact (eVar_ok e).elim
  | ok ev env' =>
    rw [e] at h
    obtain ⟨rfl, v, h1, h2⟩ := s.var e
    exact ⟨v, h1, h g v H (Keep.refl g H) h2⟩
def killS (k : Nat) : Option SV → Option SV
  | some (.ptr j π) => if j = k then none else some (.ptr j π)
  | s => s
theorem Sim.clear (s : Sim G g env σ H ds) {i : Nat} {t : T} (h : env[i]? = some (some (SV.own false [] t))) : Sim G g ((env.map (killS i)).set i none) σ H (fun j => if j = i then .z else ds j) ∧
    ∀ (j : Nat) x, env[j]? = some (some x) → j ≠ i → (∀ π, x ≠ .ptr i π) → ((env.map (killS i)).set i none)[j]? = some (some x) := by
  obtain ⟨v, h1, h2, h3, h4, h5, h6⟩ := s.own _ _ _ _ h
  have hi : i < (env.map (killS i)).length := by rw [List.length_map]; exact get_lt h
  have h5' : g.lk i = [] := by
    cases e : g.lk i with
    | nil => rfl
    | cons x y => rw [e] at h5; cases h5
  have un : ∀ (j : Nat) x, ((env.map (killS i)).set i none)[j]? = some (some x) → env[j]? = some (some x) ∧ j ≠ i ∧ ∀ π, x ≠ .ptr i π := fun j x e => by
    by_cases hj : j = i
    · subst hj; rw [List.getElem?_set_self hi] at e; cases e
    · rw [List.getElem?_set_ne (Ne.symm hj), List.getElem?_map] at e
      cases e0 : env[j]? with
      | none => rw [e0] at e; cases e
      | some o =>
        rw [e0] at e
        cases o with
        | none => cases e
        | some y =>
          cases y with
          | ptr k π =>
            simp only [Option.map_some, killS] at e
            by_cases hk : k = i
            · simp [hk] at e
            · simp only [hk, if_false, Option.some.injEq] at e
              subst e
              exact ⟨rfl, hj, fun π' z => hk (by cases z; rfl)⟩
          | _ => cases e; exact ⟨rfl, hj, fun π' z => by cases z⟩
  have bk : ∀ (j : Nat) x, env[j]? = some (some x) → j ≠ i → (∀ π, x ≠ .ptr i π) → ((env.map (killS i)).set i none)[j]? = some (some x) := fun j x e hj hx => by
    rw [List.getElem?_set_ne (Ne.symm hj), List.getElem?_map, e]
    cases x with
    | ptr k π =>
      simp only [Option.map_some, killS]
      rw [if_neg fun z => hx π (by rw [z])]
    | _ => rfl
  refine ⟨⟨by simpa using s.len, fun j w e => s.val j w (un j _ e).1, fun j p L u e => ?_, fun j k π e => ?_, fun j c e => s.exc j c (un j _ e).1, fun j e => ?_, fun j => ?_, fun j k p hj hk => ?_, fun j p hj => ?_, s.zt, s.pt⟩, bk⟩
  · obtain ⟨e0, hj, _⟩ := un j _ e
    simp only [hj, if_false]
    exact s.own j p L u e0
  · obtain ⟨e0, hj, hx⟩ := un j _ e
    obtain ⟨a, p, L, u, q1, q2, q3⟩ := s.ptr j k π e0
    have hk : k ≠ i := fun z => hx π (by rw [z])
    refine ⟨a, p, L, u, q1, bk k _ q2 hk (fun _ z => by cases z), by simpa [hk] using q3⟩
  · by_cases hj : j = i
    · subst hj; simp [h5']
    · simp only [hj, if_false]
      refine s.non j fun p L u z => e p L u (bk j _ z hj fun _ q => by cases q)
  · by_cases hj : j = i
    · simp [hj, fp_z]
    · simpa [hj] using s.nd j
  · by_cases q : j = i
    · simp [q, fp_z] at hj
    · by_cases q' : k = i
      · simp [q', fp_z] at hk
      · simp only [q, q', if_false] at hj hk
        exact s.dj j k p hj hk
  · by_cases q : j = i
    · simp [q, fp_z] at hj
    · simp only [q, if_false] at hj
      exact s.no j p hj
def eC (w : W) : M3 EV := fun env => .ok (.im w) env
theorem se_c {e : Expr} {v : V} {w : W} (h : PE X e (tC v)) (r : ∀ Z H, Rep G Z H w v) : SE G X Wx e (eC w) := by
  refine pe_imp h ?_
  rintro σ H Q ⟨g, env, ds, s, h⟩
  exact h g v H (Keep.refl g H) (s.im (r _ _))
variable {pos : Pos}
theorem se_int {i j} : SE G X Wx (.Constant (.int i) j pos) (eC (.int i)) := se_c pe_int fun _ _ => rfl
theorem se_bl {b j} : SE G X Wx (.Constant (.bool b) j pos) (eC (.bl b)) := se_c pe_bl fun _ _ => rfl
theorem se_non {j} : SE G X Wx (.Constant .none j pos) (eC .non) := se_c pe_non fun _ _ => rfl
theorem se_str {x : String} {j} : SE G X Wx (.Constant (.str (Str.ofString x)) j pos) (eC (.str x)) := se_c pe_str fun _ _ => rfl
theorem se_glob {x : Str} {v : V} {u : Value} {w : W} (hg : Gl X x) (hm : X.mg x = some u) (r : RelV v u) (rw : ∀ Z H, Rep G Z H w v) (hd : (x == ("__debug__" : Str)) = false := by decide) : SE G X Wx (.Name x pos) (eC w) := se_c (pe_glob hg hm r hd) rw
abbrev F2 := T → T → Option EV
abbrev F1 := T → Option EV
def ePair (a b : M3 EV) : M3 (EV × EV) := fun env => match a env with
  | .ok x env1 => (match pendB x b env1 with
    | .ok y env2 => .ok (x, y) env2
    | .exc c env2 => .exc c env2
    | .stuck => .stuck)
  | .exc c env1 => .exc c env1
  | .stuck => .stuck
def op2 (r : F2) (x y : EV) (env : Env3) : Out EV := match rd env x, rd env y with
  | some t, some u => (match r t u with
    | some ev => .ok ev env
    | none => .stuck)
  | _, _ => .stuck
def eOp (r : F2) (a b : M3 EV) : M3 EV := fun env => match ePair a b env with
  | .ok (x, y) env2 => op2 r x y env2
  | .exc c env2 => .exc c env2
  | .stuck => .stuck
def op1 (r : F1) (x : EV) (env : Env3) : Out EV := match rd env x with
  | some t => (match r t with
    | some ev => .ok ev env
    | none => .stuck)
  | _ => .stuck
def eUn (r : F1) (a : M3 EV) : M3 EV := fun env => match a env with
  | .ok x env1 => op1 r x env1
  | .exc c env1 => .exc c env1
  | .stuck => .stuck
def liftR (G : Gm) (r : F2) : R2 := fun x y H Q => ∃ g env σ ds tx ty dx dy ev, Sim G g env σ H ds ∧ RepT G g.Z H tx x dx ∧ RepT G g.Z H ty y dy ∧ r tx ty = some ev ∧ ∀ g' v H', Keep g H g' H' → SimE G g' env σ H' ev v → Q v H'
def liftR1 (G : Gm) (r : F1) : V → Hp → VK → Prop := fun x H Q => ∃ g env σ ds tx dx ev, Sim G g env σ H ds ∧ RepT G g.Z H tx x dx ∧ r tx = some ev ∧ ∀ g' v H', Keep g H g' H' → SimE G g' env σ H' ev v → Q v H'
theorem pend_E {ev : EV} {v : V} {f : M3 EV} {Q : VK} (s : SimE G g env σ H ev v) (h : match pendB ev f env with
    | .ok y env2 => ∀ g' u H', Keep g H g' H' → SimA G g' env2 σ H' [ev, y] [v, u] → Q u H'
    | .exc c env2 => SatX G Wx g σ H c env2
    | .stuck => False) : liftE G Wx f σ H Q := by
  obtain ⟨ds, d, s, r⟩ := s
  obtain ⟨g1, s1, hz, pk⟩ := s.pend r
  refine ⟨g1, lockE ev env, ds, s1, ?_⟩
  unfold pendB at h
  cases e : f (lockE ev env) with
  | stuck => rw [e] at h; exact h.elim
  | exc c env2 =>
    rw [e] at h
    intro g2 H2 k2 ⟨ds2, s2⟩
    obtain ⟨g3, _, k3, s3, _⟩ := pk g2 env2 H2 σ ds2 k2 s2
    exact h g3 H2 k3 ⟨ds2, s3⟩
  | ok y env2 =>
    rw [e] at h
    intro g2 u H2 k2 s2
    obtain ⟨ds2, es, s2, l2⟩ := SimA.one s2
    obtain ⟨g3, hz3, k3, s3, r3, l3⟩ := pk g2 env2 H2 σ ds2 k2 s2
    by_cases ok : okE ev env2 = true
    · simp only [ok, if_true] at h
      obtain ⟨l4, l5⟩ := l3 _ _ _ l2
      exact h g3 u H2 k3 ⟨ds2, d :: es, s3, v, [u], d, es, rfl, rfl, r3 rfl ok, l4, l5⟩
    · simp only [ok] at h; exact h.elim
theorem pair_run {fa fb : M3 EV} {Q : V → V → Hp → Prop} (s : Sim G g env σ H ds) (h : match ePair fa fb env with
    | .ok (x, y) env2 => ∀ g' v u H', Keep g H g' H' → SimA G g' env2 σ H' [x, y] [v, u] → Q v u H'
    | .exc c env2 => SatX G Wx g σ H c env2
    | .stuck => False) : liftE G Wx fa σ H fun v H1 => liftE G Wx fb σ H1 fun u H2 => Q v u H2 := by
  refine ⟨g, env, ds, s, ?_⟩
  unfold ePair at h
  cases e1 : fa env with
  | stuck => rw [e1] at h; exact h.elim
  | exc c env1 => rw [e1] at h; exact h
  | ok x env1 =>
    simp only [e1] at h
    intro g1 v H1 k1 s1
    refine pend_E s1 ?_
    cases e2 : pendB x fb env1 with
    | stuck => simp only [e2] at h
    | exc c env2 => simp only [e2] at h; exact SatX.keep h k1
    | ok y env2 =>
      simp only [e2] at h
      intro g2 u H2 k2 s2
      exact h g2 v u H2 (k1.trans k2) s2
theorem bin3 {r : F2} {fa fb : M3 EV} : ∀ σ H Q, liftE G Wx (eOp r fa fb) σ H Q → tOp (liftR G r) (liftE G Wx fa) (liftE G Wx fb) σ H Q := by
  rintro σ H Q ⟨g, env, ds, s, h⟩
  refine pair_run (Q := fun v u H2 => liftR G r v u H2 Q) s ?_
  unfold eOp at h
  cases e : ePair fa fb env with
  | stuck => rw [e] at h; exact h.elim
  | exc c env2 => rw [e] at h; exact h
  | ok xy env2 =>
    obtain ⟨x, y⟩ := xy
    rw [e] at h
    intro g2 v u H2 k2 s2
    have h' : SatE G Wx g σ H Q (op2 r x y env2) := h
    unfold op2 at h'
    split at h'
    · rename_i t w e1 e2
      split at h'
      · rename_i ev e3
        obtain ⟨dx, rx⟩ := s2.hd.rd e1
        obtain ⟨dy, ry⟩ := s2.tl.hd.rd e2
        obtain ⟨ds2, s3⟩ := s2.n
        exact ⟨g2, env2, σ, ds2, t, w, dx, dy, ev, s3, rx, ry, e3, fun g' v' H' k' s' => h' g' v' H' (k2.trans k') s'⟩
      · exact h'.elim
    · exact h'.elim
theorem un3 {r : F1} {fa : M3 EV} : ∀ σ H Q, liftE G Wx (eUn r fa) σ H Q → tUn (liftR1 G r) (liftE G Wx fa) σ H Q := by
  rintro σ H Q ⟨g, env, ds, s, h⟩
  refine ⟨g, env, ds, s, ?_⟩
  unfold eUn at h
  cases e : fa env with
  | stuck => rw [e] at h; exact h.elim
  | exc c env2 => rw [e] at h; exact h
  | ok x env1 =>
    rw [e] at h
    intro g1 v H1 k1 s1
    have h' : SatE G Wx g σ H Q (op1 r x env1) := h
    unfold op1 at h'
    split at h'
    · rename_i t e1
      split at h'
      · rename_i ev e3
        obtain ⟨dx, rx⟩ := s1.rd e1
        obtain ⟨ds2, s3⟩ := s1.n
        exact ⟨g1, env1, σ, ds2, t, dx, ev, s3, rx, e3, fun g' v' H' k' s' => h' g' v' H' (k1.trans k') s'⟩
      · exact h'.elim
    · exact h'.elim
variable {a b e : Expr} {fa fb fe : M3 EV}
theorem se_bin {op : Operator} {r : F2} (ho : OpR X (binaryOp op) (liftR G r)) (ha : SE G X Wx a fa) (hb : SE G X Wx b fb) : SE G X Wx (.BinOp a op b pos) (eOp r fa fb) := pe_imp (pe_op ho ha hb) bin3
theorem se_cmp {op : CmpOp} {r : F2} (ho : OpR X (compareOp op) (liftR G r)) (ha : SE G X Wx a fa) (hb : SE G X Wx b fb) (hm : behindInMarks op b = false) : SE G X Wx (.Compare a [op] [b] pos) (eOp r fa fb) := pe_imp (pe_cmpR ho ha hb hm) bin3
theorem se_un {op : UnaryOp} {r : F1} (ho : UnR X (unaryOp op) (liftR1 G r)) (ha : SE G X Wx a fa) : SE G X Wx (.UnaryOp op a pos) (eUn r fa) := pe_imp (pe_un ho ha) un3
theorem opR_imp {f : Value → Value → Sem Value} {r r' : R2} (h : OpR X f r) (i : ∀ x y H Q, r' x y H Q → r x y H Q) : OpR X f r' := fun pins s σ H x y v u Q I rx ry q => h pins s σ H x y v u Q I rx ry (i _ _ _ _ q)
theorem unR_imp {f : Value → Sem Value} {r r' : V → Hp → VK → Prop} (h : UnR X f r) (i : ∀ x H Q, r' x H Q → r x H Q) : UnR X f r' := fun pins s σ H x v Q I rx q => h pins s σ H x v Q I rx (i _ _ _ q)
theorem opR_or {f : Value → Value → Sem Value} {r1 r2 : R2} (h1 : OpR X f r1) (h2 : OpR X f r2) : OpR X f (fun x y H Q => r1 x y H Q ∨ r2 x y H Q) := fun pins s σ H x y v u Q I rx ry q => q.elim (h1 pins s σ H x y v u Q I rx ry) (h2 pins s σ H x y v u Q I rx ry)
instance {i j : Int} : Decidable (CMul i j) := inferInstanceAs (Decidable (_ ∨ _))
instance {i j : Int} : Decidable (CMulW i j) := inferInstanceAs (Decidable (_ < _))
instance {i j : Int} : Decidable (CDivW i j) := inferInstanceAs (Decidable (_ ∧ _))
instance {i j : Int} : Decidable (CPow i j) := inferInstanceAs (Decidable (_ ∧ _))
def fInt (C : Int → Int → Prop) [∀ i j, Decidable (C i j)] (f : Int → Int → W) : F2 := fun x y => match x, y with
  | .im (.int i), .im (.int j) => if C i j then some (.im (f i j)) else none
  | _, _ => none
def fInt0 (f : Int → Int → W) : F2 := fun x y => match x, y with
  | .im (.int i), .im (.int j) => some (.im (f i j))
  | _, _ => none
theorem fInt_lift {C : Int → Int → Prop} [∀ i j, Decidable (C i j)] {f : Int → Int → Int} : ∀ x y H Q, liftR G (fInt C fun i j => .int (f i j)) x y H Q → rI C (fun i j => .int (f i j)) x y H Q := by
  rintro x y H Q ⟨g, env, σ, ds, tx, ty, dx, dy, ev, s, rx, ry, q, k⟩
  unfold fInt at q
  split at q
  · rename_i i j
    by_cases hc : C i j
    · rw [if_pos hc] at q
      cases q
      exact ⟨i, j, rx.2, ry.2, hc, k g _ H (Keep.refl g H) (s.im rfl)⟩
    · rw [if_neg hc] at q; cases q
  · cases q
theorem fInt0_lift {f : Int → Int → Int} : ∀ x y H Q, liftR G (fInt0 fun i j => .int (f i j)) x y H Q → rI0 (fun i j => .int (f i j)) x y H Q := by
  rintro x y H Q ⟨g, env, σ, ds, tx, ty, dx, dy, ev, s, rx, ry, q, k⟩
  unfold fInt0 at q
  split at q
  · cases q
    exact ⟨_, _, rx.2, ry.2, k g _ H (Keep.refl g H) (s.im rfl)⟩
  · cases q
theorem fIntB_lift {f : Int → Int → Bool} : ∀ x y H Q, liftR G (fInt0 fun i j => .bl (f i j)) x y H Q → rI0 (fun i j => .bl (f i j)) x y H Q := by
  rintro x y H Q ⟨g, env, σ, ds, tx, ty, dx, dy, ev, s, rx, ry, q, k⟩
  unfold fInt0 at q
  split at q
  · cases q
    exact ⟨_, _, rx.2, ry.2, k g _ H (Keep.refl g H) (s.im rfl)⟩
  · cases q
def fSub : F2 := fInt0 fun i j => .int (i - j)
def fMul : F2 := fInt (fun i j => CMul i j ∨ CMulW i j) fun i j => .int (i * j)
def fDiv : F2 := fInt CDivW fun i j => .int (i / j)
def fMod : F2 := fInt (fun _ j => 0 < j) fun i j => .int (i % j)
def fPow : F2 := fInt CPow fun i j => .int (i ^ j.toNat)
theorem op_mulA : OpR X (binaryOp .Mult) (rI (fun i j => CMul i j ∨ CMulW i j) fun i j => .int (i * j)) := opR_imp (opR_or op_mul op_mulW) fun x y H Q ⟨i, j, h1, h2, h3, h4⟩ => h3.elim (fun h3 => .inl ⟨i, j, h1, h2, h3, h4⟩) fun h3 => .inr ⟨i, j, h1, h2, h3, h4⟩
theorem se_sub (ha : SE G X Wx a fa) (hb : SE G X Wx b fb) : SE G X Wx (.BinOp a .Sub b pos) (eOp fSub fa fb) := se_bin (opR_imp op_sub fInt0_lift) ha hb
theorem se_fdiv (ha : SE G X Wx a fa) (hb : SE G X Wx b fb) : SE G X Wx (.BinOp a .FloorDiv b pos) (eOp fDiv fa fb) := se_bin (opR_imp op_fdivW fInt_lift) ha hb
theorem se_mod (ha : SE G X Wx a fa) (hb : SE G X Wx b fb) : SE G X Wx (.BinOp a .Mod b pos) (eOp fMod fa fb) := se_bin (opR_imp op_mod fInt_lift) ha hb
theorem se_pow (ha : SE G X Wx a fa) (hb : SE G X Wx b fb) : SE G X Wx (.BinOp a .Pow b pos) (eOp fPow fa fb) := se_bin (opR_imp op_pow fInt_lift) ha hb
def fNeg : F1 := fun x => match x with
  | .im (.int i) => some (.im (.int (-i)))
  | _ => none
theorem se_neg (ha : SE G X Wx a fa) : SE G X Wx (.UnaryOp .USub a pos) (eUn fNeg fa) := by
  refine se_un (unR_imp un_neg ?_) ha
  rintro x H Q ⟨g, env, σ, ds, tx, dx, ev, s, rx, q, k⟩
  unfold fNeg at q
  split at q
  · cases q
    exact ⟨_, rx.2, k g _ H (Keep.refl g H) (s.im rfl)⟩
  · cases q
def fLt : F2 := fInt0 fun i j => .bl (decide (i < j))
def fGt : F2 := fInt0 fun i j => .bl (decide (j < i))
end
end VL
namespace VL
open PySem L2
mutual
def W.dat : W → PyData
  | .non => .none
  | .bl b => .bool b
  | .int i => .int i
  | .str s => .str (Str.ofString s)
  | .tup xs => .tuple (W.dats xs)
  | .ktp xs => .tuple (W.dats xs)
  | .lst xs => .list (W.dats xs)
  | .scr xs => .list (W.dats xs)
  | .ins _ _ => .none
def W.dats : List W → List PyData
  | [] => []
  | x :: xs => W.dat x :: W.dats xs
end
mutual
def okW : Nat → W → Bool
  | _, .non => true
  | _, .bl _ => true
  | _, .int _ => true
  | _, .str _ => true
  | n + 1, .tup xs => okWs n xs
  | n + 1, .ktp xs => okWs n xs
  | n + 1, .lst xs => okWs n xs
  | n + 1, .scr xs => okWs n xs
  | _, _ => false
def okWs : Nat → List W → Bool
  | _, [] => true
  | n, x :: xs => okW n x && okWs n xs
end
mutual
def W.eqv : W → W → Bool
  | .non, .non => true
  | .bl a, .bl b => a == b
  | .bl a, .int j => decide ((if a then 1 else 0) = j)
  | .int i, .bl b => decide (i = (if b then 1 else 0))
  | .int i, .int j => decide (i = j)
  | .str x, .str y => decide (x = y)
  | .tup xs, .tup ys => W.eqvs xs ys
  | .tup xs, .ktp ys => W.eqvs xs ys
  | .ktp xs, .tup ys => W.eqvs xs ys
  | .ktp xs, .ktp ys => W.eqvs xs ys
  | .lst xs, .lst ys => W.eqvs xs ys
  | .lst xs, .scr ys => W.eqvs xs ys
  | .scr xs, .lst ys => W.eqvs xs ys
  | .scr xs, .scr ys => W.eqvs xs ys
  | _, _ => false
def W.eqvs : List W → List W → Bool
  | [], [] => true
  | x :: xs, y :: ys => W.eqv x y && W.eqvs xs ys
  | _, _ => false
end
mutual
def T.toW : T → Option W
  | .im w => some w
  | .ml xs => (T.toWs xs).map .lst
  | .tp xs => (T.toWs xs).map .tup
  | _ => none
def T.toWs : List T → Option (List W)
  | [] => some []
  | x :: xs => (T.toW x).bind fun y => (T.toWs xs).map fun ys => y :: ys
end
theorem strOk_ofString (s : String) : PySem.PyData.strOk (Str.ofString s) = true := by
  unfold PySem.PyData.strOk
  rw [Str.ofString_eq_toList]
  show Array.all (s.toList.map Char.toNat).toArray (fun x => decide (x < 0x110000)) = true
  rw [List.all_toArray, List.all_eq_true]
  intro n hn
  obtain ⟨c, _, rfl⟩ := List.mem_map.mp hn
  have := c.valid
  have h2 : c.val.toNat < 0x110000 := by
    rcases c.valid with h | ⟨_, h⟩
    · exact Nat.lt_trans h (by decide)
    · exact h
  exact decide_eq_true h2
theorem ofString_len (s : String) : (Str.ofString s).length = s.length := by
  rw [Str.ofString_eq_toList]
  show (s.toList.map Char.toNat).toArray.size = _
  rw [List.size_toArray, List.length_map, String.length_toList]
theorem ofString_inj {s t : String} (h : Str.ofString s = Str.ofString t) : s = t := by
  rw [Str.ofString_eq_toList, Str.ofString_eq_toList] at h
  have h1 : (s.toList.map Char.toNat) = (t.toList.map Char.toNat) := by
    have h2 := congrArg Str.cps h
    simpa using congrArg Array.toList h2
  have h3 : s.toList = t.toList := by
    have inj : ∀ (l m : List Char), l.map Char.toNat = m.map Char.toNat → l = m := by
      intro l
      induction l with
      | nil => intro m h; cases m with
        | nil => rfl
        | cons _ _ => cases h
      | cons c l ih => intro m h; cases m with
        | nil => cases h
        | cons d m =>
          rw [List.map_cons, List.map_cons] at h
          injection h with h1 h2
          rw [ih m h2, Char.toNat_inj.mp h1]
    exact inj _ _ h1
  exact String.ext (by simpa using h3)
theorem ofString_app (s t : String) : Str.ofString (s ++ t) = Str.ofString s ++ Str.ofString t := by
  rw [Str.ofString_eq_toList, Str.ofString_eq_toList, Str.ofString_eq_toList]
  show _ = (⟨_ ++ _⟩ : Str)
  simp
mutual
theorem dat_can : ∀ w : W, (W.dat w).canLay0 = true
  | .non => rfl
  | .bl _ => rfl
  | .int _ => rfl
  | .str s => by
    show PyData.canLay0 (.str _) = true
    unfold PyData.canLay0
    exact strOk_ofString s
  | .tup xs => by
    show PyData.canLay0 (.tuple _) = true
    unfold PyData.canLay0
    exact dats_can xs
  | .ktp xs => by
    show PyData.canLay0 (.tuple _) = true
    unfold PyData.canLay0
    exact dats_can xs
  | .lst xs => by
    show PyData.canLay0 (.list _) = true
    unfold PyData.canLay0
    exact dats_can xs
  | .scr xs => by
    show PyData.canLay0 (.list _) = true
    unfold PyData.canLay0
    exact dats_can xs
  | .ins _ _ => rfl
theorem dats_can : ∀ ws : List W, PyData.canLayAll0 (W.dats ws) = true
  | [] => rfl
  | x :: xs => by
    show PyData.canLayAll0 (_ :: _) = true
    unfold PyData.canLayAll0
    rw [dat_can x, dats_can xs]; rfl
end
mutual
theorem dat_depth : ∀ (n : Nat) (w : W), okW n w = true → (W.dat w).depth ≤ n
  | n, .non, _ => Nat.zero_le _
  | n, .bl _, _ => Nat.zero_le _
  | n, .int _, _ => Nat.zero_le _
  | n, .str s, _ => Nat.zero_le _
  | n + 1, .tup xs, h => by
    show PyData.depth (.tuple _) ≤ _
    unfold PyData.depth
    exact Nat.succ_le_succ (dats_depth n xs h)
  | n + 1, .ktp xs, h => by
    show PyData.depth (.tuple _) ≤ _
    unfold PyData.depth
    exact Nat.succ_le_succ (dats_depth n xs h)
  | n + 1, .lst xs, h => by
    show PyData.depth (.list _) ≤ _
    unfold PyData.depth
    exact Nat.succ_le_succ (dats_depth n xs h)
  | n + 1, .scr xs, h => by
    show PyData.depth (.list _) ≤ _
    unfold PyData.depth
    exact Nat.succ_le_succ (dats_depth n xs h)
  | 0, .tup _, h => by cases h
  | 0, .ktp _, h => by cases h
  | 0, .lst _, h => by cases h
  | 0, .scr _, h => by cases h
  | 0, .ins _ _, h => by cases h
  | n + 1, .ins _ _, h => by cases h
theorem dats_depth : ∀ (n : Nat) (ws : List W), okWs n ws = true → PyData.depthAll (W.dats ws) ≤ n
  | _, [], _ => Nat.zero_le _
  | n, x :: xs, h => by
    show PyData.depthAll (_ :: _) ≤ n
    unfold PyData.depthAll
    simp only [okWs, Bool.and_eq_true] at h
    have h1 := dat_depth n x h.1
    have h2 := dats_depth n xs h.2
    omega
end
theorem dat_shaped {w : W} (h : okW 64 w = true) : SeqAt.shaped (W.dat w) = true := by
  unfold SeqAt.shaped
  rw [dat_can, Bool.true_and]
  exact decide_eq_true (dat_depth 64 w h)
mutual
theorem eqv_dat : ∀ (n m : Nat) (x y : W), okW n x = true → okW m y = true → PyData.eqv (W.dat x) (W.dat y) = W.eqv x y
  | n, m, .non, y, hx, hy => by cases y <;> simp_all [W.dat, W.eqv, okW, PyData.eqv]
  | n, m, .bl a, y, hx, hy => by cases y <;> simp_all [W.dat, W.eqv, okW, PyData.eqv] <;> rfl
  | n, m, .int i, y, hx, hy => by cases y <;> simp_all [W.dat, W.eqv, okW, PyData.eqv] <;> rfl
  | n, m, .str s, y, hx, hy => by
    cases y <;> simp_all [W.dat, W.eqv, okW, PyData.eqv]
    rename_i t
    by_cases e : s = t
    · subst e; simp
    · have : ¬ Str.ofString s = Str.ofString t := fun h => e (ofString_inj h)
      simp [e, this]
  | n + 1, m, .tup xs, y, hx, hy => by
    cases y <;> try (simp_all [W.dat, W.eqv, okW, PyData.eqv]; done)
    all_goals (cases m with
      | zero => simp [okW] at hy
      | succ m => simp only [W.dat, W.eqv, PyData.eqv]; exact eqvs_dat n m _ _ hx hy)
  | n + 1, m, .ktp xs, y, hx, hy => by
    cases y <;> try (simp_all [W.dat, W.eqv, okW, PyData.eqv]; done)
    all_goals (cases m with
      | zero => simp [okW] at hy
      | succ m => simp only [W.dat, W.eqv, PyData.eqv]; exact eqvs_dat n m _ _ hx hy)
  | n + 1, m, .lst xs, y, hx, hy => by
    cases y <;> try (simp_all [W.dat, W.eqv, okW, PyData.eqv]; done)
    all_goals (cases m with
      | zero => simp [okW] at hy
      | succ m => simp only [W.dat, W.eqv, PyData.eqv]; exact eqvs_dat n m _ _ hx hy)
  | n + 1, m, .scr xs, y, hx, hy => by
    cases y <;> try (simp_all [W.dat, W.eqv, okW, PyData.eqv]; done)
    all_goals (cases m with
      | zero => simp [okW] at hy
      | succ m => simp only [W.dat, W.eqv, PyData.eqv]; exact eqvs_dat n m _ _ hx hy)
  | 0, m, .tup _, y, h, _ => by simp [okW] at h
  | 0, m, .ktp _, y, h, _ => by simp [okW] at h
  | 0, m, .lst _, y, h, _ => by simp [okW] at h
  | 0, m, .scr _, y, h, _ => by simp [okW] at h
  | n, m, .ins _ _, y, h, _ => by cases n <;> simp [okW] at h
theorem eqvs_dat : ∀ (n m : Nat) (xs ys : List W), okWs n xs = true → okWs m ys = true → PyData.eqvAll (W.dats xs) (W.dats ys) = W.eqvs xs ys
  | _, _, [], [], _, _ => by simp [W.dats, PyData.eqvAll, W.eqvs]
  | _, _, [], _ :: _, _, _ => by simp [W.dats, PyData.eqvAll, W.eqvs]
  | _, _, _ :: _, [], _, _ => by simp [W.dats, PyData.eqvAll, W.eqvs]
  | n, m, x :: xs, y :: ys, hx, hy => by
    simp only [okWs, Bool.and_eq_true] at hx hy
    simp only [W.dats, PyData.eqvAll, W.eqvs]
    rw [eqv_dat n m x y hx.1 hy.1, eqvs_dat n m xs ys hx.2 hy.2]
end
mutual
theorem rep_dp {G : Gm} {Z : Addr → Prop} {H : Hp} : ∀ (n : Nat) {w : W} {v : V}, okW n w = true → Rep G Z H w v → Dp G.K H v (W.dat w)
  | n, .non, v, _, r => by rw [show v = _ from r]; exact .non
  | n, .bl b, v, _, r => by rw [show v = _ from r]; exact .bl b
  | n, .int i, v, _, r => by rw [show v = _ from r]; exact .int i
  | n, .str s, v, _, r => by rw [show v = _ from r]; exact .str _
  | n + 1, .tup xs, v, h, r => by
    obtain ⟨p, vs, rfl, h1, q⟩ := r
    exact .tup (SqT.of h1) (repL_dp n h q)
  | n + 1, .ktp xs, v, h, r => by
    obtain ⟨p, vs, rfl, h1, q⟩ := r
    exact .tup h1 (repL_dp n h q)
  | n + 1, .lst xs, v, h, r => by
    obtain ⟨p, vs, rfl, _, h1, q⟩ := r
    exact .lst (SqL.of h1) (repL_dp n h q)
  | n + 1, .scr xs, v, h, r => by
    obtain ⟨p, vs, rfl, h1, q⟩ := r
    exact .lst h1.seq (repL_dp n h q)
  | 0, .tup _, v, h, r => by simp [okW] at h
  | 0, .ktp _, v, h, r => by simp [okW] at h
  | 0, .lst _, v, h, r => by simp [okW] at h
  | 0, .scr _, v, h, r => by simp [okW] at h
  | n, .ins _ _, v, h, r => by cases n <;> simp [okW] at h
theorem repL_dp {G : Gm} {Z : Addr → Prop} {H : Hp} : ∀ (n : Nat) {ws : List W} {vs : List V}, okWs n ws = true → RepL G Z H ws vs → DpAll G.K H vs (W.dats ws)
  | _, [], vs, _, r => by rw [show vs = _ from r]; exact .nil
  | n, x :: xs, vs, h, r => by
    obtain ⟨v, rr, rfl, a, b⟩ := r
    simp only [okWs, Bool.and_eq_true] at h
    exact .cons (rep_dp n h.1 a) (repL_dp n h.2 b)
end
mutual
theorem repT_dp {G : Gm} {Z : Addr → Prop} {H : Hp} : ∀ (n : Nat) {t : T} {w : W} {v : V} {d : D}, t.toW = some w → okW n w = true → RepT G Z H t v d → Dp G.K H v (W.dat w)
  | n, .im w', w, v, d, e, h, r => by cases e; exact rep_dp n h r.2
  | n, .ml xs, w, v, d, e, h, r => by
    obtain ⟨ys, e1, rfl⟩ := Option.map_eq_some_iff.mp (show (T.toWs xs).map W.lst = some w from e)
    obtain ⟨p, vs, ds, rfl, _, h1, q⟩ := r
    cases n with
    | zero => simp [okW] at h
    | succ n => exact .lst (SqL.of h1) (repTL_dp n e1 h q)
  | n, .tp xs, w, v, d, e, h, r => by
    obtain ⟨ys, e1, rfl⟩ := Option.map_eq_some_iff.mp (show (T.toWs xs).map W.tup = some w from e)
    obtain ⟨p, vs, ds, rfl, _, h1, q⟩ := r
    cases n with
    | zero => simp [okW] at h
    | succ n => exact .tup (SqT.of h1) (repTL_dp n e1 h q)
  | _, .md _, _, _, _, e, _, _ => by simp [T.toW] at e
  | _, .mt _, _, _, _, e, _, _ => by simp [T.toW] at e
  | _, .mi _ _, _, _, _, e, _, _ => by simp [T.toW] at e
theorem repTL_dp {G : Gm} {Z : Addr → Prop} {H : Hp} : ∀ (n : Nat) {ts : List T} {ws : List W} {vs : List V} {ds : List D}, T.toWs ts = some ws → okWs n ws = true → RepTL G Z H ts vs ds → DpAll G.K H vs (W.dats ws)
  | _, [], ws, vs, ds, e, _, r => by cases e; rw [r.1]; exact .nil
  | n, x :: xs, ws, vs, ds, e, h, r => by
    obtain ⟨v, rr, d, dr, rfl, rfl, a, b⟩ := r
    obtain ⟨y, e1, e2⟩ := Option.bind_eq_some_iff.mp (show (T.toW x).bind (fun y => (T.toWs xs).map fun ys => y :: ys) = some ws from e)
    obtain ⟨zs, e3, rfl⟩ := Option.map_eq_some_iff.mp e2
    simp only [okWs, Bool.and_eq_true] at h
    exact .cons (repT_dp n e1 h.1 a) (repTL_dp n e3 h.2 b)
end
def eqT (x y : T) : Option Bool := match x.toW, y.toW with
  | some a, some b => if okW 64 a = true ∧ okW 64 b = true then some (W.eqv a b) else none
  | _, _ => none
def fEq : F2 := fun x y => (eqT x y).map fun b => .im (.bl b)
def fNe : F2 := fun x y => (eqT x y).map fun b => .im (.bl (!b))
section
variable {G : Gm} {X : Cx} {Wx : WX} {a b c e : Expr} {fa fb fc fe : M3 EV} {pos : Pos} {g : Gh} {env : Env3} {σ : L2.St} {H : Hp} {ds : Nat → D}
theorem eqT_dp {Z : Addr → Prop} {tx ty : T} {x y : V} {dx dy : D} {r : Bool} (h : eqT tx ty = some r) (rx : RepT G Z H tx x dx) (ry : RepT G Z H ty y dy) :
    ∃ a b, Dp G.K H x a ∧ Dp G.K H y b ∧ SeqAt.shaped a = true ∧ SeqAt.shaped b = true ∧ PyData.eqv a b = r := by
  unfold eqT at h
  split at h
  · rename_i a b e1 e2
    split at h
    · rename_i hk
      cases h
      exact ⟨_, _, repT_dp 64 e1 hk.1 rx, repT_dp 64 e2 hk.2 ry, dat_shaped hk.1, dat_shaped hk.2, eqv_dat 64 64 _ _ hk.1 hk.2⟩
    · cases h
  · cases h
theorem op_fEq (hK : X.K = G.K) (hu : X.A.units + 64 < cLine) : OpR X (compareOp .Eq) (liftR G fEq) := by
  refine opR_imp (op_eqD hu) ?_
  rintro x y H Q ⟨g, env, σ, ds, tx, ty, dx, dy, ev, s, rx, ry, q, k⟩
  obtain ⟨r, h1, rfl⟩ := Option.map_eq_some_iff.mp q
  obtain ⟨a, b, h2, h3, h4, h5, h6⟩ := eqT_dp h1 rx ry
  rw [hK]
  exact ⟨_, _, h2, h3, h4, h5, k g _ H (Keep.refl g H) (s.im (by rw [h6]; exact rfl))⟩
theorem op_fNe (hK : X.K = G.K) (hu : X.A.units + 64 < cLine) : OpR X (compareOp .NotEq) (liftR G fNe) := by
  refine opR_imp (op_neD hu) ?_
  rintro x y H Q ⟨g, env, σ, ds, tx, ty, dx, dy, ev, s, rx, ry, q, k⟩
  obtain ⟨r, h1, rfl⟩ := Option.map_eq_some_iff.mp q
  obtain ⟨a, b, h2, h3, h4, h5, h6⟩ := eqT_dp h1 rx ry
  rw [hK]
  exact ⟨_, _, h2, h3, h4, h5, k g _ H (Keep.refl g H) (s.im (by rw [h6]; exact rfl))⟩
theorem se_eq (hu : X.A.units + 64 < cLine) (ha : SE G X Wx a fa) (hb : SE G X Wx b fb) (hK : X.K = G.K := by rfl) : SE G X Wx (.Compare a [.Eq] [b] pos) (eOp fEq fa fb) := se_cmp (op_fEq hK hu) ha hb (nobehind _ (by decide) (by decide))
def T.isNon : T → Bool
  | .im .non => true
  | _ => false
def bVal (f : M3 EV) : M3 Bool := fun env => match f env with
  | .ok (.im (.bl b)) env1 => .ok b env1
  | .exc c env1 => .exc c env1
  | _ => .stuck
theorem sb_val (h : SE G X Wx e fe) (he : ∀ whole, isTrue e X.env whole = (do let v ← whole; standAt e.pos; holding [v] (truthy v)) := by intro _; rfl) : SB G X Wx e (bVal fe) := by
  refine pt_imp (pt_val h he) ?_
  rintro σ H Q ⟨g, env, ds, s, h⟩
  refine ⟨g, env, ds, s, ?_⟩
  unfold bVal at h
  cases e1 : fe env with
  | stuck => rw [e1] at h; exact h.elim
  | exc c env1 => rw [e1] at h; exact h
  | ok ev env1 =>
    rw [e1] at h
    cases ev with
    | im w =>
      cases w with
      | bl b =>
        intro g1 v H1 k1 ⟨ds1, d1, s1, r1⟩
        exact ⟨b, r1.2, h g1 H1 k1 ⟨ds1, s1⟩⟩
      | _ => exact h.elim
    | _ => exact h.elim
theorem sb_cmp {op : CmpOp} {r : F2} (ho : OpR X (compareOp op) (liftR G r)) (ha : SE G X Wx a fa) (hb : SE G X Wx b fb) (hm : behindInMarks op b = false) : SB G X Wx (.Compare a [op] [b] pos) (bVal (eOp r fa fb)) := by
  refine pt_imp (pt_cmpR ho ha hb hm) ?_
  rintro σ H Q ⟨g, env, ds, s, h⟩
  refine bin3 (Wx := Wx) (G := G) (fa := fa) (fb := fb) (r := r) σ H (fun v H1 => ∃ c, v = .bl c ∧ Q c H1) ⟨g, env, ds, s, ?_⟩
  unfold bVal at h
  cases e1 : eOp r fa fb env with
  | stuck => rw [e1] at h; exact h.elim
  | exc c env1 => rw [e1] at h; exact h
  | ok ev env1 =>
    rw [e1] at h
    cases ev with
    | im w =>
      cases w with
      | bl b =>
        intro g1 v H1 k1 ⟨ds1, d1, s1, r1⟩
        exact ⟨b, r1.2, h g1 H1 k1 ⟨ds1, s1⟩⟩
      | _ => exact h.elim
    | _ => exact h.elim
def bNot (f : M3 Bool) : M3 Bool := fun env => match f env with
  | .ok b env1 => .ok (!b) env1
  | .exc c env1 => .exc c env1
  | .stuck => .stuck
def bAnd (f k : M3 Bool) : M3 Bool := fun env => match f env with
  | .ok b env1 => if b = true then k env1 else .ok false env1
  | .exc c env1 => .exc c env1
  | .stuck => .stuck
def bOr (f k : M3 Bool) : M3 Bool := fun env => match f env with
  | .ok b env1 => if b = true then .ok true env1 else k env1
  | .exc c env1 => .exc c env1
  | .stuck => .stuck
theorem sb_not {f : M3 Bool} (h : SB G X Wx a f) : SB G X Wx (.UnaryOp .Not a pos) (bNot f) := by
  refine pt_imp (pt_not h) ?_
  rintro σ H Q ⟨g, env, ds, s, h⟩
  refine ⟨g, env, ds, s, ?_⟩
  unfold bNot at h
  cases e1 : f env with
  | stuck => rw [e1] at h; exact h.elim
  | exc c env1 => rw [e1] at h; exact h
  | ok b env1 => rw [e1] at h; exact h
theorem sw_sb {f : M3 Bool} (h : SW G X Wx e f) : SB G X Wx e f := h.pt
theorem sw_and1 {f : M3 Bool} (h : SB G X Wx a f) : SW G X Wx (.BoolOp .And [a] pos) f := pw_and1 h
theorem sw_or1 {f : M3 Bool} (h : SB G X Wx a f) : SW G X Wx (.BoolOp .Or [a] pos) f := pw_or1 h
theorem sw_and {f k : M3 Bool} {rest : List Expr} (ha : SB G X Wx a f) (hb : SW G X Wx (.BoolOp .And (b :: rest) pos) k) : SW G X Wx (.BoolOp .And (a :: b :: rest) pos) (bAnd f k) := by
  refine pw_imp (pw_and ha hb) ?_
  rintro σ H Q ⟨g, env, ds, s, h⟩
  refine ⟨g, env, ds, s, ?_⟩
  unfold bAnd at h
  cases e1 : f env with
  | stuck => rw [e1] at h; exact h.elim
  | exc c env1 => rw [e1] at h; exact h
  | ok b env1 =>
    rw [e1] at h
    intro g1 H1 k1 ⟨ds1, s1⟩
    cases b with
    | true => exact ⟨g1, env1, ds1, s1, SatB.keep h k1⟩
    | false => exact h g1 H1 k1 ⟨ds1, s1⟩
theorem sw_or {f k : M3 Bool} {rest : List Expr} (ha : SB G X Wx a f) (hb : SW G X Wx (.BoolOp .Or (b :: rest) pos) k) : SW G X Wx (.BoolOp .Or (a :: b :: rest) pos) (bOr f k) := by
  refine pw_imp (pw_or ha hb) ?_
  rintro σ H Q ⟨g, env, ds, s, h⟩
  refine ⟨g, env, ds, s, ?_⟩
  unfold bOr at h
  cases e1 : f env with
  | stuck => rw [e1] at h; exact h.elim
  | exc c env1 => rw [e1] at h; exact h
  | ok b env1 =>
    rw [e1] at h
    intro g1 H1 k1 ⟨ds1, s1⟩
    cases b with
    | false => exact ⟨g1, env1, ds1, s1, SatB.keep h k1⟩
    | true => exact h g1 H1 k1 ⟨ds1, s1⟩
def eAnd (f k : M3 EV) : M3 EV := fun env => match f env with
  | .ok (.im (.bl b)) env1 => if b = true then k env1 else .ok (.im (.bl false)) env1
  | .exc c env1 => .exc c env1
  | _ => .stuck
def eNot (f : M3 EV) : M3 EV := fun env => match f env with
  | .ok (.im (.bl b)) env1 => .ok (.im (.bl (!b))) env1
  | .exc c env1 => .exc c env1
  | _ => .stuck
theorem se_one {op} {f : M3 EV} (h : SE G X Wx a f) : SE G X Wx (.BoolOp op [a] pos) f := pe_one h
theorem se_and {rest : List Expr} (ha : SE G X Wx a fa) (hb : SE G X Wx (.BoolOp .And (b :: rest) pos) fb) : SE G X Wx (.BoolOp .And (a :: b :: rest) pos) (eAnd fa fb) := by
  refine pe_imp (pe_and ha hb) ?_
  rintro σ H Q ⟨g, env, ds, s, h⟩
  refine ⟨g, env, ds, s, ?_⟩
  unfold eAnd at h
  cases e1 : fa env with
  | stuck => rw [e1] at h; exact h.elim
  | exc c env1 => rw [e1] at h; exact h
  | ok ev env1 =>
    rw [e1] at h
    cases ev with
    | im w =>
      cases w with
      | bl b =>
        intro g1 v H1 k1 ⟨ds1, d1, s1, r1⟩
        refine ⟨b, r1.2, ?_⟩
        cases b with
        | true => exact ⟨g1, env1, ds1, s1, SatE.keep h k1⟩
        | false => exact h g1 _ H1 k1 (s1.im rfl)
      | _ => exact h.elim
    | _ => exact h.elim
theorem se_not (ha : SE G X Wx a fa) : SE G X Wx (.UnaryOp .Not a pos) (eNot fa) := by
  refine pe_imp (pe_not ha) ?_
  rintro σ H Q ⟨g, env, ds, s, h⟩
  refine ⟨g, env, ds, s, ?_⟩
  unfold eNot at h
  cases e1 : fa env with
  | stuck => rw [e1] at h; exact h.elim
  | exc c env1 => rw [e1] at h; exact h
  | ok ev env1 =>
    rw [e1] at h
    cases ev with
    | im w =>
      cases w with
      | bl b =>
        intro g1 v H1 k1 ⟨ds1, d1, s1, r1⟩
        exact ⟨b, r1.2, h g1 _ H1 k1 (s1.im rfl)⟩
      | _ => exact h.elim
    | _ => exact h.elim
theorem big_size {n : Nat} (h : n ≤ 10000000) : n ≤ sizeLine := Nat.le_trans h (by decide)
theorem RepL.length {Z : Addr → Prop} : ∀ {xs : List W} {vs : List V}, RepL G Z H xs vs → vs.length = xs.length
  | [], _, h => by
    have h' : _ = [] := h
    subst h'; rfl
  | x :: xs, _, ⟨v, r, e, a, b⟩ => by subst e; simp [RepL.length b]
theorem RepL.append {Z : Addr → Prop} : ∀ {xs ys : List W} {vs us : List V}, RepL G Z H xs vs → RepL G Z H ys us → RepL G Z H (xs ++ ys) (vs ++ us)
  | [], _, _, _, h, h2 => by
    have h' : _ = [] := h
    subst h'; exact h2
  | x :: xs, _, _, _, ⟨v, r, e, a, b⟩, h2 => by subst e; exact ⟨v, _, rfl, a, RepL.append b h2⟩
def fAdd : F2 := fun x y => match x, y with
  | .im (.int i), .im (.int j) => some (.im (.int (i + j)))
  | .im (.str s), .im (.str t) => if s.length + t.length ≤ 10000000 then some (.im (.str (s ++ t))) else none
  | .im (.tup xs), .im (.tup ys) => if xs.length + ys.length ≤ 10000000 then some (.im (.tup (xs ++ ys))) else none
  | _, _ => none
theorem op_fAdd (hK : X.K = G.K) : OpR X (binaryOp .Add) (liftR G fAdd) := by
  refine opR_imp (opR_or op_add (opR_or op_add_str op_catA)) ?_
  rintro x y H Q ⟨g, env, σ, ds, tx, ty, dx, dy, ev, s, rx, ry, q, k⟩
  unfold fAdd at q
  split at q
  · cases q
    exact .inl ⟨_, _, rx.2, ry.2, k g _ H (Keep.refl g H) (s.im rfl)⟩
  · rename_i a b
    split at q
    · rename_i hz
      cases q
      refine .inr (.inl ⟨_, _, rx.2, ry.2, ?_, k g _ H (Keep.refl g H) (s.im ?_)⟩)
      · rw [ofString_len, ofString_len]; exact big_size hz
      · rw [← ofString_app]; exact rfl
    · cases q
  · rename_i xs ys
    split at q
    · rename_i hz
      cases q
      obtain ⟨_, p, vs, rfl, hp, r1⟩ := rx
      obtain ⟨_, p', vs', rfl, hp', r2⟩ := ry
      refine .inr (.inr ⟨p, p', vs, vs', rfl, rfl, SqT.of hp, SqT.of hp', ?_, fun e => ?_, fun e e' => ?_, fun e e' p2 hn => ?_⟩)
      · rw [r1.length, r2.length]; exact big_size hz
      · have : xs = [] := List.length_eq_zero_iff.mp (by rw [← r1.length, e]; rfl)
        subst this
        exact k g _ H (Keep.refl g H) (s.im ⟨p', vs', rfl, hp', r2⟩)
      · have : ys = [] := List.length_eq_zero_iff.mp (by rw [← r2.length, e']; rfl)
        subst this
        rw [List.append_nil] at k
        exact k g _ H (Keep.refl g H) (s.im ⟨p, vs, rfl, hp, r1⟩)
      · have kn := Keep.new (o := .tup (vs ++ vs')) hn s
        exact k g _ _ kn ((s.new hn).im ⟨p2, _, rfl, upd_same, (r1.keep kn.kz).append (r2.keep kn.kz)⟩)
    · cases q
  · cases q
theorem se_add (ha : SE G X Wx a fa) (hb : SE G X Wx b fb) (hK : X.K = G.K := by rfl) : SE G X Wx (.BinOp a .Add b pos) (eOp fAdd fa fb) := se_bin (op_fAdd hK) ha hb
end
end VL
namespace VL
open PySem L2
section
variable {G : Gm} {X : Cx} {Wx : WX} {g g' : Gh} {env env' : Env3} {σ : L2.St} {H H' : Hp} {ds : Nat → D}
def svOf : EV → SV
  | .im w => .val w
  | .tmp t => .own false [] t
  | .ptr k π => .ptr k π
theorem Sim.setA (s : Sim G g env σ H ds) {ev : EV} {v : V} {d : D} (r : EvR G g env H ds ev v d) {i : Nat} (hi : i < env.length) (hn : ∀ p L t, env[i]? ≠ some (some (SV.own p L t))) :
    Sim G g (env.set i (some (svOf ev))) (σ.set i (some v)) H (fun j => if j = i then d else ds j) := by
  have hs : i < σ.length := by rw [← s.len]; exact hi
  have gi : (env.set i (some (svOf ev)))[i]? = some (some (svOf ev)) := List.getElem?_set_self hi
  have gn : ∀ j, j ≠ i → (env.set i (some (svOf ev)))[j]? = env[j]? := fun j h => List.getElem?_set_ne (Ne.symm h)
  have si : (σ.set i (some v))[i]? = some (some v) := List.getElem?_set_self hs
  have sn : ∀ j, j ≠ i → (σ.set i (some v))[j]? = σ[j]? := fun j h => List.getElem?_set_ne (Ne.symm h)
  have n0 := s.non i hn
  have rt := r.there
  refine ⟨by simp [s.len], fun j w e => ?_, fun j p L t e => ?_, fun j k π e => ?_, fun j c e => ?_, fun j e => ?_, fun j => ?_, fun j k p hj hk => ?_, fun j p hj => ?_, s.zt, s.pt⟩
  · by_cases hj : j = i
    · subst hj
      rw [gi] at e
      cases ev with
      | im w' => cases e; exact ⟨v, si, r.2⟩
      | _ => cases e
    · rw [gn j hj] at e; rw [sn j hj]; exact s.val j w e
  · by_cases hj : j = i
    · subst hj
      rw [gi] at e
      cases ev with
      | tmp t' =>
        cases e
        refine ⟨v, si, by simpa using r.1, r.2.1, fun z => (by cases z), by rw [n0.2]; rfl, by rw [n0.2]; intro q hq; cases hq⟩
      | _ => cases e
    · rw [gn j hj] at e; rw [sn j hj]; simp only [hj, if_false]; exact s.own j p L t e
  · have tgt : ∀ k p L t, env[k]? = some (some (SV.own p L t)) → k ≠ i := fun k p L t h z => by subst z; exact hn _ _ _ h
    by_cases hj : j = i
    · subst hj
      rw [gi] at e
      cases ev with
      | ptr k' π' =>
        cases e
        obtain ⟨_, a, p, L, t, rfl, h1, h2⟩ := r
        have hk := tgt _ _ _ _ h1
        exact ⟨a, p, L, t, si, by rw [gn k hk]; exact h1, by simpa [hk] using h2⟩
      | _ => cases e
    · rw [gn j hj] at e; rw [sn j hj]
      obtain ⟨a, p, L, t, h1, h2, h3⟩ := s.ptr j k π e
      have hk := tgt _ _ _ _ h2
      exact ⟨a, p, L, t, h1, by rw [gn k hk]; exact h2, by simpa [hk] using h3⟩
  · by_cases hj : j = i
    · subst hj
      rw [gi] at e
      cases ev <;> cases e
    · rw [gn j hj] at e; rw [sn j hj]; exact s.exc j c e
  · by_cases hj : j = i
    · subst hj
      simp only [if_true]
      cases ev with
      | im w => exact ⟨r.1, n0.2⟩
      | tmp t => exact absurd gi (e _ _ _)
      | ptr k π => exact ⟨r.1, n0.2⟩
    · simp only [hj, if_false]
      exact s.non j fun p L t z => e p L t ((gn j hj).trans z)
  · by_cases hj : j = i
    · simp only [hj, if_true]
      cases ev with
      | im w => rw [r.1, fp_z]; exact List.nodup_nil
      | tmp t => exact r.2.2.1
      | ptr k π => rw [r.1, fp_z]; exact List.nodup_nil
    · simpa [hj] using s.nd j
  · by_cases q : j = i
    · by_cases q' : k = i
      · rw [q, q']
      · simp only [q, q', if_true, if_false] at hj hk
        exact absurd hk ((rt p hj).2.2.1 k)
    · by_cases q' : k = i
      · simp only [q, q', if_true, if_false] at hj hk
        exact absurd hj ((rt p hk).2.2.1 j)
      · simp only [q, q', if_false] at hj hk
        exact s.dj j k p hj hk
  · by_cases q : j = i
    · simp only [q, if_true] at hj
      exact ⟨(rt p hj).1, (rt p hj).2.1⟩
    · simp only [q, if_false] at hj
      exact s.no j p hj
def setS (i : Nat) (ev : EV) (env : Env3) : Option Env3 := match env[i]? with
  | some (some (SV.own false [] _)) => (match ev with
    | .ptr k π => if k = i then none else some (((env.map (killS i)).set i none).set i (some (.ptr k π)))
    | ev => some (((env.map (killS i)).set i none).set i (some (svOf ev))))
  | some (some (SV.own _ _ _)) => none
  | some _ => some (env.set i (some (svOf ev)))
  | none => none
theorem SimE.setS {ev : EV} {v : V} (s : SimE G g env σ H ev v) {i : Nat} (h : setS i ev env = some env') : SimN G g env' (σ.set i (some v)) H := by
  obtain ⟨ds, d, s, r⟩ := s
  unfold VL.setS at h
  split at h
  · rename_i t e
    obtain ⟨c1, c2⟩ := s.clear e
    have hl : i < ((env.map (killS i)).set i none).length := by simp; exact get_lt e
    have hn : ∀ p L t, ((env.map (killS i)).set i none)[i]? ≠ some (some (SV.own p L t)) := fun p L t z => by
      rw [List.getElem?_set_self (by simpa using get_lt e)] at z; cases z
    have noi : ∀ p, (∀ j, p ∉ fp (ds j)) → ∀ j, p ∉ fp (if j = i then D.z else ds j) := fun p q j => by
      by_cases hj : j = i
      · simp [hj, fp_z]
      · simpa [hj] using q j
    cases ev with
    | im w => cases h; exact ⟨_, c1.setA (ev := .im w) r hl hn⟩
    | tmp u => cases h; exact ⟨_, c1.setA (ev := .tmp u) ⟨r.1, r.2.1, r.2.2.1, fun p hp => ⟨(r.2.2.2 p hp).1, (r.2.2.2 p hp).2.1, noi p (r.2.2.2 p hp).2.2⟩⟩ hl hn⟩
    | ptr k π =>
      simp only at h
      split at h
      · cases h
      · rename_i hk
        cases h
        obtain ⟨r0, a, p, L, t, r1, r2, r3⟩ := r
        exact ⟨_, c1.setA (ev := .ptr k π) ⟨r0, a, p, L, t, r1, c2 k _ r2 hk (fun _ z => (by cases z)), by simpa [hk] using r3⟩ hl hn⟩
  · cases h
  · rename_i o h1 h2 e
    cases h
    refine ⟨_, s.setA r (get_lt e) fun p L t z => ?_⟩
    rw [e] at z; cases z
    cases p with
    | true => exact h2 _ _ _ rfl
    | false => exact h2 _ _ _ rfl
  · cases h
def lockOk (L : List Path) (ρ : Path) : Bool := L.all fun π => !(ρ.isPrefixOf π)
def killP (k : Nat) (ρ : Path) : Option SV → Option SV
  | some (.ptr j π) => if j = k ∧ π.isPrefixOf ρ = false then none else some (.ptr j π)
  | s => s
def wrE (kp : Bool) (k : Nat) (ρ : Path) (p : Bool) (L : List Path) (t' : T) (env : Env3) : Env3 := (if kp = true then env else env.map (killP k ρ)).set k (some (SV.own p L t'))
def wrS (kp : Bool) (k : Nat) (ρ : Path) (y : T) (env : Env3) : Option Env3 := match env[k]? with
  | some (some (SV.own p L t)) => if lockOk L ρ = true then (t.setP ρ y).map fun t' => wrE kp k ρ p L t' env else none
  | _ => none
theorem prefix_of {α : Type} [BEq α] [LawfulBEq α] {a b : List α} (h : a.isPrefixOf b = true) : a <+: b := List.isPrefixOf_iff_prefix.mp h
theorem lockOk_get {L : List Path} {ρ π : Path} (h : lockOk L ρ = true) (hm : π ∈ L) : ¬ ρ <+: π := fun z => by
  have := List.all_eq_true.mp h π hm
  rw [List.isPrefixOf_iff_prefix.mpr z] at this
  cases this
theorem map_kill_get {k : Nat} {ρ : Path} {i : Nat} : (env.map (killP k ρ))[i]? = (env[i]?).map (killP k ρ) := List.getElem?_map
theorem wrE_get_ne {kp : Bool} {k : Nat} {ρ : Path} {p : Bool} {L : List Path} {t' : T} {i : Nat} (h : i ≠ k) : (wrE kp k ρ p L t' env)[i]? = env[i]? ∨ ∃ j π, env[i]? = some (some (SV.ptr j π)) ∧ (wrE kp k ρ p L t' env)[i]? = some none := by
  unfold wrE
  rw [List.getElem?_set_ne (Ne.symm h)]
  cases kp with
  | true => exact .inl rfl
  | false =>
    simp only [Bool.false_eq_true, if_false]
    rw [map_kill_get]
    cases e : env[i]? with
    | none => exact .inl rfl
    | some o =>
      cases o with
      | none => exact .inl rfl
      | some x =>
        cases x with
        | ptr j π =>
          by_cases c : j = k ∧ π.isPrefixOf ρ = false
          · right; exact ⟨j, π, rfl, by simp [killP, c]⟩
          · left; simp only [Option.map_some, killP]; rw [if_neg c]
        | _ => exact .inl rfl
theorem wrE_ptr {kp : Bool} {k : Nat} {ρ : Path} {p : Bool} {L : List Path} {t' : T} {i j : Nat} {π : Path} (hk : k < env.length) (h : (wrE kp k ρ p L t' env)[i]? = some (some (SV.ptr j π))) : env[i]? = some (some (SV.ptr j π)) ∧ (kp = false → j = k → π <+: ρ) := by
  by_cases hi : i = k
  · subst hi
    unfold wrE at h
    rw [List.getElem?_set_self (by cases kp <;> simp [hk])] at h
    cases h
  · unfold wrE at h
    rw [List.getElem?_set_ne (Ne.symm hi)] at h
    cases kp with
    | true => exact ⟨h, fun z => by cases z⟩
    | false =>
      simp only [Bool.false_eq_true, if_false] at h
      rw [map_kill_get] at h
      cases e : env[i]? with
      | none => rw [e] at h; cases h
      | some o =>
        rw [e] at h
        cases o with
        | none => cases h
        | some x =>
          cases x with
          | ptr j' π' =>
            simp only [Option.map_some, killP] at h
            by_cases c : j' = k ∧ π'.isPrefixOf ρ = false
            · rw [if_pos c] at h; cases h
            · rw [if_neg c] at h; cases h
              refine ⟨rfl, fun _ hj => ?_⟩
              refine prefix_of ?_
              cases q : π.isPrefixOf ρ with
              | true => rfl
              | false => exact absurd ⟨hj, q⟩ c
          | _ => cases h
theorem wrE_self {kp : Bool} {k : Nat} {ρ : Path} {p : Bool} {L : List Path} {t' : T} (hk : k < env.length) : (wrE kp k ρ p L t' env)[k]? = some (some (SV.own p L t')) := by
  unfold wrE
  exact List.getElem?_set_self (by cases kp <;> simp [hk])
theorem wrE_len {kp : Bool} {k : Nat} {ρ : Path} {p : Bool} {L : List Path} {t' : T} : (wrE kp k ρ p L t' env).length = env.length := by
  unfold wrE
  cases kp <;> simp
theorem adr_pre {t t' x y : T} {d d' e e' : D} {ρ π : Path} {a : Addr} (h1 : adr t d (ρ ++ []) = adr x e []) (h2 : adr t' d' (ρ ++ []) = adr y e' []) (h3 : adr x e [] = adr y e' []) (h4 : ∀ π, ¬ ρ <+: π → adr t' d' π = adr t d π) (hp : π <+: ρ) (ha : adr t d π = some a) : adr t' d' π = some a := by
  by_cases q : ρ <+: π
  · have : π = ρ := hp.eq_of_length (Nat.le_antisymm hp.length_le q.length_le)
    subst this
    rw [List.append_nil] at h1 h2
    rw [h2, ← h3, ← h1]; exact ha
  · rw [h4 π q]; exact ha
theorem Sim.congr {a b : Nat → D} (h : ∀ i, a i = b i) (s : Sim G g env σ H a) : Sim G g env σ H b := (funext h : a = b) ▸ s
theorem Sim.lens (s : Sim G g env σ H ds) {k : Nat} {p : Bool} {L : List Path} {t x : T} {ρ : Path} (h : env[k]? = some (some (SV.own p L t))) (hx : t.getP ρ = some x) (hl : lockOk L ρ = true) :
    ∃ u e, RepT G g.Z H x u e ∧ adr t (ds k) ρ = adr x e [] ∧ (∀ q ∈ fp e, q ∈ fp (ds k)) ∧ (fp e).Nodup ∧ (∀ i q, q ∈ g.lk i → q.2 ∉ fp e) ∧
    ∀ g' H' y e' kp, Keep g H g' H' → (∀ i q, q ∈ fp (ds i) → q ∉ fp e → H' q = H q ∧ ¬ g'.Z q) → RepT G g'.Z H' y u e' → y.mut = true → x.mut = true → (fp e').Nodup →
      (∀ q ∈ fp e', ¬ g'.Z q ∧ ¬ g'.P q ∧ (q ∈ fp e ∨ ∀ i, q ∉ fp (ds i))) → (∀ p, g'.Z p → ¬ g'.P p ∧ Ob H' p) → (∀ p, g'.P p → Ob H' p) →
      (kp = true → ∀ π' a, adr x e π' = some a → adr y e' π' = some a) →
      ∃ t' ds', wrS kp k ρ y env = some (wrE kp k ρ p L t' env) ∧ Sim G g' (wrE kp k ρ p L t' env) σ H' ds' ∧ (∀ i q, q ∈ fp (ds' i) → (q ∈ fp (ds i) ∧ q ∉ fp e) ∨ (i = k ∧ q ∈ fp e')) ∧ adr t' (ds' k) ρ = adr y e' [] := by
  obtain ⟨v, o1, o2, o3, o4, o5, o6⟩ := s.own _ _ _ _ h
  obtain ⟨u, e, out, r1, r2, r3, r0, r4⟩ := o2.lens hx
  have nde : (out ++ fp e).Nodup := r2.nodup_iff.mp (s.nd k)
  have ine : ∀ q ∈ fp e, q ∈ fp (ds k) := fun q hq => r2.mem_iff.mpr (List.mem_append_right _ hq)
  have ino : ∀ q ∈ out, q ∈ fp (ds k) ∧ q ∉ fp e := fun q hq => ⟨r2.mem_iff.mpr (List.mem_append_left _ hq), fun z => (List.nodup_append.mp nde).2.2 q hq q z rfl⟩
  refine ⟨u, e, r1, by have := r3 []; rwa [List.append_nil] at this, ine, (List.nodup_append.mp nde).2.1, fun i q hq hqe => ?_, fun g' H' y e' kp kk hH hy ym xm hnd hN zt pt hkp => ?_⟩
  · obtain ⟨ob, hob, mub⟩ := r1.there _ hqe
    by_cases ei : ∃ p L t, env[i]? = some (some (SV.own p L t))
    · obtain ⟨p', L', t', ei⟩ := ei
      obtain ⟨v', p1, p2, p3, p4, p5, p6⟩ := s.own _ _ _ _ ei
      by_cases hik : i = k
      · subst hik
        rw [h] at ei; cases ei
        exact r0 (s.nd i) q.1 q.2 (lockOk_get hl (by rw [o5]; exact List.mem_map.mpr ⟨q, hq, rfl⟩)) (o6 q hq) hqe
      · rcases p2.adr_in (p6 q hq) with z | ⟨vs, z⟩
        · exact hik (s.dj i k q.2 z (ine q.2 hqe))
        · rw [z] at hob; cases hob; exact mub
    · have := (s.non i fun q L t z => ei ⟨q, L, t, z⟩).2
      rw [this] at hq; cases hq
  obtain ⟨t', d', w1, w2, w3, w4, w5⟩ := r4 g'.Z H' kk.kz (fun q hq => (hH k q (ino q hq).1 (ino q hq).2).1) y e' hy
  have root : adr x e [] = adr y e' [] := by
    obtain ⟨a1, b1, c1⟩ := adr_root r1 xm
    obtain ⟨a2, b2, c2⟩ := adr_root hy ym
    rw [c1] at c2; cases c2
    rw [b1, b2]
  have t'm : t'.mut = true := by
    cases q : t'.mut with
    | true => rfl
    | false =>
      exfalso
      cases t' with
      | im w =>
        obtain ⟨a, e1, e2⟩ := adr_root o2 o3
        have := adr_pre (π := []) (r3 []) (w4 []) root w5 List.nil_prefix e1
        rw [w2.1] at this
        simp [adr, D.z] at this
      | _ => cases q
  have hk : k < env.length := get_lt h
  refine ⟨t', fun i => if i = k then d' else ds i, ?_, ?_, fun i q hq => ?_, ?_⟩
  · unfold wrS; simp only [h, hl, if_true, w1, Option.map_some]
  · have := s.upd (g' := g') (H' := H') (env' := wrE kp k ρ p L t' env) kk (fun i => if i = k then some (t', d') else none) wrE_len
      (fun i t2 d2 q => by
        by_cases hi : i = k
        · subst hi
          simp only [if_true, Option.some.injEq, Prod.mk.injEq] at q
          obtain ⟨rfl, rfl⟩ := q
          refine ⟨p, L, t, v, h, wrE_self hk, o1, w2, t'm, fun q hq => ?_⟩
          rw [w5 q.1 (lockOk_get hl (by rw [o5]; exact List.mem_map.mpr ⟨q, hq, rfl⟩))]
          exact o6 q hq
        · simp [hi] at q)
      (fun i q => by
        have hi : i ≠ k := fun z => by simp [z] at q
        exact wrE_get_ne hi)
      (fun i j π q t2 d2 q2 p2 L2 t3 q3 a q4 => by
        by_cases hj : j = k
        · subst hj
          simp only [if_true, Option.some.injEq, Prod.mk.injEq] at q2
          obtain ⟨rfl, rfl⟩ := q2
          rw [h] at q3; cases q3
          obtain ⟨e1, e2⟩ := wrE_ptr hk q
          cases kp with
          | false => exact adr_pre (r3 []) (w4 []) root w5 (e2 rfl rfl) q4
          | true =>
            by_cases hp : ρ <+: π
            · obtain ⟨π', rfl⟩ := hp
              rw [w4]
              rw [r3] at q4
              exact hkp rfl π' a q4
            · rw [w5 π hp]; exact q4
        · simp [hj] at q2)
      (fun i q q2 hq => by
        have hi : i ≠ k := fun z => by simp [z] at q
        exact hH i q2 hq fun z => hi (s.dj i k q2 hq (ine q2 z)))
      (fun i t2 d2 q => by
        by_cases hi : i = k
        · subst hi
          simp only [if_true, Option.some.injEq, Prod.mk.injEq] at q
          obtain ⟨rfl, rfl⟩ := q
          have dis : ∀ q ∈ fp d', (q ∈ out ∨ q ∈ fp e') := fun q hq => List.mem_append.mp (w3.mem_iff.mp hq)
          refine ⟨w3.nodup_iff.mpr (List.nodup_append.mpr ⟨(List.nodup_append.mp nde).1, hnd, fun a ha b hb z => ?_⟩), fun q hq => ?_⟩
          · subst z
            rcases (hN a hb).2.2 with z | z
            · exact (ino a ha).2 z
            · exact z i (ino a ha).1
          · rcases dis q hq with z | z
            · refine ⟨(hH i q (ino q z).1 (ino q z).2).2, fun w => (s.no i q (ino q z).1).2 (kk.q q w), fun j hj _ w => hj (s.dj j i q w (ino q z).1), fun j t2 d2 hj w => by simp [hj] at w⟩
            · refine ⟨(hN q z).1, (hN q z).2.1, fun j hj _ w => ?_, fun j t2 d2 hj w => by simp [hj] at w⟩
              rcases (hN q z).2.2 with y1 | y1
              · exact hj (s.dj j i q w (ine q y1))
              · exact y1 j w
        · simp [hi] at q)
      zt pt
    exact Sim.congr (fun i => by by_cases hi : i = k <;> simp [hi]) this
  · by_cases hi : i = k
    · subst hi
      simp only [if_true] at hq
      rcases List.mem_append.mp (w3.mem_iff.mp hq) with z | z
      · exact .inl (ino q z)
      · exact .inr ⟨rfl, z⟩
    · simp only [hi, if_false] at hq
      exact .inl ⟨hq, fun z => hi (s.dj i k q hq (ine q z))⟩
  · have := w4 []
    rw [List.append_nil] at this
    simpa using this
end
end VL
namespace VL
open PySem L2
def SatS (G : Gm) (Wx : WX) (g : Gh) (H : Hp) (D : Ends) : SO3 → Prop
  | .nx e => ∀ g' σ' H', Keep g H g' H' → SimN G g' e σ' H' → D.nx σ' H'
  | .rt ev e => ∀ g' σ' v H', Keep g H g' H' → SimE G g' e σ' H' ev v → D.rt v H'
  | .bk e => ∀ g' σ' H', Keep g H g' H' → SimN G g' e σ' H' → D.bk σ' H'
  | .ct e => ∀ g' σ' H', Keep g H g' H' → SimN G g' e σ' H' → D.ct σ' H'
  | .ex c e => ∀ g' σ' H', Keep g H g' H' → SimN G g' e σ' H' → Wx (.ref (G.cA c)) none σ' H'
  | .stuck => False
def liftS (G : Gm) (Wx : WX) (f : S3) : TS := fun D σ H => ∃ g env ds, Sim G g env σ H ds ∧ SatS G Wx g H D (f env)
abbrev SS (G : Gm) (X : Cx) (Wx : WX) (s : Stmt) (f : S3) : Prop := PS X s (liftS G Wx f)
abbrev SSs (G : Gm) (X : Cx) (Wx : WX) (s : List Stmt) (f : S3) : Prop := PSs X s (liftS G Wx f)
section
variable {G : Gm} {X : Cx} {Wx : WX} {g g' : Gh} {env env' : Env3} {σ : L2.St} {H H' : Hp} {ds : Nat → D} {a b c e o : Expr} {fa fb fc fe : M3 EV} {pos : Pos} {st : Stmt} {rest : List Stmt} {t u : S3}
theorem SatS.keep {D : Ends} : ∀ {o : SO3}, SatS G Wx g H D o → Keep g H g' H' → SatS G Wx g' H' D o
  | .nx _, h, k => fun g2 s2 H2 k2 q => h g2 s2 H2 (k.trans k2) q
  | .rt _ _, h, k => fun g2 s2 v H2 k2 q => h g2 s2 v H2 (k.trans k2) q
  | .bk _, h, k => fun g2 s2 H2 k2 q => h g2 s2 H2 (k.trans k2) q
  | .ct _, h, k => fun g2 s2 H2 k2 q => h g2 s2 H2 (k.trans k2) q
  | .ex _ _, h, k => fun g2 s2 H2 k2 q => h g2 s2 H2 (k.trans k2) q
  | .stuck, h, _ => h
def sNx : S3 := fun env => .nx env
def sSeq (f k : S3) : S3 := fun env => match f env with
  | .nx e => k e
  | o => o
theorem sss_nil : SSs G X Wx [] sNx := by
  refine pss_imp pss_nil ?_
  rintro D σ H ⟨g, env, ds, s, h⟩
  exact h g σ H (Keep.refl g H) ⟨ds, s⟩
theorem sss_one (h : SS G X Wx st t) : SSs G X Wx [st] t := pss_one h
theorem sss_cons (h1 : SS G X Wx st t) (h2 : SSs G X Wx rest u) : SSs G X Wx (st :: rest) (sSeq t u) := by
  refine pss_imp (pss_cons h1 h2) ?_
  rintro D σ H ⟨g, env, ds, s, h⟩
  refine ⟨g, env, ds, s, ?_⟩
  unfold sSeq at h
  cases e1 : t env with
  | nx e2 =>
    rw [e1] at h
    intro g2 σ2 H2 k2 ⟨ds2, s2⟩
    exact ⟨g2, e2, ds2, s2, SatS.keep h k2⟩
  | _ => rw [e1] at h; exact h
def sExpr (f : M3 EV) : S3 := fun env => match f env with
  | .ok _ e => .nx e
  | .exc c e => .ex c e
  | .stuck => .stuck
theorem ss_expr (he : SE G X Wx e fe) (hs : swapsWith e none pos.line X.env = pure false := by rfl) : SS G X Wx (.Expr e pos) (sExpr fe) := by
  refine ps_imp (ps_expr he hs) ?_
  rintro D σ H ⟨g, env, ds, s, h⟩
  refine ⟨g, env, ds, s, ?_⟩
  unfold sExpr at h
  cases e1 : fe env with
  | stuck => rw [e1] at h; exact h.elim
  | exc c e2 => rw [e1] at h; exact fun g2 H2 k2 s2 => h g2 σ H2 k2 s2
  | ok v e2 => rw [e1] at h; exact fun g2 v H2 k2 s2 => h g2 σ H2 k2 s2.n
def sRet (f : M3 EV) : S3 := fun env => match f env with
  | .ok v e => .rt v e
  | .exc c e => .ex c e
  | .stuck => .stuck
theorem ss_ret (he : SE G X Wx e fe) : SS G X Wx (.Return (some e) pos) (sRet fe) := by
  refine ps_imp (ps_ret he) ?_
  rintro D σ H ⟨g, env, ds, s, h⟩
  refine ⟨g, env, ds, s, ?_⟩
  unfold sRet at h
  cases e1 : fe env with
  | stuck => rw [e1] at h; exact h.elim
  | exc c e2 => rw [e1] at h; exact fun g2 H2 k2 s2 => h g2 σ H2 k2 s2
  | ok v e2 => rw [e1] at h; exact fun g2 v H2 k2 s2 => h g2 σ v H2 k2 s2
def sIf (c : M3 Bool) (t u : S3) : S3 := fun env => match c env with
  | .ok b e => if b = true then t e else u e
  | .exc c e => .ex c e
  | .stuck => .stuck
theorem ss_if {fc : M3 Bool} {A B : List Stmt} (hc : SB G X Wx c fc) (ha : SSs G X Wx A t) (hb : SSs G X Wx B u) : SS G X Wx (.If c A B pos) (sIf fc t u) := by
  refine ps_imp (ps_if hc ha hb) ?_
  rintro D σ H ⟨g, env, ds, s, h⟩
  refine ⟨g, env, ds, s, ?_⟩
  unfold sIf at h
  cases e1 : fc env with
  | stuck => rw [e1] at h; exact h.elim
  | exc c e2 => rw [e1] at h; exact fun g2 H2 k2 s2 => h g2 σ H2 k2 s2
  | ok b e2 =>
    rw [e1] at h
    intro g2 H2 k2 ⟨ds2, s2⟩
    cases b with
    | true => exact ⟨g2, e2, ds2, s2, SatS.keep h k2⟩
    | false => exact ⟨g2, e2, ds2, s2, SatS.keep h k2⟩
abbrev TG3 := EV → Env3 → Option Env3
def liftG (G : Gm) (t : TG3) : TG := fun v σ H Q => ∃ g env ev env', SimE G g env σ H ev v ∧ t ev env = some env' ∧ ∀ g' σ' H', Keep g H g' H' → SimN G g' env' σ' H' → Q σ' H'
def SimV (G : Gm) (g : Gh) (env : Env3) (σ : L2.St) (H : Hp) (evs : List EV) (vs : List V) : Prop := SimA G g env σ H evs vs ∧ ∀ ev ∈ evs, ∀ k π, ev ≠ .ptr k π
abbrev SG (G : Gm) (X : Cx) (e : Expr) (t : TG3) : Prop := PG X e (liftG G t)
theorem pg_imp {X : Cx} {e : Expr} {t t' : TG} (h : PG X e t) (i : ∀ v σ H Q, t' v σ H Q → t v σ H Q) : PG X e t' := ⟨fun pins s σ H v u Q I r q => h.run pins s σ H v u Q I r (i _ _ _ _ q)⟩
def gName (i : Nat) : TG3 := fun ev env => setS i ev env
theorem sg_name {i : Nat} {x : Str} (hN : X.N.Nodup) (hi : X.N[i]? = some x) (hx : Loc X.env.scope x) (hf : X.fn x = true ∨ X.env.scope.names.lookup x = some .local := by first | exact .inl rfl | exact .inr rfl | assumption) : SG G X (.Name x pos) (gName i) := by
  refine pg_imp (pg_name hN hi hx hf) ?_
  rintro v σ H Q ⟨g, env, ev, env', s, h, k⟩
  exact k g _ H (Keep.refl g H) (s.setS h)
theorem EvL.pure {evs : List EV} : ∀ {vs : List V} {es : List D}, EvL G g env H ds evs vs es → (∀ ev ∈ evs, ∀ k π, ev ≠ .ptr k π) → ∀ {env' : Env3} {ds' : Nat → D}, (∀ p ∈ fps es, ∀ i, p ∉ fp (ds' i)) → EvL G g env' H ds' evs vs es := by
  induction evs with
  | nil => intro vs es h _ env' ds' _; exact h
  | cons e r ih =>
    rintro vs es ⟨v, vr, d, dr, rfl, rfl, a, b, c⟩ hp env' ds' hd
    refine ⟨v, vr, d, dr, rfl, rfl, ?_, ih b (fun ev h => hp ev (List.mem_cons_of_mem _ h)) fun p h => hd p (List.mem_append_right _ h), c⟩
    cases e with
    | im w => exact a
    | tmp t => exact ⟨a.1, a.2.1, a.2.2.1, fun p h => ⟨(a.2.2.2 p h).1, (a.2.2.2 p h).2.1, hd p (List.mem_append_left _ h)⟩⟩
    | ptr k π => exact absurd rfl (hp _ (List.mem_cons_self ..) k π)
theorem SimV.set {ev : EV} {v : V} {evs : List EV} {vs : List V} (s : SimV G g env σ H (ev :: evs) (v :: vs)) {i : Nat} (h : setS i ev env = some env') : SimV G g env' (σ.set i (some v)) H evs vs := by
  obtain ⟨⟨ds, es, s, v', vr, d, dr, e1, rfl, a, b, c⟩, hp⟩ := s
  cases e1
  have hp' : ∀ ev ∈ evs, ∀ k π, ev ≠ .ptr k π := fun ev h => hp ev (List.mem_cons_of_mem _ h)
  refine ⟨?_, hp'⟩
  have nb := b.noP
  unfold VL.setS at h
  split at h
  · rename_i t e
    obtain ⟨c1, c2⟩ := s.clear e
    have hl : i < ((env.map (killS i)).set i none).length := by simp; exact get_lt e
    have hn : ∀ p L t, ((env.map (killS i)).set i none)[i]? ≠ some (some (SV.own p L t)) := fun p L t z => by
      rw [List.getElem?_set_self (by simpa using get_lt e)] at z; cases z
    have noi : ∀ p, (∀ j, p ∉ fp (ds j)) → ∀ j, p ∉ fp (if j = i then D.z else ds j) := fun p q j => by
      by_cases hj : j = i
      · simp [hj, fp_z]
      · simpa [hj] using q j
    have fin : ∀ p ∈ fps dr, ∀ j, p ∉ fp (if j = i then d else (if j = i then D.z else ds j)) := fun p hp j => by
      by_cases hj : j = i
      · simp only [hj, if_true]; exact fun z => c p z hp
      · simp only [hj, if_false]; exact (nb p hp).2.2.1 j
    cases ev with
    | im w => cases h; exact ⟨_, dr, c1.setA (ev := .im w) a hl hn, b.pure hp' fin⟩
    | tmp u => cases h; exact ⟨_, dr, c1.setA (ev := .tmp u) ⟨a.1, a.2.1, a.2.2.1, fun p hp => ⟨(a.2.2.2 p hp).1, (a.2.2.2 p hp).2.1, noi p (a.2.2.2 p hp).2.2⟩⟩ hl hn, b.pure hp' fin⟩
    | ptr k π => exact absurd rfl (hp _ (List.mem_cons_self ..) k π)
  · cases h
  · rename_i o h1 h2 e
    cases h
    refine ⟨_, dr, s.setA a (get_lt e) fun p L t z => ?_, b.pure hp' fun p hp j => ?_⟩
    · rw [e] at z; cases z
      cases p with
      | true => exact h2 _ _ _ rfl
      | false => exact h2 _ _ _ rfl
    · by_cases hj : j = i
      · simp only [hj, if_true]; exact fun z => c p z hp
      · simp only [hj, if_false]; exact (nb p hp).2.2.1 j
  · cases h
theorem SimA.len {evs : List EV} {vs : List V} (s : SimA G g env σ H evs vs) : evs.length = vs.length := let ⟨_, _, _, l⟩ := s; l.n
theorem parts_im (Z0 : Unit) : ∀ {ws : List W} {vs : List V}, RepL G g.Z H ws vs → EvL G g env H ds (ws.map EV.im) vs (ws.map fun _ => D.z)
  | [], vs, r => by rw [show vs = _ from r]; exact ⟨rfl, rfl⟩
  | w :: ws, vs, ⟨v, r, e, a, b⟩ => ⟨v, r, .z, _, e, rfl, ⟨rfl, a⟩, parts_im Z0 b, fun p h => by rw [fp_z] at h; cases h⟩
def sAsg (f : M3 EV) (tg : TG3) : S3 := fun env => match f env with
  | .ok v e => (match tg v e with
    | some e2 => .nx e2
    | none => .stuck)
  | .exc c e => .ex c e
  | .stuck => .stuck
theorem sAsg_mid {tg : TG3} {D : Ends} (h : SatS G Wx g H D (sAsg fe tg env)) (s : Sim G g env σ H ds) : liftE G Wx fe σ H fun v H1 => liftG G tg v σ H1 D.nx := by
  refine ⟨g, env, ds, s, ?_⟩
  unfold sAsg at h
  cases e1 : fe env with
  | stuck => rw [e1] at h; exact h.elim
  | exc c e2 => rw [e1] at h; exact fun g2 H2 k2 s2 => h g2 σ H2 k2 s2
  | ok v e2 =>
    simp only [e1] at h
    cases e3 : tg v e2 with
    | none => simp only [e3] at h; exact h.elim
    | some e4 =>
      simp only [e3] at h
      exact fun g2 u H2 k2 s2 => ⟨g2, e2, v, e4, s2, e3, fun g3 σ3 H3 k3 s3 => h g3 σ3 H3 (k2.trans k3) s3⟩
theorem ss_set {i : Nat} {x : Str} {pos' : Pos} (hN : X.N.Nodup) (hi : X.N[i]? = some x) (hx : Loc X.env.scope x) (he : SE G X Wx e fe) (hs : swapsWith e (some (.Name x pos')) pos.line X.env = pure false := by rfl) (hf : X.fn x = true ∨ X.env.scope.names.lookup x = some .local := by first | exact .inl rfl | exact .inr rfl | assumption) :
    SS G X Wx (.Assign [.Name x pos'] e pos) (sAsg fe (gName i)) := by
  refine ps_imp (ps_set hN hi hx he hs hf) ?_
  rintro D σ H ⟨g, env, ds, s, h⟩
  obtain ⟨g0, env0, ds0, s0, h0⟩ := sAsg_mid h s
  refine ⟨g0, env0, ds0, s0, ?_⟩
  cases e1 : fe env0 with
  | stuck => rw [e1] at h0; exact h0
  | exc c e2 => rw [e1] at h0; exact h0
  | ok v e2 =>
    rw [e1] at h0
    intro g1 u H1 k1 s1
    obtain ⟨g2, env2, ev2, env3, s2, h2, k2⟩ := h0 g1 u H1 k1 s1
    exact k2 g2 _ H1 (Keep.refl g2 H1) (s2.setS h2)
def sAug (i : Nat) (f : M3 EV) : S3 := fun env => match env[i]? with
  | some (some (SV.val (.int x))) => (match f env with
    | .ok (.im (.int y)) e => (match setS i (.im (.int (x + y))) e with
      | some e2 => .nx e2
      | none => .stuck)
    | .exc c e => .ex c e
    | _ => .stuck)
  | _ => .stuck
def whileF (c : M3 Bool) (b : S3) : Nat → S3
  | 0 => fun _ => .stuck
  | n + 1 => fun env => match c env with
    | .ok true e1 => (match b e1 with
      | .nx e2 => whileF c b n e2
      | .ct e2 => whileF c b n e2
      | .bk e2 => .nx e2
      | o => o)
    | .ok false e1 => .nx e1
    | .exc c e1 => .ex c e1
    | .stuck => .stuck
def fuelW : Nat := 1000000000
structure IV where
  items : List EV
  hold : List EV
def SO3.mapE (u : Env3 → Env3) : SO3 → SO3
  | .nx e => .nx (u e)
  | .rt v e => .rt v (u e)
  | .bk e => .bk (u e)
  | .ct e => .ct (u e)
  | .ex c e => .ex c (u e)
  | .stuck => .stuck
def lockH (ev : EV) (env : Env3) : Env3 := match ev with
  | .ptr k π => match env[k]? with
    | some (some (SV.own p L t)) => env.set k (some (SV.own p (π :: L) t))
    | _ => env
  | _ => env
def unlH (ev : EV) (env : Env3) : Env3 := match ev with
  | .ptr k _ => match env[k]? with
    | some (some (SV.own p (_ :: L) t)) => env.set k (some (SV.own p L t))
    | _ => env
  | _ => env
def lockHs : List EV → Env3 → Env3
  | [], env => env
  | e :: r, env => lockHs r (lockH e env)
def unlHs : List EV → Env3 → Env3
  | [], env => env
  | e :: r, env => unlH e (unlHs r env)
def holdsS (hs : List EV) (f : S3) : S3 := fun env => (f (lockHs hs env)).mapE (unlHs hs)
def okI (x : EV) (env : Env3) : Bool := match x with
  | .ptr _ _ => match rd env x with
    | some t => t.mut
    | none => false
  | _ => true
def forF (tg : TG3) (b : S3) : List EV → S3
  | [] => fun env => .nx env
  | x :: r => fun env => if okI x env = true then (match tg x env with
    | none => .stuck
    | some e1 => (match b e1 with
      | .nx e2 => forF tg b r e2
      | .ct e2 => forF tg b r e2
      | .bk e2 => .nx e2
      | o => o)) else .stuck
def sFor (it : M3 IV) (tg : TG3) (b : S3) : S3 := fun env => match it env with
  | .ok iv e => holdsS iv.hold (forF tg b iv.items) e
  | .exc c e => .ex c e
  | .stuck => .stuck
def HoldR (G : Gm) (g1 : Gh) (env : Env3) (H : Hp) : EV → V → Prop
  | .im w, v => Rep G g1.Z H w v
  | .tmp t, v => ∃ d, RepT G g1.Z H t v d ∧ ∀ p ∈ fp d, g1.P p
  | .ptr k π, v => ∃ a x e, v = .ref a ∧ (π, a) ∈ g1.lk k ∧ rd env (.ptr k π) = some x ∧ RepT G g1.Z H x v e
def HoldL (G : Gm) (g1 : Gh) (env : Env3) (H : Hp) : List EV → List V → Prop
  | [], vs => vs = []
  | e :: r, vs => ∃ v vr, vs = v :: vr ∧ HoldR G g1 env H e v ∧ HoldL G g1 env H r vr
theorem HoldR.to {g1 g2 : Gh} {env2 : Env3} {ev : EV} {v : V} (h : HoldR G g1 env H ev v) (hz : g2.Z = g1.Z) (hp : ∀ p, g1.P p → g2.P p) (hl : ∀ i q, q ∈ g1.lk i → q ∈ g2.lk i) (hr : ∀ e, rd env2 e = rd env e) : HoldR G g2 env2 H ev v := by
  cases ev with
  | im w => unfold HoldR at h ⊢; rw [hz]; exact h
  | tmp t => obtain ⟨d, h1, h2⟩ := h; exact ⟨d, by rw [hz]; exact h1, fun p q => hp p (h2 p q)⟩
  | ptr k π => obtain ⟨a, x, e, h1, h2, h3, h4⟩ := h; exact ⟨a, x, e, h1, hl k _ h2, by rw [hr]; exact h3, by rw [hz]; exact h4⟩
theorem HoldL.to {g1 g2 : Gh} {env2 : Env3} (hz : g2.Z = g1.Z) (hp : ∀ p, g1.P p → g2.P p) (hl : ∀ i q, q ∈ g1.lk i → q ∈ g2.lk i) (hr : ∀ e, rd env2 e = rd env e) : ∀ {evs : List EV} {vs : List V}, HoldL G g1 env H evs vs → HoldL G g2 env2 H evs vs
  | [], _, h => h
  | e :: r, _, ⟨v, vr, e1, a, b⟩ => ⟨v, vr, e1, a.to hz hp hl hr, HoldL.to hz hp hl hr b⟩
theorem getP_of_adr : ∀ {π : Path} {t : T} {d : D} {a : Addr}, adr t d π = some a → ∃ x, t.getP π = some x
  | [], t, d, a, _ => ⟨t, rfl⟩
  | s :: π, t, .nd b o ds, a, h => by
    simp only [adr] at h
    obtain ⟨i, h1, h⟩ := Option.bind_eq_some_iff.mp h
    obtain ⟨c, h2, h⟩ := Option.bind_eq_some_iff.mp h
    obtain ⟨e, h3, h⟩ := Option.bind_eq_some_iff.mp h
    obtain ⟨x, hx⟩ := getP_of_adr h
    exact ⟨x, by simp only [T.getP, T.kid, h1, h2, Option.bind_some]; exact hx⟩
theorem rd_set {k : Nat} {p p' : Bool} {L L' : List Path} {t : T} (h : env[k]? = some (some (SV.own p L t))) (e : EV) : rd (env.set k (some (SV.own p' L' t))) e = rd env e := by
  cases e with
  | im w => rfl
  | tmp t => rfl
  | ptr j π =>
    simp only [rd]
    by_cases q : j = k
    · subst q
      rw [List.getElem?_set_self (get_lt h), h]
    · rw [List.getElem?_set_ne (Ne.symm q)]
theorem rd_lockH (ev e : EV) : rd (lockH ev env) e = rd env e := by
  unfold lockH
  split
  · split
    · rename_i h; exact rd_set h e
    · rfl
  · rfl
theorem Sim.hold1 (s : Sim G g env σ H ds) {ev : EV} {v : V} {d : D} (r : EvR G g env H ds ev v d) : ∃ g1, Sim G g1 (lockH ev env) σ H ds ∧ g1.Z = g.Z ∧ (∀ p, g1.P p ↔ g.P p ∨ p ∈ fp d) ∧ (∀ i q, q ∈ g.lk i → q ∈ g1.lk i) ∧ HoldR G g1 env H ev v ∧
    ∀ g2 env2 H2 σ2 evs us, Keep g1 H g2 H2 → SimA G g2 env2 σ2 H2 evs us → ∃ g3, g3.Z = g2.Z ∧ Keep g H g3 H2 ∧ SimA G g3 (unlH ev env2) σ2 H2 evs us := by
  have idl : ∀ (env : Env3), ∀ (k : Nat) p L t, env[k]? = some (some (SV.own p L t)) → ∃ L', env[k]? = some (some (SV.own p L' t)) := fun env k p L t h => ⟨L, h⟩
  cases ev with
  | im w => exact ⟨g, s, rfl, fun p => ⟨.inl, fun h => h.elim id fun z => by rw [r.1, fp_z] at z; cases z⟩, fun _ _ h => h, r.2, fun g2 env2 H2 σ2 evs us k s2 => ⟨g2, rfl, k, s2⟩⟩
  | tmp t =>
    obtain ⟨r1, r2, r3, r4⟩ := r
    refine ⟨{ g with P := fun p => g.P p ∨ p ∈ fp d }, s.moreP fun p hp => ⟨(r4 p hp).1, (r4 p hp).2.2, let ⟨o, e, m⟩ := r1.there p hp; Ob.mut e m⟩, rfl, fun _ => Iff.rfl, fun _ _ h => h, ⟨d, r1, fun p h => .inr h⟩, fun g2 env2 H2 σ2 evs us k ⟨ds2, es, s2, l⟩ => ?_⟩
    exact ⟨{ g2 with P := g.P }, rfl, ⟨k.z, fun p z => ⟨z, (k.p p (.inl z)).2⟩, fun _ z => z, k.tups, k.frzs, k.rt, k.lk, k.xa, k.l⟩, ds2, es, s2.lessP fun p z => (k.p p (.inl z)).1, EvL.to (g := g2) (g1 := { g2 with P := g.P }) rfl (fun p z => (k.p p (.inl z)).1) (idl env2) l⟩
  | ptr j π =>
    have r' := r
    obtain ⟨rfl, a, p, L, t, rfl, h1, h2⟩ := r
    obtain ⟨v, q1, q2, q3, q4, q5, q6⟩ := s.own _ _ _ _ h1
    obtain ⟨x, hx⟩ := getP_of_adr h2
    have hrd : rd env (.ptr j π) = some x := by simp only [rd, h1, hx]
    obtain ⟨e, re⟩ := r'.rd s hrd
    have e1 : lockH (.ptr j π) env = env.set j (some (.own p (π :: L) t)) := by unfold lockH; simp only [h1]
    refine ⟨{ g with lk := fun i => if i = j then (π, a) :: g.lk j else g.lk i }, ?_, rfl, fun p => ⟨.inl, fun h => h.elim id fun z => by rw [fp_z] at z; cases z⟩, fun i q hq => ?_, ⟨a, x, e, rfl, by simp, hrd, re⟩, fun g2 env2 H2 σ2 evs us k ⟨ds2, es, s2, l⟩ => ?_⟩
    · rw [e1]
      refine s.lk h1 ((π, a) :: g.lk j) (by simp [q5]) fun q hq => ?_
      rcases List.mem_cons.mp hq with rfl | hq
      · exact h2
      · exact q6 q hq
    · by_cases e : i = j
      · subst e; simp [hq]
      · simp [e, hq]
    · have kl : g2.lk j = (π, a) :: g.lk j := by rw [k.lk]; simp
      have : ∃ p L t, env2[j]? = some (some (SV.own p L t)) := Classical.byContradiction fun e => by
        have := (s2.non j fun q L t z => e ⟨q, L, t, z⟩).2
        rw [kl] at this; cases this
      obtain ⟨p', L', t', h1'⟩ := this
      obtain ⟨v', q1', q2', q3', q4', q5', q6'⟩ := s2.own _ _ _ _ h1'
      rw [kl] at q5' q6'
      subst q5'
      have e2 : unlH (.ptr j π) env2 = env2.set j (some (.own p' ((g.lk j).map (·.1)) t')) := by unfold unlH; simp only [h1', List.map_cons]
      have he : ∀ (k : Nat) p L t, env2[k]? = some (some (SV.own p L t)) → ∃ L', (env2.set j (some (SV.own p' ((g.lk j).map (·.1)) t')))[k]? = some (some (SV.own p L' t)) := fun k p L t h => by
        by_cases e : k = j
        · subst e
          rw [h1'] at h; cases h
          exact ⟨_, List.getElem?_set_self (get_lt h1')⟩
        · exact ⟨L, by rw [List.getElem?_set_ne (Ne.symm e)]; exact h⟩
      have s3 := s2.lk h1' (g.lk j) rfl fun q hq => q6' q (List.mem_cons_of_mem _ hq)
      have lke : (fun i => if i = j then g.lk j else g2.lk i) = g.lk := by
        funext i
        by_cases e : i = j
        · subst e; simp
        · rw [k.lk]; simp [e]
      rw [lke] at s3
      refine ⟨{ g2 with lk := g.lk }, rfl, ⟨k.z, k.p, k.q, k.tups, k.frzs, k.rt, rfl, k.xa, fun i q hq => k.l i q (by
          by_cases e : i = j
          · subst e; simp [hq]
          · simp [e, hq])⟩, ?_⟩
      rw [e2]
      exact ⟨ds2, es, s3, EvL.to (g := g2) (g1 := { g2 with lk := g.lk }) rfl (fun _ z => z) he l⟩
theorem EvL.more {g1 : Gh} {env1 : Env3} (hz : g1.Z = g.Z) (he : ∀ (k : Nat) p L t, env[k]? = some (some (SV.own p L t)) → ∃ L', env1[k]? = some (some (SV.own p L' t))) : ∀ {evs : List EV} {vs : List V} {es : List D}, (∀ p ∈ fps es, g1.P p → g.P p) → EvL G g env H ds evs vs es → EvL G g1 env1 H ds evs vs es
  | [], _, _, _, h => h
  | e :: r, _, _, hp, ⟨v, vr, d, dr, e1, e2, a, b, c⟩ => by
    subst e2
    refine ⟨v, vr, d, dr, e1, rfl, ?_, EvL.more hz he (fun p h => hp p (List.mem_append_right _ h)) b, c⟩
    cases e with
    | im w => exact ⟨a.1, by rw [hz]; exact a.2⟩
    | tmp t => exact ⟨by rw [hz]; exact a.1, a.2.1, a.2.2.1, fun p h => ⟨by rw [hz]; exact (a.2.2.2 p h).1, fun z => (a.2.2.2 p h).2.1 (hp p (List.mem_append_left _ h) z), (a.2.2.2 p h).2.2⟩⟩
    | ptr k π =>
      obtain ⟨e, a, p, L, t, h1, h2, h3⟩ := a
      obtain ⟨L', h2'⟩ := he k p L t h2
      exact ⟨e, a, p, L', t, h1, h2', h3⟩
theorem lockH_own (ev : EV) : ∀ (k : Nat) p L t, env[k]? = some (some (SV.own p L t)) → ∃ L', (lockH ev env)[k]? = some (some (SV.own p L' t)) := fun k p L t h => by
  unfold lockH
  split
  · rename_i j π
    split
    · rename_i p' L0 t' h'
      by_cases e : k = j
      · subst e
        rw [h] at h'; cases h'
        exact ⟨_, List.getElem?_set_self (get_lt h)⟩
      · exact ⟨L, by rw [List.getElem?_set_ne (Ne.symm e)]; exact h⟩
    · exact ⟨L, h⟩
  · exact ⟨L, h⟩
theorem Sim.holds : ∀ {hs : List EV} {vs : List V} {g : Gh} {env : Env3}, SimA G g env σ H hs vs → ∃ g1, SimN G g1 (lockHs hs env) σ H ∧ g1.Z = g.Z ∧ (∀ p, g.P p → g1.P p) ∧ (∀ i q, q ∈ g.lk i → q ∈ g1.lk i) ∧ HoldL G g1 env H hs vs ∧
    ∀ g2 env2 H2 σ2 evs us, Keep g1 H g2 H2 → SimA G g2 env2 σ2 H2 evs us → ∃ g3, g3.Z = g2.Z ∧ Keep g H g3 H2 ∧ SimA G g3 (unlHs hs env2) σ2 H2 evs us
  | [], vs, g, env, ⟨ds, es, s, l⟩ => ⟨g, ⟨ds, s⟩, rfl, fun _ h => h, fun _ _ h => h, l.1, fun g2 env2 H2 σ2 evs us k s2 => ⟨g2, rfl, k, s2⟩⟩
  | e :: r, vs, g, env, ⟨ds, es, s, v, vr, d, dr, e1, e2, a, b, c⟩ => by
    subst e1 e2
    obtain ⟨g1, s1, z1, p1, l1, h1, rel1⟩ := s.hold1 a
    have b1 : EvL G g1 (lockH e env) H ds r vr dr := EvL.more z1 (lockH_own e) (fun p hp h => ((p1 p).mp h).elim id fun z => absurd hp (c p z)) b
    obtain ⟨g2, s2, z2, p2, l2, h2, rel2⟩ := Sim.holds (hs := r) (g := g1) ⟨ds, dr, s1, b1⟩
    refine ⟨g2, s2, z2.trans z1, fun p h => p2 p ((p1 p).mpr (.inl h)), fun i q h => l2 i q (l1 i q h), ⟨v, vr, rfl, h1.to z2 p2 l2 fun _ => rfl, h2.to rfl (fun _ h => h) (fun _ _ h => h) fun x => (rd_lockH e x).symm⟩, fun g3 env3 H3 σ3 evs us k3 s3 => ?_⟩
    obtain ⟨g4, z4, k4, s4⟩ := rel2 g3 env3 H3 σ3 evs us k3 s3
    obtain ⟨g5, z5, k5, s5⟩ := rel1 g4 _ H3 σ3 evs us k4 s4
    exact ⟨g5, z5.trans z4, k5, s5⟩
structure KeepW (g : Gh) (H : Hp) (g' : Gh) (H' : Hp) : Prop where
  z : ∀ p, g.Z p → g'.Z p ∧ H' p = H p
  p : ∀ p, g.P p → g'.P p ∧ H' p = H p
  tups : ∀ b xs, H b = some (.tup xs) → H' b = some (.tup xs)
  frzs : FK H H'
  lk : g'.lk = g.lk
  l : ∀ i q, q ∈ g.lk i → H' q.2 = H q.2
theorem Keep.w {g g' : Gh} {H H' : Hp} (k : Keep g H g' H') : KeepW g H g' H' := ⟨k.z, k.p, k.tups, k.frzs, k.lk, k.l⟩
theorem KeepW.kz {g g' : Gh} {H H' : Hp} (k : KeepW g H g' H') : KeepZ g.Z H g'.Z H' := ⟨k.z, k.tups, k.frzs⟩
theorem KeepW.trans {g1 g2 g3 : Gh} {H1 H2 H3 : Hp} (a : KeepW g1 H1 g2 H2) (b : KeepW g2 H2 g3 H3) : KeepW g1 H1 g3 H3 :=
  ⟨fun p h => ⟨(b.z p (a.z p h).1).1, ((b.z p (a.z p h).1).2).trans (a.z p h).2⟩, fun p h => ⟨(b.p p (a.p p h).1).1, ((b.p p (a.p p h).1).2).trans (a.p p h).2⟩,
    fun c xs h => b.tups c xs (a.tups c xs h), a.frzs.trans b.frzs, b.lk.trans a.lk, fun i q h => (b.l i q (by rw [a.lk]; exact h)).trans (a.l i q h)⟩
def ItR (G : Gm) (J : It) (g1 : Gh) (H1 : Hp) (items : List EV) : Prop :=
  ∀ g env σ H, KeepW g1 H1 g H → SimN G g env σ H → J.stop items.length H ∧ ∀ i x, items[i]? = some x → J.go i H ∧ ∀ v H', J.yld i H v H' → ∃ g', Keep g H g' H' ∧ SimN G g' env σ H' ∧ (okI x env = true → SimE G g' env σ H' x v)
def SatI (G : Gm) (Wx : WX) (g : Gh) (σ : L2.St) (H : Hp) (R : It → Hp → Prop) : Out IV → Prop
  | .ok iv env' => ∀ g' vs H' J, Keep g H g' H' → SimA G g' env' σ H' iv.hold vs → (∀ g1, g1.Z = g'.Z → HoldL G g1 env' H' iv.hold vs → ItR G J g1 H' iv.items) → R J H'
  | .exc c env' => SatX G Wx g σ H c env'
  | .stuck => False
def liftI (G : Gm) (Wx : WX) (f : M3 IV) : TI := fun σ H R => ∃ g env ds, Sim G g env σ H ds ∧ SatI G Wx g σ H R (f env)
abbrev SI (G : Gm) (X : Cx) (Wx : WX) (tg e : Expr) (f : M3 IV) : Prop := PI X tg e (liftI G Wx f)
theorem SimA.nil_of (s : SimN G g env σ H) : SimA G g env σ H [] [] := let ⟨ds, s⟩ := s; ⟨ds, [], s, rfl, rfl⟩
theorem ss_for {tg iter : Expr} {body : List Stmt} {fi : M3 IV} {gt : TG3} {fb : S3} (hp : PassesOwn (model X.prog X.w) X.A X.env X.xe) (hc : X.calm = true) (hi : SI G X Wx tg iter fi) (hg : SG G X tg gt) (hb : SSs G X Wx body fb)
    (hs : ∀ x, foldedSetIterable iter X.env x = pure x := by intro _; rfl) : SS G X Wx (.For tg iter body [] pos) (sFor fi gt fb) := by
  refine ps_imp (ps_for hp hc hi hg hb hs) ?_
  rintro D σ0 H0 ⟨g0, env0, ds0, s0, h0⟩
  refine ⟨g0, env0, ds0, s0, ?_⟩
  unfold sFor at h0
  cases e1 : fi env0 with
  | stuck => rw [e1] at h0; exact h0.elim
  | exc c e2 => rw [e1] at h0; exact fun g2 H2 k2 s2 => h0 g2 σ0 H2 k2 s2
  | ok iv env1 =>
    rw [e1] at h0
    intro g1 vs H1 J k1 s1 ij
    obtain ⟨gl, sl, zl, pl, ll, hl, rel⟩ := Sim.holds s1
    have ij := ij gl zl hl
    have reln : ∀ g2 env2 H2 σ2, Keep gl H1 g2 H2 → SimN G g2 env2 σ2 H2 → ∃ g3, Keep g0 H0 g3 H2 ∧ SimN G g3 (unlHs iv.hold env2) σ2 H2 := fun g2 env2 H2 σ2 k s => by
      obtain ⟨g3, _, k3, s3⟩ := rel g2 env2 H2 σ2 [] [] k (SimA.nil_of s)
      exact ⟨g3, k1.trans k3, s3.n⟩
    refine ⟨fun i m σ H => ∃ g env, i ≤ iv.items.length ∧ m = iv.items.length - i ∧ Keep gl H1 g H ∧ SimN G g env σ H ∧ SatS G Wx g0 H0 D ((forF gt fb (iv.items.drop i) env).mapE (unlHs iv.hold)), ⟨iv.items.length, gl, _, Nat.zero_le _, rfl, Keep.refl _ _, sl, h0⟩, ?_⟩
    rintro i m σ H ⟨g, env, hile, rfl, kk, s, q⟩
    by_cases hlt : i < iv.items.length
    · right
      have hx : iv.items[i]? = some iv.items[i] := by simp [hlt]
      rw [List.drop_eq_getElem_cons hlt] at q
      obtain ⟨go, yld⟩ := (ij g env σ H kk.w s).2 i _ hx
      simp only [forF] at q
      split at q
      · rename_i hok
        cases e3 : gt iv.items[i] env with
        | none => simp only [e3] at q; exact q.elim
        | some e4 =>
          simp only [e3] at q
          refine ⟨go, fun σ' H' => ∃ g env, Keep gl H1 g H' ∧ SimN G g env σ' H' ∧ SatS G Wx g0 H0 D ((forF gt fb (iv.items.drop (i + 1)) env).mapE (unlHs iv.hold)), ?_, ?_⟩
          · rintro σ' H' ⟨g', env', k', s', q'⟩
            exact ⟨iv.items.length - (i + 1), by omega, g', env', hlt, rfl, k', s', q'⟩
          · intro v H' y
            obtain ⟨g', k', s', r'⟩ := yld v H' y
            refine ⟨g', env, _, e4, r' hok, e3, fun g2 σ2 H2 k2 ⟨ds2, s2⟩ => ⟨g2, e4, ds2, s2, ?_⟩⟩
            have kk2 := (kk.trans k').trans k2
            cases e5 : fb e4 with
            | nx e6 => simp only [e5] at q; exact fun g3 σ3 H3 k3 s3 => ⟨g3, e6, kk2.trans k3, s3, q⟩
            | ct e6 => simp only [e5] at q; exact fun g3 σ3 H3 k3 s3 => ⟨g3, e6, kk2.trans k3, s3, q⟩
            | bk e6 =>
              simp only [e5] at q
              intro g3 σ3 H3 k3 s3
              obtain ⟨g4, k4, s4⟩ := reln g3 e6 H3 σ3 (kk2.trans k3) s3
              exact q g4 σ3 H3 k4 s4
            | rt u e6 =>
              simp only [e5] at q
              intro g3 σ3 v3 H3 k3 s3
              obtain ⟨g4, _, k4, s4⟩ := rel g3 e6 H3 σ3 [u] [v3] (kk2.trans k3) (SimA.one s3)
              exact q g4 σ3 v3 H3 (k1.trans k4) s4.hd
            | ex c e6 =>
              simp only [e5] at q
              intro g3 σ3 H3 k3 s3
              obtain ⟨g4, k4, s4⟩ := reln g3 e6 H3 σ3 (kk2.trans k3) s3
              exact q g4 σ3 H3 k4 s4
            | stuck => simp only [e5] at q; exact q.elim
      · exact q.elim
    · left
      have e : i = iv.items.length := by omega
      subst e
      rw [List.drop_eq_nil_of_le (Nat.le_refl _)] at q
      obtain ⟨g4, k4, s4⟩ := reln g env H σ kk s
      exact ⟨(ij g env σ H kk.w s).1, q g4 σ H k4 s4⟩
end
end VL
namespace VL
open PySem L2 PyProof.Rows
inductive FO where
  | ok (ev : EV) (ts : List T) | exc (c : String) (ts : List T) | stuck
abbrev Fn := List T → FO
structure GhOk (G : Gm) (g : Gh) (H : Hp) : Prop where
  lk : g.lk = fun _ => []
  zt : ∀ p, g.Z p → ¬ g.P p ∧ Ob H p
  pt : (∀ p, g.P p → Ob H p) ∧ Tb G H
structure ArgR (G : Gm) (g : Gh) (H : Hp) (ts : List T) (vs : List V) (es : List D) : Prop where
  r : RepTL G g.Z H ts vs es
  nd : (fps es).Nodup
  no : ∀ p ∈ fps es, ¬ g.Z p ∧ ¬ g.P p
def FoR (G : Gm) (g : Gh) (H : Hp) (ts : List T) (es : List D) : EV → V → Prop
  | .im w, v => Rep G g.Z H w v
  | .tmp t, v => ∃ d, RepT G g.Z H t v d ∧ t.mut = true ∧ (fp d).Nodup ∧ ∀ p ∈ fp d, ¬ g.Z p ∧ ¬ g.P p ∧ p ∉ fps es
  | .ptr j π, v => ∃ t e a, ts[j]? = some t ∧ es[j]? = some e ∧ adr t e π = some a ∧ v = .ref a
def SatF (G : Gm) (g : Gh) (H : Hp) (vs : List V) (ts : List T) (Q : VK) (E : XK) : FO → Prop
  | .ok ev ts' => ∀ g' v H' es', Keep g H g' H' → GhOk G g' H' → ArgR G g' H' ts' vs es' → ts'.map T.mut = ts.map T.mut → FoR G g' H' ts' es' ev v → Q v H'
  | .exc c ts' => ∀ g' H' es', Keep g H g' H' → GhOk G g' H' → ArgR G g' H' ts' vs es' → ts'.map T.mut = ts.map T.mut → E (.ref (G.cA c)) none H'
  | .stuck => False
def spOf (G : Gm) (n : Nat) (f : Fn) : Sp := fun vs H Q E => vs.length = n ∧ ∃ g ts es, GhOk G g H ∧ ArgR G g H ts vs es ∧ SatF G g H vs ts Q E (f ts)
def startS : T → Option SV
  | .im w => some (.val w)
  | t => some (.own true [] t)
def startE (N : Nat) (ts : List T) : Env3 := ts.map startS ++ List.replicate (N - ts.length) none
def argsO (env : Env3) : Nat → List T → Option (List T)
  | _, [] => some []
  | i, .im w :: ts => (argsO env (i + 1) ts).map (T.im w :: ·)
  | i, _ :: ts => match env[i]? with
    | some (some (SV.own true _ t')) => (argsO env (i + 1) ts).map (t' :: ·)
    | _ => none
def retE (env : Env3) : EV → Option EV
  | .im w => some (.im w)
  | .tmp t => some (.tmp t)
  | .ptr k π => match env[k]? with
    | some (some (SV.own true _ _)) => some (.ptr k π)
    | some (some (SV.own false _ t)) => match t.getP π with
      | some (.im w) => some (.im w)
      | some x => some (.tmp x)
      | none => none
    | _ => none
def finF (v : EV) (e : Env3) (ts : List T) : FO := match argsO e 0 ts with
  | some ts' => (match retE e v with
    | some v' => .ok v' ts'
    | none => .stuck)
  | none => .stuck
def bodyF (N : Nat) (m : S3) : Fn := fun ts => match m (startE N ts) with
  | .nx e => finF (.im .non) e ts
  | .rt v e => finF v e ts
  | .ex c e => (match argsO e 0 ts with
    | some ts' => .exc c ts'
    | none => .stuck)
  | _ => .stuck
section
variable {G : Gm} {X : Cx} {Wx : WX} {g g' : Gh} {env env' : Env3} {σ : L2.St} {H H' : Hp} {ds : Nat → D}
theorem mem_fps_get : ∀ {es : List D} {p : Addr}, p ∈ fps es → ∃ (i : Nat) (d : D), es[i]? = some d ∧ p ∈ fp d
  | d :: ds, p, h => by
    simp only [fps, List.mem_append] at h
    rcases h with h | h
    · exact ⟨0, d, rfl, h⟩
    · obtain ⟨i, e, h1, h2⟩ := mem_fps_get h
      exact ⟨i + 1, e, by simpa using h1, h2⟩
theorem fps_nodup_of : ∀ {es : List D}, (∀ (i : Nat) d, es[i]? = some d → (fp d).Nodup) → (∀ (i j : Nat) d e p, es[i]? = some d → es[j]? = some e → p ∈ fp d → p ∈ fp e → i = j) → (fps es).Nodup
  | [], _, _ => List.nodup_nil
  | d :: ds, h1, h2 => by
    simp only [fps]
    refine List.nodup_append.mpr ⟨h1 0 d rfl, fps_nodup_of (fun i e h => h1 (i + 1) e (by simpa using h)) (fun i j a b p ha hb hp hq => ?_), fun p hp q hq e => ?_⟩
    · have := h2 (i + 1) (j + 1) a b p (by simpa using ha) (by simpa using hb) hp hq
      omega
    · subst e
      obtain ⟨i, e, h3, h4⟩ := mem_fps_get hq
      have := h2 0 (i + 1) d e p rfl (by simpa using h3) hp h4
      omega
theorem repTL_of : ∀ {ts : List T} {vs : List V} {es : List D}, vs.length = ts.length → es.length = ts.length → (∀ (i : Nat) t v e, ts[i]? = some t → vs[i]? = some v → es[i]? = some e → RepT G g.Z H t v e) → RepTL G g.Z H ts vs es
  | [], vs, es, h1, h2, _ => ⟨List.length_eq_zero_iff.mp h1, List.length_eq_zero_iff.mp h2⟩
  | t :: ts, [], es, h1, _, _ => by simp at h1
  | t :: ts, v :: vs, [], _, h2, _ => by simp at h2
  | t :: ts, v :: vs, e :: es, h1, h2, h => ⟨v, vs, e, es, rfl, rfl, h 0 t v e rfl rfl rfl, repTL_of (by simpa using h1) (by simpa using h2) fun i t v e a b c => h (i + 1) t v e (by simpa using a) (by simpa using b) (by simpa using c)⟩
theorem start_get {N : Nat} {ts : List T} {i : Nat} {s : SV} (h : (startE N ts)[i]? = some (some s)) : ∃ t, ts[i]? = some t ∧ startS t = some s := by
  unfold startE at h
  by_cases hi : i < ts.length
  · rw [List.getElem?_append_left (by simpa using hi), List.getElem?_map] at h
    obtain ⟨t, h1, h2⟩ := Option.map_eq_some_iff.mp h
    exact ⟨t, h1, h2⟩
  · rw [List.getElem?_append_right (by simpa using Nat.le_of_not_lt hi)] at h
    rw [List.getElem?_replicate] at h
    split at h <;> cases h
def ghF (g : Gh) (ts : List T) (es : List D) : Gh := ⟨g.Z, g.P, fun i => (ts[i]?).bind fun t => (es[i]?).bind fun e => adr t e [], fun _ => [], none⟩
theorem sim_start {N : List Str} {ts : List T} {vs : List V} {es : List D} (ok : GhOk G g H) (a : ArgR G g H ts vs es) (hN : ts.length ≤ N.length) : Sim G (ghF g ts es) (startE N.length ts) (L2.start N vs) H (fun i => (es[i]?).getD .z) := by
  have hl := a.r.len
  have sg : ∀ (i : Nat) (v : V), vs[i]? = some v → (L2.start N vs)[i]? = some (some v) := fun i v h => by
    unfold L2.start
    rw [List.getElem?_append_left (by simpa using get_lt h), List.getElem?_map, h]; rfl
  have eg : ∀ (i : Nat) e, es[i]? = some e → (es[i]?).getD D.z = e := fun i e h => by rw [h]; rfl
  have dm : ∀ (i : Nat) p, p ∈ fp ((es[i]?).getD D.z) → ∃ e, es[i]? = some e ∧ p ∈ fp e := fun i p h => by
    cases q : es[i]? with
    | none => rw [q] at h; simp [fp_z] at h
    | some e => rw [q] at h; exact ⟨e, rfl, h⟩
  refine ⟨?_, fun i w h => ?_, fun i p L t h => ?_, fun i k π h => ?_, fun i c h => ?_, fun i h => ?_, fun i => ?_, fun i j p h h' => ?_, fun i p h => ?_, ok.zt, ok.pt⟩
  · unfold startE L2.start
    simp [hl.1]
  · obtain ⟨t, h1, h2⟩ := start_get h
    cases t with
    | im w' =>
      cases h2
      obtain ⟨v, e, q1, q2, q3⟩ := a.r.get h1
      exact ⟨v, sg i v q1, q3.2⟩
    | _ => cases h2
  · obtain ⟨t', h1, h2⟩ := start_get h
    obtain ⟨v, e, q1, q2, q3⟩ := a.r.get h1
    have : t' = t ∧ p = true ∧ L = [] ∧ t.mut = true := by
      cases t' <;> cases h2 <;> exact ⟨rfl, rfl, rfl, rfl⟩
    obtain ⟨rfl, rfl, rfl, hm⟩ := this
    refine ⟨v, sg i v q1, by rw [eg i e q2]; exact q3, hm, fun _ => ?_, rfl, fun q hq => by cases hq⟩
    simp only [ghF, h1, q2, Option.bind_some, Option.getD_some]
  · obtain ⟨t', h1, h2⟩ := start_get h
    cases t' <;> cases h2
  · obtain ⟨t', h1, h2⟩ := start_get h
    cases t' <;> cases h2
  · refine ⟨?_, rfl⟩
    cases q : es[i]? with
    | none => rfl
    | some e =>
      have hi : i < ts.length := by rw [← hl.2]; exact get_lt q
      have hts : ts[i]? = some ts[i] := by simp [hi]
      obtain ⟨v, e', q1, q2, q3⟩ := a.r.get hts
      rw [q] at q2; cases q2
      have hs : (startE N.length ts)[i]? = some (startS ts[i]) := by
        unfold startE
        rw [List.getElem?_append_left (by simpa using hi), List.getElem?_map, hts]; rfl
      cases ht : ts[i] with
      | im w => rw [ht] at q3; exact q3.1
      | _ => rw [ht] at hs; exact absurd hs (h _ _ _)
  · cases q : es[i]? with
    | none => simp [fp_z]
    | some e => exact fps_get a.nd q
  · obtain ⟨e, h1, h2⟩ := dm i p h
    obtain ⟨e', h1', h2'⟩ := dm j p h'
    refine Classical.byContradiction fun ne => ?_
    exact fps_split ne a.nd h1 h1' h2 h2'
  · obtain ⟨e, h1, h2⟩ := dm i p h
    exact a.no p (mem_fps (List.mem_of_getElem? h1) h2)
theorem argsO_spec {env : Env3} : ∀ {ts ts' : List T} {i : Nat}, argsO env i ts = some ts' → ts'.length = ts.length ∧ ∀ (j : Nat) t t', ts[j]? = some t → ts'[j]? = some t' → (t.mut = false ∧ t' = t) ∨ (t.mut = true ∧ ∃ L, env[i + j]? = some (some (SV.own true L t')))
  | [], ts', i, h => by cases h; exact ⟨rfl, fun j t t' h => by simp at h⟩
  | t :: ts, ts', i, h => by
    have gen : ∀ (x : T) r, argsO env (i + 1) ts = some r → ts' = x :: r → ((t.mut = false ∧ x = t) ∨ (t.mut = true ∧ ∃ L, env[i]? = some (some (SV.own true L x)))) → ts'.length = (t :: ts).length ∧ ∀ (j : Nat) u u', (t :: ts)[j]? = some u → ts'[j]? = some u' → (u.mut = false ∧ u' = u) ∨ (u.mut = true ∧ ∃ L, env[i + j]? = some (some (SV.own true L u'))) := fun x r hr e hx => by
      subst e
      obtain ⟨q1, q2⟩ := argsO_spec hr
      refine ⟨by simp [q1], fun j u u' hu hu' => ?_⟩
      cases j with
      | zero =>
        rw [List.getElem?_cons_zero] at hu hu'
        cases hu; cases hu'
        exact hx
      | succ j =>
        rw [List.getElem?_cons_succ] at hu hu'
        rcases q2 j u u' hu hu' with z | ⟨z1, L, z2⟩
        · exact .inl z
        · exact .inr ⟨z1, L, by rw [← z2]; congr 1; omega⟩
    cases t with
    | im w =>
      obtain ⟨r, h1, h2⟩ := Option.map_eq_some_iff.mp (show (argsO env (i + 1) ts).map (T.im w :: ·) = some ts' from h)
      exact gen (.im w) r h1 h2.symm (.inl ⟨rfl, rfl⟩)
    | _ =>
      simp only [argsO] at h
      split at h
      · rename_i L t' e
        obtain ⟨r, h1, h2⟩ := Option.map_eq_some_iff.mp h
        exact gen t' r h1 h2.symm (.inr ⟨rfl, L, e⟩)
      · cases h
theorem end_args {ts ts' : List T} {vs : List V} {es : List D} (a : ArgR G g H ts vs es) (k : Keep (ghF g ts es) H g' H') (s : Sim G g' env' σ H' ds) (h : argsO env' 0 ts = some ts') :
    ∃ es', ArgR G ⟨g'.Z, g'.P, g.rt, g.lk, g.xa⟩ H' ts' vs es' ∧ ts'.map T.mut = ts.map T.mut ∧ (∀ j t', ts'[j]? = some t' → t'.mut = true → (∃ L, env'[j]? = some (some (SV.own true L t'))) ∧ es'[j]? = some (ds j)) ∧
      (∀ i : Nat, (∀ L t, env'[i]? ≠ some (some (SV.own true L t))) → ∀ p ∈ fp (ds i), p ∉ fps es') ∧ ∀ p ∈ fps es', ∃ i, p ∈ fp (ds i) := by
  obtain ⟨hlen, sp⟩ := argsO_spec h
  have hl := a.r.len
  have own : ∀ (j : Nat) t t', ts[j]? = some t → ts'[j]? = some t' → t.mut = true → (∃ L, env'[j]? = some (some (SV.own true L t'))) ∧ t'.mut = true ∧ ∀ v, vs[j]? = some v → RepT G g'.Z H' t' v (ds j) := fun j t t' h1 h2 hm => by
    rcases sp j t t' h1 h2 with z | ⟨_, L, z⟩
    · rw [z.1] at hm; cases hm
    · rw [Nat.zero_add] at z
      obtain ⟨v', o1, o2, o3, o4, o5, o6⟩ := s.own _ _ _ _ z
      refine ⟨⟨L, z⟩, o3, fun v hv => ?_⟩
      obtain ⟨v0, e0, q1, q2, q3⟩ := a.r.get h1
      rw [hv] at q1; cases q1
      have hr := o4 rfl
      rw [k.rt] at hr
      simp only [ghF, h1, q2, Option.bind_some] at hr
      obtain ⟨b, b1, b2⟩ := adr_root q3 hm
      obtain ⟨c, c1, c2⟩ := adr_root o2 o3
      rw [b1, c1] at hr
      cases hr
      rw [b2, ← c2]; exact o2
  have imm : ∀ (j : Nat) t t', ts[j]? = some t → ts'[j]? = some t' → t.mut = false → t' = t := fun j t t' h1 h2 hm => by
    rcases sp j t t' h1 h2 with z | ⟨z, _⟩
    · exact z.2
    · rw [hm] at z; cases z
  have tlt : ∀ (j : Nat) t', ts'[j]? = some t' → ∃ t, ts[j]? = some t := fun j t' h => ⟨_, by rw [List.getElem?_eq_getElem]; rw [← hlen]; exact get_lt h⟩
  let es' : List D := (List.range ts.length).map fun j => if (ts'[j]?.map T.mut) = some true then ds j else D.z
  have eg : ∀ (j : Nat) t', ts'[j]? = some t' → es'[j]? = some (if t'.mut = true then ds j else D.z) := fun j t' h => by
    have hj : j < ts.length := by rw [← hlen]; exact get_lt h
    simp only [es', List.getElem?_map, List.getElem?_range hj, Option.map_some, h]
    cases t'.mut <;> simp
  have ei : ∀ (j : Nat) e, es'[j]? = some e → ∃ t', ts'[j]? = some t' ∧ e = (if t'.mut = true then ds j else D.z) := fun j e h => by
    have hj : j < ts.length := by have := get_lt h; simpa [es'] using this
    have ht : ts'[j]? = some (ts'[j]'(by rw [hlen]; exact hj)) := by rw [List.getElem?_eq_getElem]
    rw [eg j _ ht] at h
    exact ⟨_, ht, (Option.some.inj h).symm⟩
  have fpi : ∀ (j : Nat) e p, es'[j]? = some e → p ∈ fp e → p ∈ fp (ds j) ∧ ∃ t', ts'[j]? = some t' ∧ t'.mut = true := fun j e p h hp => by
    obtain ⟨t', h1, rfl⟩ := ei j e h
    by_cases hm : t'.mut = true
    · rw [if_pos hm] at hp; exact ⟨hp, t', h1, hm⟩
    · rw [if_neg hm, fp_z] at hp; cases hp
  refine ⟨es', ⟨repTL_of (by rw [hlen]; exact hl.1) (by simp [es', hlen]) fun i t' v e h1 h2 h3 => ?_, fps_nodup_of (fun i e h => ?_) (fun i j d e p hd he hp hq => ?_), fun p hp => ?_⟩, ?_, fun j t' h hm => ?_, fun i hi p hp hq => ?_, fun p hp => ?_⟩
  · obtain ⟨t, ht⟩ := tlt i t' h1
    rw [eg i t' h1] at h3
    cases h3
    cases hm : t.mut with
    | true =>
      obtain ⟨_, o1, o2⟩ := own i t t' ht h1 hm
      rw [if_pos o1]; exact o2 v h2
    | false =>
      have := imm i t t' ht h1 hm
      subst this
      rw [if_neg (by rw [hm]; exact Bool.false_ne_true)]
      obtain ⟨v0, e0, q1, q2, q3⟩ := a.r.get ht
      rw [h2] at q1; cases q1
      cases t' with
      | im w => exact ⟨rfl, q3.2.keep k.kz⟩
      | _ => cases hm
  · obtain ⟨t', h1, rfl⟩ := ei i e h
    by_cases hm : t'.mut = true
    · rw [if_pos hm]; exact s.nd i
    · rw [if_neg hm, fp_z]; exact List.nodup_nil
  · exact s.dj i j p (fpi i d p hd hp).1 (fpi j e p he hq).1
  · obtain ⟨i, e, h1, h2⟩ := mem_fps_get hp
    exact s.no i p (fpi i e p h1 h2).1
  · refine List.ext_getElem? fun j => ?_
    rw [List.getElem?_map, List.getElem?_map]
    cases h1 : ts'[j]? with
    | none =>
      have : ts[j]? = none := by rw [List.getElem?_eq_none_iff] at h1 ⊢; omega
      rw [this]
    | some t' =>
      obtain ⟨t, ht⟩ := tlt j t' h1
      rw [ht]
      cases hm : t.mut with
      | true => simp only [Option.map_some, hm, (own j t t' ht h1 hm).2.1]
      | false => rw [imm j t t' ht h1 hm]
  · obtain ⟨t, ht⟩ := tlt j t' h
    have htm : t.mut = true := by
      cases q : t.mut with
      | true => rfl
      | false => rw [imm j t t' ht h q, q] at hm; cases hm
    refine ⟨(own j t t' ht h htm).1, ?_⟩
    rw [eg j t' h, if_pos hm]
  · obtain ⟨j, e, h1, h2⟩ := mem_fps_get hq
    obtain ⟨h3, t', h4, h5⟩ := fpi j e p h1 h2
    have := s.dj i j p hp h3
    subst this
    obtain ⟨t, ht⟩ := tlt i t' h4
    have htm : t.mut = true := by
      cases q : t.mut with
      | true => rfl
      | false => rw [imm i t t' ht h4 q, q] at h5; cases h5
    obtain ⟨L, z⟩ := (own i t t' ht h4 htm).1
    exact hi L t' z
  · obtain ⟨j, e, h1, h2⟩ := mem_fps_get hp
    exact ⟨j, (fpi j e p h1 h2).1⟩
theorem fin_sat {Q : VK} {E : XK} {ts : List T} {vs : List V} {es : List D} {ev : EV} {v : V} (hg : g.lk = fun _ => []) (a : ArgR G g H ts vs es) (k : Keep (ghF g ts es) H g' H') (s : SimE G g' env' σ H' ev v) (h : SatF G g H vs ts Q E (finF ev env' ts)) : Q v H' := by
  obtain ⟨ds, d, s, r⟩ := s
  unfold finF at h
  split at h
  · rename_i ts' e1
    split at h
    · rename_i v' e2
      obtain ⟨es', a', hm, ho, hn, hi⟩ := end_args a k s e1
      obtain ⟨hlen, sp⟩ := argsO_spec e1
      refine h ⟨g'.Z, g'.P, g.rt, g.lk, g.xa⟩ v H' es' ⟨k.z, k.p, k.q, k.tups, k.frzs, rfl, rfl, rfl, fun i q hq => by rw [hg] at hq; cases hq⟩ ⟨hg, s.zt, s.pt⟩ a' hm ?_
      cases ev with
      | im w => cases e2; exact r.2
      | tmp t =>
        cases e2
        refine ⟨d, r.1, r.2.1, r.2.2.1, fun p hp => ⟨(r.2.2.2 p hp).1, (r.2.2.2 p hp).2.1, fun hq => ?_⟩⟩
        obtain ⟨j, hj⟩ := hi p hq
        exact (r.2.2.2 p hp).2.2 j hj
      | ptr j π =>
        obtain ⟨rfl, b, p, L, t, rfl, h1, h2⟩ := r
        simp only [retE, h1] at e2
        cases p with
        | true =>
          cases e2
          obtain ⟨v0, o1, o2, o3, o4, o5, o6⟩ := s.own _ _ _ _ h1
          obtain ⟨c, c1, c2⟩ := adr_root o2 o3
          have hr := o4 rfl
          rw [k.rt, c1] at hr
          obtain ⟨t0, q1, q2⟩ := Option.bind_eq_some_iff.mp hr
          obtain ⟨e0, q3, q4⟩ := Option.bind_eq_some_iff.mp q2
          have hj : j < ts'.length := by rw [hlen]; exact get_lt q1
          have hts : ts'[j]? = some ts'[j] := by simp [hj]
          rcases sp j t0 _ q1 hts with ⟨z1, z2⟩ | ⟨z1, L', z2⟩
          · exfalso
            obtain ⟨v1, e1', w1, w2, w3⟩ := a.r.get q1
            rw [q3] at w2; cases w2
            cases t0 with
            | im w => rw [w3.1] at q4; simp [adr, D.z] at q4
            | _ => cases z1
          · rw [Nat.zero_add, h1] at z2
            cases z2
            exact ⟨_, _, b, hts, (ho j _ hts o3).2, h2, rfl⟩
        | false =>
          obtain ⟨x, hx⟩ := getP_of_adr h2
          obtain ⟨v0, o1, o2, o3, o4, o5, o6⟩ := s.own _ _ _ _ h1
          obtain ⟨u, e, out, r1, r2, r3, _⟩ := o2.lens hx
          have := r3 []
          rw [List.append_nil, h2] at this
          rw [adr_val r1 this.symm] at r1
          have nde : (fp e).Nodup := (List.nodup_append.mp (r2.nodup_iff.mp (s.nd j))).2.1
          have ine : ∀ q ∈ fp e, q ∈ fp (ds j) := fun q hq => r2.mem_iff.mpr (List.mem_append_right _ hq)
          have fin : ∀ q ∈ fp e, ¬ g'.Z q ∧ ¬ g'.P q ∧ q ∉ fps es' := fun q hq => ⟨(s.no j q (ine q hq)).1, (s.no j q (ine q hq)).2, hn j (fun L' t' z => by rw [h1] at z; cases z) q (ine q hq)⟩
          simp only [hx] at e2
          cases x with
          | im w => cases e2; exact r1.2
          | _ => cases e2; exact ⟨e, r1, rfl, nde, fin⟩
    · exact h.elim
  · exact h.elim
theorem fn_ok {P : Program} {w : World} {K : PySem.W.Frag} {mg : Str → Option Value} {base : Heap} {x qual : Str} {params : Arguments} {body : List Stmt} {scope : Scope} {dvs : List V} {kws : List (Str × V)} {f : Addr} {fd : FuncData} {N ps : List Str} {k : Nat} {m : S3} (F : FunD K x qual params body scope dvs kws f fd) (S : FnScope N ps scope) (hps : ps.length ≤ N.length)
    (h : ∀ (cdv : Value) (A : Around) (outer : List PySem.Env) (s : Shared) (H : Hp) (E : XK), Room k (A.deeper (envOfC qual scope s.heap.objs.size f cdv)) →
      SSs G (cxOf (L2.CX P w) P w K mg base N qual scope f cdv A outer s H E) (fun cls d _ H => E cls d H) body m) :
    FnOk P w K mg base (L2.CX P w) (k + 1) f fd ps (spOf G ps.length (bodyF N.length m)) := by
  refine F.ok S (fun vs H Q E q => q.1) fun cdv A outer s H vs Q E hr hsp => ⟨_, h cdv A outer s H E hr, ?_⟩
  obtain ⟨hl, g, ts, es, ok, a, q⟩ := hsp
  have hts : ts.length ≤ N.length := by rw [← a.r.len.1, hl]; exact hps
  refine ⟨ghF g ts es, _, _, sim_start ok a hts, ?_⟩
  unfold bodyF at q
  cases e1 : m (startE N.length ts) with
  | nx e =>
    rw [e1] at q
    exact fun g' σ' H' k' s' => fin_sat ok.lk a k' (s'.im (w := .non) (v := .non) rfl) q
  | rt v e => rw [e1] at q; exact fun g' σ' v' H' k' s' => fin_sat ok.lk a k' s' q
  | ex c e =>
    rw [e1] at q
    rintro g' σ' H' k' ⟨ds', s'⟩
    simp only at q
    split at q
    · rename_i ts' e2
      obtain ⟨es', a', hm, _⟩ := end_args a k' s' e2
      exact q ⟨g'.Z, g'.P, g.rt, g.lk, g.xa⟩ H' es' ⟨k'.z, k'.p, k'.q, k'.tups, k'.frzs, rfl, rfl, rfl, fun i q hq => by rw [ok.lk] at hq; cases hq⟩ ⟨ok.lk, s'.zt, s'.pt⟩ a' hm
    · exact q.elim
  | bk e => rw [e1] at q; exact q.elim
  | ct e => rw [e1] at q; exact q.elim
  | stuck => rw [e1] at q; exact q.elim
end
end VL
namespace VL
open PySem L2 PyProof.Rows
def slotE : EV → Option Nat
  | .ptr k _ => some k
  | _ => none
def disjE : List EV → Bool
  | [] => true
  | .ptr k _ :: r => r.all (fun x => !decide (slotE x = some k)) && disjE r
  | _ :: r => disjE r
def rds (env : Env3) : List EV → Option (List T)
  | [] => some []
  | e :: r => (rd env e).bind fun t => (rds env r).map (t :: ·)
def putL : List EV → List T → Env3 → Option Env3
  | [], _, env => some env
  | .ptr k ρ :: r, t :: ts, env => (wrS false k ρ t env).bind (putL r ts)
  | _ :: r, _ :: ts, env => putL r ts env
  | _ :: _, [], _ => none
def outE (evs : List EV) (ts' : List T) : EV → Option EV
  | .im w => some (.im w)
  | .tmp t => some (.tmp t)
  | .ptr j π => match evs[j]? with
    | some (.ptr k ρ) => some (.ptr k (ρ ++ π))
    | some (.tmp _) => (match (ts'[j]?).bind fun t => t.getP π with
      | some (.im w) => some (.im w)
      | some x => some (.tmp x)
      | none => none)
    | _ => none
section
variable {G : Gm} {X : Cx} {Wx : WX} {g g' : Gh} {env env' : Env3} {σ : L2.St} {H H' : Hp} {ds : Nat → D}
theorem disjE_ne : ∀ {evs : List EV}, disjE evs = true → ∀ {i j : Nat} {k : Nat} {π ρ : Path}, evs[i]? = some (.ptr k π) → evs[j]? = some (.ptr k ρ) → i = j
  | [], _, i, j, k, π, ρ, h, _ => by simp at h
  | e :: r, hd, i, j, k, π, ρ, h, h' => by
    have hr : disjE r = true := by
      cases e with
      | ptr k' π' => exact (Bool.and_eq_true_iff.mp (show (_ && _) = true from hd)).2
      | _ => exact hd
    have hh : ∀ {m : Nat} {k' : Nat} {π' ρ' : Path}, e = .ptr k' π' → r[m]? = some (.ptr k' ρ') → False := fun {m k' π' ρ'} he hm => by
      subst he
      have := List.all_eq_true.mp (Bool.and_eq_true_iff.mp (show (_ && _) = true from hd)).1 _ (List.mem_of_getElem? hm)
      simp [slotE] at this
    cases i with
    | zero =>
      rw [List.getElem?_cons_zero] at h; cases h
      cases j with
      | zero => rfl
      | succ j => rw [List.getElem?_cons_succ] at h'; exact (hh rfl h').elim
    | succ i =>
      rw [List.getElem?_cons_succ] at h
      cases j with
      | zero => rw [List.getElem?_cons_zero] at h'; cases h'; exact (hh rfl h).elim
      | succ j => rw [List.getElem?_cons_succ] at h'; rw [disjE_ne hr h h']
structure PutL (evs : List EV) (ts : List T) (env env' : Env3) : Prop where
  len : env'.length = env.length
  at' : ∀ (j k : Nat) ρ y, evs[j]? = some (.ptr k ρ) → ts[j]? = some y → ∃ p L t t', env[k]? = some (some (SV.own p L t)) ∧ lockOk L ρ = true ∧ t.setP ρ y = some t' ∧ env'[k]? = some (some (SV.own p L t'))
  ne : ∀ i : Nat, (∀ (j : Nat) ρ, evs[j]? ≠ some (.ptr i ρ)) → env'[i]? = env[i]? ∨ ∃ k π, env[i]? = some (some (SV.ptr k π)) ∧ env'[i]? = some none
  pt : ∀ (i k : Nat) π, env'[i]? = some (some (SV.ptr k π)) → env[i]? = some (some (SV.ptr k π)) ∧ ∀ (j : Nat) ρ, evs[j]? = some (.ptr k ρ) → π <+: ρ
  ln : evs.length ≤ ts.length
def ArgP (G : Gm) (g : Gh) (env : Env3) (σ : L2.St) (H : Hp) (ds : Nat → D) : EV → V → T → D → Prop
  | .im w, v, x, e => x = .im w ∧ e = .z ∧ Rep G g.Z H w v
  | .tmp t, v, x, e => x = t ∧ RepT G g.Z H t v e ∧ t.mut = true ∧ (fp e).Nodup ∧ ∀ p ∈ fp e, ¬ g.Z p ∧ ¬ g.P p ∧ ∀ i, p ∉ fp (ds i)
  | .ptr k ρ, v, x, e => ∃ p L t vk out, env[k]? = some (some (SV.own p L t)) ∧ σ[k]? = some (some vk) ∧ t.mut = true ∧ RepT G g.Z H t vk (ds k) ∧ t.getP ρ = some x ∧ RepT G g.Z H x v e ∧ x.mut = true ∧ (fp (ds k)).Perm (out ++ fp e) ∧ (∀ π', adr t (ds k) (ρ ++ π') = adr x e π') ∧ (∀ ρ' b, ¬ ρ <+: ρ' → adr t (ds k) ρ' = some b → b ∉ fp e) ∧
      ∀ Z' H' (k' : KeepZ g.Z H Z' H') (st : ∀ p ∈ out, H' p = H p) (y : T) (e' : D), RepT G Z' H' y v e' → ∃ t' d', t.setP ρ y = some t' ∧ RepT G Z' H' t' vk d' ∧ (fp d').Perm (out ++ fp e') ∧
        (∀ π', adr t' d' (ρ ++ π') = adr y e' π') ∧ ∀ π, ¬ ρ <+: π → adr t' d' π = adr t (ds k) π
theorem mut_adr {Z : Addr → Prop} {x : T} {v : V} {e : D} {a : Addr} (r : RepT G Z H x v e) (h : adr x e [] = some a) : x.mut = true := by
  cases x with
  | im w => rw [r.1] at h; simp [adr, D.z] at h
  | _ => rfl
theorem argP_of (s : Sim G g env σ H ds) {ev : EV} {v : V} {d : D} {x : T} (r : EvR G g env H ds ev v d) (h : rd env ev = some x) : ∃ e, ArgP G g env σ H ds ev v x e ∧ (∀ p ∈ fp e, p ∈ fp d ∨ ∃ k π, ev = .ptr k π ∧ p ∈ fp (ds k)) ∧ (fp e).Nodup := by
  cases ev with
  | im w => cases h; exact ⟨.z, ⟨rfl, rfl, r.2⟩, fun p h => (by rw [fp_z] at h; cases h), by rw [fp_z]; exact List.nodup_nil⟩
  | tmp t => cases h; exact ⟨d, ⟨rfl, r.1, r.2.1, r.2.2.1, r.2.2.2⟩, fun p h => .inl h, r.2.2.1⟩
  | ptr k π =>
    obtain ⟨_, a, p, L, t, rfl, h1, h2⟩ := r
    have hx : t.getP π = some x := by simpa only [rd, h1] using h
    obtain ⟨vk, o1, o2, o3, _⟩ := s.own _ _ _ _ h1
    obtain ⟨u, e, out, r1, r2, r3, r0, r4⟩ := o2.lens hx
    have ha := r3 []
    rw [List.append_nil, h2] at ha
    have hu := adr_val r1 ha.symm
    subst hu
    exact ⟨e, ⟨p, L, t, vk, out, h1, o1, o3, o2, hx, r1, mut_adr r1 ha.symm, r2, r3, r0 (s.nd k), r4⟩, fun q hq => .inr ⟨k, π, rfl, r2.mem_iff.mpr (List.mem_append_right _ hq)⟩, (List.nodup_append.mp (r2.nodup_iff.mp (s.nd k))).2.1⟩
theorem rds_get : ∀ {evs : List EV} {ts : List T}, rds env evs = some ts → ts.length = evs.length ∧ ∀ (j : Nat) ev, evs[j]? = some ev → ∃ t, ts[j]? = some t ∧ rd env ev = some t
  | [], ts, h => by cases h; exact ⟨rfl, fun j ev h => by simp at h⟩
  | e :: r, ts, h => by
    obtain ⟨t, h1, h2⟩ := Option.bind_eq_some_iff.mp (show (rd env e).bind (fun t => (rds env r).map (t :: ·)) = some ts from h)
    obtain ⟨ts', h3, rfl⟩ := Option.map_eq_some_iff.mp h2
    obtain ⟨q1, q2⟩ := rds_get h3
    refine ⟨by simp [q1], fun j ev hj => ?_⟩
    cases j with
    | zero => rw [List.getElem?_cons_zero] at hj; cases hj; exact ⟨t, rfl, h1⟩
    | succ j => rw [List.getElem?_cons_succ] at hj; simpa using q2 j ev hj
theorem EvL.get : ∀ {evs : List EV} {vs : List V} {es : List D}, EvL G g env H ds evs vs es → ∀ {j : Nat} {ev : EV}, evs[j]? = some ev → ∃ v d, vs[j]? = some v ∧ es[j]? = some d ∧ EvR G g env H ds ev v d
  | e :: r, vs, es, ⟨v, vr, d, dr, e1, e2, a, b, c⟩, j, ev, h => by
    subst e1 e2
    cases j with
    | zero => rw [List.getElem?_cons_zero] at h; cases h; exact ⟨v, d, rfl, rfl, a⟩
    | succ j => rw [List.getElem?_cons_succ] at h; simpa using b.get h
theorem EvL.nd : ∀ {evs : List EV} {vs : List V} {es : List D}, EvL G g env H ds evs vs es → (fps es).Nodup
  | [], _, _, h => by rw [h.2]; exact List.nodup_nil
  | e :: r, vs, es, ⟨v, vr, d, dr, e1, e2, a, b, c⟩ => by
    subst e2
    simp only [fps]
    refine List.nodup_append.mpr ⟨?_, b.nd, fun p hp q hq e => by subst e; exact c p hp hq⟩
    cases e with
    | im w => rw [a.1, fp_z]; exact List.nodup_nil
    | tmp t => exact a.2.2.1
    | ptr k π => rw [a.1, fp_z]; exact List.nodup_nil
theorem choiceL {α : Type} {n : Nat} {P : Nat → α → Prop} (h : ∀ i, i < n → ∃ a, P i a) : ∃ l : List α, l.length = n ∧ ∀ (i : Nat) a, l[i]? = some a → P i a := by
  induction n with
  | zero => exact ⟨[], rfl, fun i a h => by simp at h⟩
  | succ n ih =>
    obtain ⟨l, h1, h2⟩ := ih fun i hi => h i (by omega)
    obtain ⟨a, ha⟩ := h n (by omega)
    refine ⟨l ++ [a], by simp [h1], fun i b hb => ?_⟩
    by_cases hi : i < n
    · rw [List.getElem?_append_left (by omega)] at hb; exact h2 i b hb
    · have := get_lt hb
      simp [h1] at this
      have hin : i = n := by omega
      subst hin
      rw [List.getElem?_append_right (by omega), h1, Nat.sub_self] at hb
      cases hb; exact ha
end
end VL
namespace VL
open PySem L2 PyProof.Rows
structure CallS (P : Program) (w : World) (K : PySem.W.Frag) (mg : Str → Option Value) (base : Heap) (G : Gm) (x : String) (k n : Nat) (dws : List W) (f : Fn) : Prop where
  ex : ∃ (a : Addr) (fd : FuncData) (ps : List Str) (dvs : List V) (ds : List Value), FnOk P w K mg base (L2.CX P w) k a fd ps (spOf G n f) ∧ mg (Str.ofString x) = some (.ref a) ∧ PySem.W.keepIn K (.ref a) = true ∧ Binds K fd ps ds ∧ Vals dvs ds ∧
    ∀ Z H, RepL G Z H dws dvs
structure MethS (P : Program) (w : World) (K : PySem.W.Frag) (mg : Str → Option Value) (base : Heap) (G : Gm) (m : String) (k n : Nat) (dws : List W) (tab : String → Option Fn) : Prop where
  ex : ∀ C s, tab C = some s → Cls K (G.cA C) ∧ ∃ (f : Addr) (fd : FuncData) (ps : List Str) (dvs : List V) (ds : List Value), Meth K (G.cA C) (Str.ofString m) f ∧ FnOk P w K mg base (L2.CX P w) k f fd ps (spOf G n s) ∧ Binds K fd ps ds ∧ Vals dvs ds ∧
    ∀ Z H, RepL G Z H dws dvs
structure MakeS (P : Program) (w : World) (K : PySem.W.Frag) (mg : Str → Option Value) (base : Heap) (G : Gm) (C : String) (k n : Nat) (dws : List W) (s : Fn) : Prop where
  ex : mg (Str.ofString C) = some (.ref (G.cA C)) ∧ ∃ (f : Addr) (fd : FuncData) (ps : List Str) (dvs : List V) (ds : List Value), Mk K (G.cA C) f ∧ FnOk P w K mg base (L2.CX P w) k f fd ps (spOf G n s) ∧ Binds K fd ps ds ∧ Vals dvs ds ∧
    ∀ Z H, RepL G Z H dws dvs
structure MakeO (K : PySem.W.Frag) (mg : Str → Option Value) (G : Gm) (C : String) : Prop where
  gC : mg (Str.ofString C) = some (.ref (G.cA C))
  kC : PySem.W.keepIn K (.ref (G.cA C)) = true
  mks : PySem.W.makesIn K (G.cA C) = true
  ini : PySem.W.findIn K (.ref (G.cA C)) "__init__" = some (some (.builtin "object.__init__"))
structure ClsS (P : Program) (w : World) (K : PySem.W.Frag) (mg : Str → Option Value) (base : Heap) (G : Gm) (C m : String) (k n : Nat) (s : Fn) : Prop where
  gC : mg (Str.ofString C) = some (.ref (G.cA C))
  rd : PySem.W.readsIn K (G.cA C) (.type "type") = true
  ga : PySem.W.specialIn K (.ref (G.cA C)) "__getattribute__" = some (some (.builtin "type.__getattribute__"))
  ex : ∃ (f : Addr) (fd : FuncData) (ps : List Str), PySem.W.findCls K (.ref (G.cA C)) (.type "type") (Str.ofString m) = some (.val (.ref f)) ∧ PySem.W.keepIn K (.ref f) = true ∧ FnOk P w K mg base (L2.CX P w) k f fd ps (spOf G n s) ∧ Binds K fd ps []
def clsT : T → Option (String × List String)
  | .im (.ins C fs) => some (C, fs.map (·.1))
  | .mi C fs => some (C, fs.map (·.1))
  | _ => none
mutual
def frzT : T → Option W
  | .im w => some w
  | .ml xs => (frzTs xs).map .lst
  | .tp xs => (frzTs xs).map .tup
  | .mi C fs => (frzTf fs).map (.ins C)
  | _ => none
def frzTs : List T → Option (List W)
  | [] => some []
  | x :: xs => (frzT x).bind fun y => (frzTs xs).map (y :: ·)
def frzTf : List (String × T) → Option (List (String × W))
  | [] => some []
  | (f, x) :: xs => (frzT x).bind fun y => (frzTf xs).map ((f, y) :: ·)
end
section
variable {X : Cx} {G : Gm} {Wx : WX} {g g' : Gh} {env env' : Env3} {σ : L2.St} {H H' : Hp} {ds : Nat → D} {k : Nat} {f C : Addr} {fd : FuncData} {ps : List Str} {sp : Sp} {dvs : List V} {dvl : List Value} {x : Str} {p pos apos : Pos} {e o : Expr} {es : List Expr} {fa fe : M3 EV} {t : M3 (List EV)}
theorem run_fnD {CX : CXT} {E : XK} {pins : List (Addr × Obj)} {σ : L2.St} {H : Hp} {s : Shared} {Q : VK} {us : List Value} {vs : List V} (F : FnOk X.prog X.w X.K X.mg X.base CX k f fd ps sp) (hr : Room k X.A) (hb : Binds X.K fd ps dvl) (hd : Vals dvs dvl) (hx : PassesAt CX X σ E)
    (I : Inv X pins σ H s) (r : Vals vs us) (h : sp (vs ++ dvs) H Q E) : wpAny (model X.prog X.w) X.A (call (.ref f) us) (EP X pins σ Q) X.xe s := by
  have r2 : Vals (vs ++ dvs) (us ++ dvl) := r.append hd
  have hl : (us ++ dvl).length = ps.length := by rw [← r2.length]; exact F.len _ _ _ _ h
  refine wpAny_call (codeAny_mono (F.run X.A X.stack s H ⟨us, []⟩ (us ++ dvl) (vs ++ dvs) Q E hr I.env0 (hb s us I.kIn hl) r2 h) fun r s' hq => ?_)
  cases r with
  | error e => exact hx pins H s e s' I hq
  | ok fl =>
    cases fl with
    | ret u => exact I.after hq
    | next => exact False.elim hq
    | brk => exact False.elim hq
    | cont => exact False.elim hq
theorem EvL.app : ∀ {evs : List EV} {vs : List V} {es : List D} {ws : List W} {us : List V}, EvL G g env H ds evs vs es → RepL G g.Z H ws us → EvL G g env H ds (evs ++ ws.map EV.im) (vs ++ us) (es ++ ws.map fun _ => D.z)
  | [], vs, es, ws, us, h, r => by rw [h.1, h.2]; exact parts_im () r
  | e :: l, vs, es, ws, us, ⟨v, vr, d, dr, e1, e2, a, b, c⟩, r => by
    subst e1 e2
    refine ⟨v, _, d, _, rfl, rfl, a, b.app r, fun p hp hq => ?_⟩
    have hq : p ∈ fps (dr ++ ws.map fun _ => D.z) := hq
    rw [fps_append] at hq
    rcases List.mem_append.mp hq with z | z
    · exact c p hp z
    · obtain ⟨i, x, h1, h2⟩ := mem_fps_get z
      rw [List.getElem?_map] at h1
      obtain ⟨w, _, rfl⟩ := Option.map_eq_some_iff.mp h1
      rw [fp_z] at h2; cases h2
theorem SimA.app {evs : List EV} {vs : List V} {ws : List W} {us : List V} (s : SimA G g env σ H evs vs) (r : ∀ Z H, RepL G Z H ws us) : SimA G g env σ H (evs ++ ws.map EV.im) (vs ++ us) := by
  obtain ⟨ds, es, s, l⟩ := s
  exact ⟨ds, _, s, l.app (r _ _)⟩
theorem EvR.keepS {g' : Gh} {ev : EV} {v : V} {d : D} (s : Sim G g env σ H ds) (r : EvR G g env H ds ev v d) (k : Keep g H g' H') (hp : ∀ p ∈ fp d, H' p = H p) (hz : ∀ p ∈ fp d, ¬ g'.Z p) : EvR G g' env H' ds ev v d := by
  cases ev with
  | im w => exact ⟨r.1, r.2.keep k.kz⟩
  | tmp t => exact ⟨r.1.keep k.kz hp, r.2.1, r.2.2.1, fun p h => ⟨hz p h, fun z => (r.2.2.2 p h).2.1 (k.q p z), (r.2.2.2 p h).2.2⟩⟩
  | ptr k π => exact r
theorem EvL.keepS {g' : Gh} (s : Sim G g env σ H ds) (k : Keep g H g' H') : ∀ {evs : List EV} {vs : List V} {es : List D}, EvL G g env H ds evs vs es → (∀ p ∈ fps es, H' p = H p) → (∀ p ∈ fps es, ¬ g'.Z p) → EvL G g' env H' ds evs vs es
  | [], _, _, h, _, _ => h
  | e :: r, _, _, ⟨v, vr, d, dr, e1, e2, a, b, c⟩, hp, hz => by
    subst e2
    exact ⟨v, vr, d, dr, e1, rfl, a.keepS s k (fun p h => hp p (List.mem_append_left _ h)) (fun p h => hz p (List.mem_append_left _ h)), b.keepS s k (fun p h => hp p (List.mem_append_right _ h)) (fun p h => hz p (List.mem_append_right _ h)), c⟩
theorem SimA.new {evs : List EV} {vs : List V} {q : Addr} {o : HO} (s : SimA G g env σ H evs vs) (h : H q = none) : SimA G g env σ (L2.upd H q o) evs vs ∧ Keep g H g (L2.upd H q o) := by
  obtain ⟨ds, es, s, l⟩ := s
  have kn := Keep.new (o := o) h s
  refine ⟨⟨ds, es, s.new h, l.keepS s kn (fun p hp => upd_ne fun e => ?_) fun p hp => (l.noP p hp).2.1⟩, kn⟩
  subst e
  obtain ⟨_, _, _, o', e, _⟩ := l.noP p hp
  rw [h] at e; cases e
theorem Rep.moreZ {Z Z' : Addr → Prop} (h : ∀ p, Z p → Z' p) {w : W} {v : V} (r : Rep G Z H w v) : Rep G Z' H w v := r.keep ⟨fun p z => ⟨h p z, rfl⟩, fun _ _ e => e, FK.refl⟩
mutual
theorem frz_rep {Z Z' : Addr → Prop} (hz : ∀ p, Z p → Z' p) : ∀ {u : T} {w : W} {v : V} {d : D}, frzT u = some w → RepT G Z H u v d → (∀ p ∈ fp d, Z' p) → Rep G Z' H w v
  | .im w', w, v, d, e, r, _ => by cases e; exact r.2.moreZ hz
  | .ml xs, w, v, d, e, r, h => by
    obtain ⟨ys, e1, rfl⟩ := Option.map_eq_some_iff.mp (show (frzTs xs).map W.lst = some w from e)
    obtain ⟨p, vs, ds, rfl, rfl, h1, q⟩ := r
    exact ⟨p, vs, rfl, h p (by simp [fp]), h1, frzs_rep hz e1 q fun p hp => h p (by simp [fp, hp])⟩
  | .tp xs, w, v, d, e, r, h => by
    obtain ⟨ys, e1, rfl⟩ := Option.map_eq_some_iff.mp (show (frzTs xs).map W.tup = some w from e)
    obtain ⟨p, vs, ds, rfl, rfl, h1, q⟩ := r
    exact ⟨p, vs, rfl, h1, frzs_rep hz e1 q fun p hp => h p (by simp [fp, hp])⟩
  | .mi C fs, w, v, d, e, r, h => by
    obtain ⟨ys, e1, rfl⟩ := Option.map_eq_some_iff.mp (show (frzTf fs).map (W.ins C) = some w from e)
    obtain ⟨p, dx, vs, ds, rfl, rfl, h1, q⟩ := r
    exact ⟨p, dx, vs, rfl, h p (by simp [fp]), h1.1, frzf_rep hz e1 q fun p hp => h p (by simp [fp, hp])⟩
  | .md _, _, _, _, e, _, _ => by simp [frzT] at e
  | .mt _, _, _, _, e, _, _ => by simp [frzT] at e
theorem frzs_rep {Z Z' : Addr → Prop} (hz : ∀ p, Z p → Z' p) : ∀ {us : List T} {ws : List W} {vs : List V} {ds : List D}, frzTs us = some ws → RepTL G Z H us vs ds → (∀ p ∈ fps ds, Z' p) → RepL G Z' H ws vs
  | [], ws, vs, ds, e, r, _ => by cases e; exact r.1
  | x :: xs, ws, vs, ds, e, r, h => by
    obtain ⟨v, rr, d, dr, rfl, rfl, a, b⟩ := r
    obtain ⟨y, e1, e2⟩ := Option.bind_eq_some_iff.mp (show (frzT x).bind (fun y => (frzTs xs).map (y :: ·)) = some ws from e)
    obtain ⟨zs, e3, rfl⟩ := Option.map_eq_some_iff.mp e2
    exact ⟨v, rr, rfl, frz_rep hz e1 a fun p hp => h p (List.mem_append_left _ hp), frzs_rep hz e3 b fun p hp => h p (List.mem_append_right _ hp)⟩
theorem frzf_rep {Z Z' : Addr → Prop} (hz : ∀ p, Z p → Z' p) : ∀ {us : List (String × T)} {ws : List (String × W)} {vs : List (Str × V)} {ds : List D}, frzTf us = some ws → RepTF G Z H us vs ds → (∀ p ∈ fps ds, Z' p) → RepF G Z' H ws vs
  | [], ws, vs, ds, e, r, _ => by cases e; exact r.1
  | (n, x) :: xs, ws, vs, ds, e, r, h => by
    obtain ⟨v, rr, d, dr, rfl, rfl, a, b⟩ := r
    obtain ⟨y, e1, e2⟩ := Option.bind_eq_some_iff.mp (show (frzT x).bind (fun y => (frzTf xs).map ((n, y) :: ·)) = some ws from e)
    obtain ⟨zs, e3, rfl⟩ := Option.map_eq_some_iff.mp e2
    exact ⟨v, rr, rfl, frz_rep hz e1 a fun p hp => h p (List.mem_append_left _ hp), frzf_rep hz e3 b fun p hp => h p (List.mem_append_right _ hp)⟩
end
theorem SimE.frz {u : T} {w : W} {v : V} (s : SimE G g env σ H (.tmp u) v) (h : frzT u = some w) : ∃ g', Keep g H g' H ∧ SimE G g' env σ H (.im w) v := by
  obtain ⟨ds, d, s, r1, r2, r3, r4⟩ := s
  have k : Keep g H { g with Z := fun p => g.Z p ∨ p ∈ fp d } H := ⟨fun p z => ⟨.inl z, rfl⟩, fun p z => ⟨z, rfl⟩, fun _ z => z, fun _ _ e => e, FK.refl, rfl, rfl, rfl, fun _ _ _ => rfl⟩
  refine ⟨_, k, ds, .z, s.grow k (fun i q hq => ⟨rfl, fun z => z.elim (s.no i q hq).1 fun z => (r4 q z).2.2 i hq⟩) (fun p z => z.elim (s.zt p) fun z => ?_) s.pt.1, rfl, frz_rep (fun p z => .inl z) h r1 fun p hp => .inr hp⟩
  obtain ⟨o, e, m⟩ := r1.there p z
  exact ⟨(r4 p z).2.1, Ob.mut e m⟩
end
end VL
namespace VL
open PySem L2 PyProof.Rows
def toT : EV → Option T
  | .im w => some (.im w)
  | .tmp t => some t
  | _ => none
def toTs : List EV → Option (List T)
  | [] => some []
  | e :: r => (toT e).bind fun t => (toTs r).map (t :: ·)
def allW : List EV → Option (List W)
  | [] => some []
  | .im w :: r => (allW r).map (w :: ·)
  | _ => none
def allI : List T → Option (List W)
  | [] => some []
  | .im w :: r => (allI r).map (w :: ·)
  | _ => none
def tupE (evs : List EV) : Option EV := match allW evs with
  | some ws => some (.im (.tup ws))
  | none => (toTs evs).map fun ts => .tmp (.tp ts)
def eTup (t : M3 (List EV)) : M3 EV := fun env => match t env with
  | .ok evs e1 => if evs.length ≤ 10000000 then (match tupE evs with
    | some ev => .ok ev e1
    | none => .stuck) else .stuck
  | .exc c e1 => .exc c e1
  | .stuck => .stuck
def eLst (t : M3 (List EV)) : M3 EV := fun env => match t env with
  | .ok evs e1 => if evs.length ≤ 10000000 then (match toTs evs with
    | some ts => .ok (.tmp (.ml ts)) e1
    | none => .stuck) else .stuck
  | .exc c e1 => .exc c e1
  | .stuck => .stuck
def kidEV (o : EV) (st : Step) (c : T) : EV := match c with
  | .im w => .im w
  | c => match o with
    | .ptr k π => .ptr k (π ++ [st])
    | _ => .tmp c
def fget {α : Type} (f : String) : List (String × α) → Option α
  | [] => none
  | (g, w) :: r => if g = f then some w else fget f r
section
variable {X : Cx} {G : Gm} {Wx : WX} {g g' : Gh} {env env' : Env3} {σ : L2.St} {H H' : Hp} {ds : Nat → D} {p pos apos cpos : Pos} {e o a b : Expr} {es : List Expr} {fa fb fe fo : M3 EV} {t : M3 (List EV)}
theorem evL_im : ∀ {evs : List EV} {vs : List V} {es : List D} {ws : List W}, EvL G g env H ds evs vs es → allW evs = some ws → RepL G g.Z H ws vs
  | [], vs, es, ws, l, h => by cases h; exact l.1
  | e :: r, vs, es, ws, ⟨v, vr, d, dr, e1, e2, a, b, c⟩, h => by
    subst e1
    cases e with
    | im w =>
      obtain ⟨ws', h1, rfl⟩ := Option.map_eq_some_iff.mp (show (allW r).map (w :: ·) = some ws from h)
      exact ⟨v, vr, rfl, a.2, evL_im b h1⟩
    | _ => cases h
theorem evL_T : ∀ {evs : List EV} {vs : List V} {es : List D} {ts : List T}, EvL G g env H ds evs vs es → toTs evs = some ts → RepTL G g.Z H ts vs es
  | [], vs, es, ts, l, h => by cases h; exact l
  | e :: r, vs, es, ts, ⟨v, vr, d, dr, e1, e2, a, b, c⟩, h => by
    subst e1 e2
    obtain ⟨t, h1, h2⟩ := Option.bind_eq_some_iff.mp (show (toT e).bind (fun t => (toTs r).map (t :: ·)) = some ts from h)
    obtain ⟨ts', h3, rfl⟩ := Option.map_eq_some_iff.mp h2
    refine ⟨v, vr, d, dr, rfl, rfl, ?_, evL_T b h3⟩
    cases e with
    | im w => cases h1; exact a
    | tmp u => cases h1; exact a.1
    | ptr k π => cases h1
theorem SimA.node {evs : List EV} {vs : List V} {ts : List T} (s : SimA G g env σ H evs vs) (ht : toTs evs = some ts) {q : Addr} (h : H q = none) : SimE G g env σ (L2.upd H q (.lst vs)) (.tmp (.ml ts)) (.ref q) ∧ Keep g H g (L2.upd H q (.lst vs)) ∧ SimE G g env σ (L2.upd H q (.tup vs)) (.tmp (.tp ts)) (.ref q) ∧ Keep g H g (L2.upd H q (.tup vs)) := by
  obtain ⟨ds, es, s, l⟩ := s
  have fr := s.free h
  have rl := evL_T l ht
  have nq : ∀ p ∈ fps es, p ≠ q := fun p hp e => by
    subst e
    obtain ⟨_, _, _, o', e, _⟩ := l.noP p hp
    rw [h] at e; cases e
  have k1 := Keep.new (o := .lst vs) h s
  have k2 := Keep.new (o := .tup vs) h s
  refine ⟨⟨ds, .nd (some q) true es, s.new h, ⟨q, vs, es, rfl, rfl, upd_same, rl.keep k1.kz fun p hp => upd_ne (nq p hp)⟩, rfl, ?_, fun p hp => ?_⟩, k1, ⟨ds, .nd (some q) false es, s.new h, ⟨q, vs, es, rfl, rfl, upd_same, rl.keep k2.kz fun p hp => upd_ne (nq p hp)⟩, rfl, ?_, fun p hp => ?_⟩, k2⟩
  · simp only [fp, if_true, Option.toList_some, List.singleton_append]
    exact List.nodup_cons.mpr ⟨fun z => nq q z rfl, l.nd⟩
  · simp only [fp, if_true, Option.toList_some, List.singleton_append, List.mem_cons] at hp
    rcases hp with rfl | hp
    · exact fr
    · exact ⟨(l.noP p hp).2.1, (l.noP p hp).1, (l.noP p hp).2.2.1⟩
  · simp only [fp, Bool.false_eq_true, if_false, List.nil_append]
    exact l.nd
  · simp only [fp, Bool.false_eq_true, if_false, List.nil_append] at hp
    exact ⟨(l.noP p hp).2.1, (l.noP p hp).1, (l.noP p hp).2.2.1⟩
theorem se_tup {x1} (h : SA G X Wx es t) : SE G X Wx (.Tuple es x1 pos) (eTup t) := by
  refine pe_imp (pe_tup h) ?_
  rintro σ H Q ⟨g, env, ds, s, h⟩
  refine ⟨g, env, ds, s, ?_⟩
  unfold eTup at h
  cases e1 : t env with
  | stuck => rw [e1] at h; exact h.elim
  | exc c e2 => rw [e1] at h; exact h
  | ok evs e2 =>
    simp only [e1] at h
    split at h
    · rename_i hz
      intro g1 vs H1 k1 s1
      refine ⟨by rw [← s1.len]; exact big_size hz, fun p hp => ?_⟩
      unfold tupE at h
      cases e3 : allW evs with
      | some ws =>
        simp only [e3] at h
        obtain ⟨ds1, es1, s2, l⟩ := s1
        have kn := Keep.new (o := .tup vs) hp s2
        exact h g1 _ _ (k1.trans kn) ((s2.new hp).im ⟨p, vs, rfl, upd_same, (evL_im l e3).keep kn.kz⟩)
      | none =>
        simp only [e3] at h
        cases e4 : toTs evs with
        | none => simp only [e4, Option.map_none] at h; exact h.elim
        | some ts =>
          simp only [e4, Option.map_some] at h
          obtain ⟨_, _, s3, k3⟩ := s1.node e4 hp
          exact h g1 _ _ (k1.trans k3) s3
    · exact h.elim
theorem se_lst (h : SA G X Wx es t) : SE G X Wx (.List es pos) (eLst t) := by
  refine pe_imp (pe_lst h) ?_
  rintro σ H Q ⟨g, env, ds, s, h⟩
  refine ⟨g, env, ds, s, ?_⟩
  unfold eLst at h
  cases e1 : t env with
  | stuck => rw [e1] at h; exact h.elim
  | exc c e2 => rw [e1] at h; exact h
  | ok evs e2 =>
    simp only [e1] at h
    split at h
    · rename_i hz
      intro g1 vs H1 k1 s1
      refine ⟨by rw [← s1.len]; exact big_size hz, fun p hp => ?_⟩
      cases e4 : toTs evs with
      | none => simp only [e4] at h; exact h.elim
      | some ts =>
        simp only [e4] at h
        obtain ⟨s3, k3, _⟩ := s1.node e4 hp
        exact h g1 _ _ (k1.trans k3) s3
    · exact h.elim
theorem SimE.kid {ob : EV} {v : V} {x c : T} {st : Step} (s : SimE G g env σ H ob v) (hx : VL.rd env ob = some x) (hk : x.kid st = some c) : ∃ i a ow us u, x.pos st = some i ∧ Shell G g.Z H v us a ow x ∧ us[i]? = some u ∧ us.length = x.kids.length ∧ SimE G g env σ H (kidEV ob st c) u := by
  obtain ⟨ds, d, s, r⟩ := s
  obtain ⟨e, re⟩ := r.rd s hx
  obtain ⟨i, h1, h2⟩ := Option.bind_eq_some_iff.mp hk
  -- the part within a known decor
  have part : ∀ e, RepT G g.Z H x v e → ∃ a ow us u es ec, e = .nd a ow es ∧ Shell G g.Z H v us a ow x ∧ us[i]? = some u ∧ us.length = x.kids.length ∧ es[i]? = some ec ∧ RepT G g.Z H c u ec := fun e re => by
    obtain ⟨a, ow, us, es, rfl, sh, rl⟩ := repT_iff.mp re
    obtain ⟨u, ec, q1, q2, q3⟩ := rl.get h2
    exact ⟨a, ow, us, u, es, ec, rfl, sh, q1, rl.len.1, q2, q3⟩
  cases c with
  | im w =>
    obtain ⟨a, ow, us, u, es, ec, rfl, sh, q1, q2, q3, q4⟩ := part e re
    exact ⟨i, a, ow, us, u, h1, sh, q1, q2, s.im q4.2⟩
  | _ =>
    cases ob with
    | im w => cases hx; simp [T.kid, T.pos] at hk
    | tmp t0 =>
      cases hx
      obtain ⟨r1, r2, r3, r4⟩ := r
      obtain ⟨a, ow, us, u, es, ec, rfl, sh, q1, q2, q3, q4⟩ := part d r1
      simp only [fp] at r3 r4
      exact ⟨i, a, ow, us, u, h1, sh, q1, q2, ds, ec, s, q4, rfl, fps_get (List.nodup_append.mp r3).2.1 q3, fun p hp => r4 p (List.mem_append_right _ (mem_fps (List.mem_of_getElem? q3) hp))⟩
    | ptr k π =>
      obtain ⟨_, b, p, L, t, rfl, h3, h4⟩ := r
      have hx' : t.getP π = some x := by simpa only [VL.rd, h3] using hx
      obtain ⟨v0, o1, o2, o3, o4, o5, o6⟩ := s.own _ _ _ _ h3
      obtain ⟨u', e', out, r1, r2, r3, _⟩ := o2.lens hx'
      have hb := r3 []
      rw [List.append_nil, h4] at hb
      rw [adr_val r1 hb.symm] at r1
      obtain ⟨a, ow, us, u, es, ec, rfl, sh, q1, q2, q3, q4⟩ := part e' r1
      refine ⟨i, a, ow, us, u, h1, sh, q1, q2, ds, .z, s, rfl, ?_⟩
      obtain ⟨bb, b1, b2⟩ := adr_root q4 rfl
      refine ⟨bb, p, L, t, b2, h3, ?_⟩
      rw [r3]
      simp only [adr, h1, h2, q3, Option.bind_some]
      exact b1
theorem RepF.get {Z : Addr → Prop} {f : String} : ∀ {fs : List (String × W)} {vs : List (Str × V)} {w : W}, RepF G Z H fs vs → fget f fs = some w → ∃ v, vs.lookup (Str.ofString f) = some v ∧ Rep G Z H w v
  | (n, x) :: r, _, w, ⟨v, rr, e, a, b⟩, h => by
    subst e
    unfold fget at h
    by_cases q : n = f
    · rw [if_pos q] at h
      cases h
      subst q
      exact ⟨v, by simp [List.lookup], a⟩
    · rw [if_neg q] at h
      obtain ⟨u, h1, h2⟩ := RepF.get b h
      refine ⟨u, ?_, h2⟩
      rw [List.lookup_cons]
      have : (Str.ofString f == Str.ofString n) = false := by
        rw [beq_eq_false_iff_ne]
        exact fun z => q (ofString_inj z).symm
      rw [this]; exact h1
def seqW : W → Option (List W)
  | .tup ws => some ws
  | .lst ws => some ws
  | .scr ws => some ws
  | .ktp ws => some ws
  | _ => none
def ixI (ob : EV) (x : T) (i : Int) : Option EV := match x with
  | .im (.str s) => if s.length ≤ 10000000 then (atI s.toList i).map fun c => .im (.str (String.singleton c)) else none
  | .im w => (seqW w).bind fun ws => (atI ws i).map EV.im
  | .ml xs => (ixN xs.length i).bind fun j => (x.kid (.idx j)).map (kidEV ob (.idx j))
  | .tp xs => (ixN xs.length i).bind fun j => (x.kid (.idx j)).map (kidEV ob (.idx j))
  | _ => none
def ixE (ob ix : EV) (env : Env3) : Option EV := match ix with
  | .im (.int i) => (rd env ob).bind fun x => ixI ob x i
  | _ => none
def eIx (fo fi : M3 EV) : M3 EV := fun env => match ePair fo fi env with
  | .ok (x, y) e1 => (match ixE x y e1 with
    | some ev => .ok ev e1
    | none => .stuck)
  | .exc c e1 => .exc c e1
  | .stuck => .stuck
theorem RepL.get {Z : Addr → Prop} : ∀ {xs : List W} {vs : List V} {i : Nat} {w : W}, RepL G Z H xs vs → xs[i]? = some w → ∃ v, vs[i]? = some v ∧ Rep G Z H w v
  | x :: xs, _, 0, w, ⟨v, r, e, a, b⟩, h => by
    subst e
    rw [List.getElem?_cons_zero] at h
    cases h
    exact ⟨v, rfl, a⟩
  | x :: xs, _, i + 1, w, ⟨v, r, e, a, b⟩, h => by
    subst e
    rw [List.getElem?_cons_succ] at h
    simpa using RepL.get b h
theorem atI_rep {Z : Addr → Prop} {xs : List W} {vs : List V} {i : Int} {w : W} (r : RepL G Z H xs vs) (h : atI xs i = some w) : ∃ v, atI vs i = some v ∧ Rep G Z H w v := by
  unfold atI at h ⊢
  rw [r.length]
  obtain ⟨j, e1, e2⟩ := Option.bind_eq_some_iff.mp h
  obtain ⟨v, h1, h2⟩ := r.get e2
  exact ⟨v, by rw [e1]; exact h1, h2⟩
theorem ofString_single (c : Char) : Str.ofString (String.singleton c) = ⟨#[c.toNat]⟩ := by
  rw [Str.ofString_eq_toList]
  simp
theorem ofString_cps (s : String) : (Str.ofString s).cps.toList = s.toList.map Char.toNat := by
  rw [Str.ofString_eq_toList]
theorem atI_map {α β : Type} (f : α → β) (xs : List α) (i : Int) : atI (xs.map f) i = (atI xs i).map f := by
  unfold atI
  rw [List.length_map]
  cases ixN xs.length i with
  | none => rfl
  | some j => simp
theorem ixR_imp {r r' : R2} (h : IxR X r) (i : ∀ x y H Q, r' x y H Q → r x y H Q) : IxR X r' := fun value slice pins s σ H x y v u Q I rx ry q hs => h value slice pins s σ H x y v u Q I rx ry (i _ _ _ _ q) hs
theorem ixR_or {r1 r2 : R2} (h1 : IxR X r1) (h2 : IxR X r2) : IxR X (fun x y H Q => r1 x y H Q ∨ r2 x y H Q) := fun value slice pins s σ H x y v u Q I rx ry q hs => q.elim (fun q => h1 value slice pins s σ H x y v u Q I rx ry q hs) (fun q => h2 value slice pins s σ H x y v u Q I rx ry q hs)
def lift2 (G : Gm) (r : EV → EV → Env3 → Option EV) : R2 := fun x y H Q => ∃ g env σ ob iv ev, SimA G g env σ H [ob, iv] [x, y] ∧ r ob iv env = some ev ∧ ∀ g' v H', Keep g H g' H' → SimE G g' env σ H' ev v → Q v H'
theorem eIx_mid {r : EV → EV → Env3 → Option EV} {σ : L2.St} {H : Hp} {Q : VK} (h : liftE G Wx (fun env => match ePair fa fb env with
    | .ok (x, y) e1 => (match r x y e1 with
      | some ev => .ok ev e1
      | none => .stuck)
    | .exc c e1 => .exc c e1
    | .stuck => .stuck) σ H Q) : tOp (lift2 G r) (liftE G Wx fa) (liftE G Wx fb) σ H Q := by
  obtain ⟨g, env, ds, s, h⟩ := h
  refine pair_run (Q := fun v u H2 => lift2 G r v u H2 Q) s ?_
  cases e : ePair fa fb env with
  | stuck => simp only [e] at h; exact h.elim
  | exc c env2 => simp only [e] at h; exact h
  | ok xy env2 =>
    obtain ⟨x, y⟩ := xy
    simp only [e] at h
    intro g2 v u H2 k2 s2
    cases e2 : r x y env2 with
    | none => simp only [e2] at h; exact h.elim
    | some ev =>
      simp only [e2] at h
      exact ⟨g2, env2, σ, x, y, ev, s2, e2, fun g' v' H' k' s' => h g' v' H' (k2.trans k') s'⟩
theorem SimA.snd {x y : EV} {v u : V} (s : SimA G g env σ H [x, y] [v, u]) : SimE G g env σ H y u := s.tl.hd
theorem SimE.imR {w : W} {v : V} (s : SimE G g env σ H (.im w) v) : Rep G g.Z H w v := let ⟨_, _, _, r⟩ := s; r.2
theorem ixI_run {ob : EV} {x : T} {v : V} {i : Int} {ev : EV} (hK : X.K = G.K) (s : SimE G g env σ H ob v) (hx : rd env ob = some x) (h : ixI ob x i = some ev) : (∃ p vs u, v = .ref p ∧ (SqL X.K H p vs ∨ SqT X.K H p vs) ∧ atI vs i = some u ∧ SimE G g env σ H ev u) ∨
    ∃ z c, v = .str z ∧ z.length ≤ sizeLine ∧ atI z.cps.toList i = some c ∧ SimE G g env σ H ev (.str ⟨#[c]⟩) := by
  obtain ⟨d, r⟩ := s.rd hx
  have row : ∀ ws vs q, v = .ref q → RepL G g.Z H ws vs → (SqL X.K H q vs ∨ SqT X.K H q vs) → (atI ws i).map EV.im = some ev → (∃ p vs u, v = .ref p ∧ (SqL X.K H p vs ∨ SqT X.K H p vs) ∧ atI vs i = some u ∧ SimE G g env σ H ev u) := fun ws vs q hq rl sq ha => by
    obtain ⟨w, h1, rfl⟩ := Option.map_eq_some_iff.mp ha
    obtain ⟨u, h2, h3⟩ := atI_rep rl h1
    exact ⟨q, vs, u, hq, sq, h2, s.n.im h3⟩
  have node : ∀ xs, x.kids = xs → (∀ j, x.pos (.idx j) = some j) → (∀ us a ow, Shell G g.Z H v us a ow x → ∃ q, v = .ref q ∧ (SqL X.K H q us ∨ SqT X.K H q us)) → ((ixN xs.length i).bind fun j => (x.kid (.idx j)).map (kidEV ob (.idx j))) = some ev → (∃ p vs u, v = .ref p ∧ (SqL X.K H p vs ∨ SqT X.K H p vs) ∧ atI vs i = some u ∧ SimE G g env σ H ev u) := fun xs hk hp hs hb => by
    obtain ⟨j, h1, h2⟩ := Option.bind_eq_some_iff.mp hb
    obtain ⟨c, h3, rfl⟩ := Option.map_eq_some_iff.mp h2
    obtain ⟨n, a, ow, us, u, q1, q2, q3, q4, q5⟩ := s.kid hx h3
    rw [hp] at q1; cases q1
    obtain ⟨q, rfl, sq⟩ := hs us a ow q2
    refine ⟨q, us, u, rfl, sq, ?_, q5⟩
    unfold atI
    rw [q4, hk, h1]; exact q3
  unfold ixI at h
  split at h
  · rename_i z
    split at h
    · rename_i hz
      obtain ⟨c, h1, rfl⟩ := Option.map_eq_some_iff.mp h
      refine .inr ⟨Str.ofString z, c.toNat, r.2, by rw [ofString_len]; exact big_size hz, ?_, ?_⟩
      · rw [ofString_cps, atI_map, h1]; rfl
      · rw [← ofString_single]; exact s.n.im rfl
    · cases h
  · rename_i w hne
    left
    obtain ⟨ws, h1, h2⟩ := Option.bind_eq_some_iff.mp h
    obtain ⟨_, r⟩ := r
    cases w with
    | tup ys => cases h1; obtain ⟨q, vs, e, hq, rl⟩ := r; exact row _ vs q e rl (.inr (SqT.of hq)) h2
    | lst ys => cases h1; obtain ⟨q, vs, e, _, hq, rl⟩ := r; exact row _ vs q e rl (.inl (SqL.of hq)) h2
    | scr ys => cases h1; obtain ⟨q, vs, e, hq, rl⟩ := r; exact row _ vs q e rl (.inl (by rw [hK]; exact hq.seq)) h2
    | ktp ys => cases h1; obtain ⟨q, vs, e, hq, rl⟩ := r; exact row _ vs q e rl (.inr (by rw [hK]; exact hq)) h2
    | _ => cases h1
  · rename_i xs
    left
    exact node xs rfl (fun _ => rfl) (fun us a ow sh => by obtain ⟨q, e, _, _, hq⟩ := sh; exact ⟨q, e, .inl (SqL.of hq)⟩) h
  · rename_i xs
    left
    exact node xs rfl (fun _ => rfl) (fun us a ow sh => by obtain ⟨q, e, _, _, hq⟩ := sh; exact ⟨q, e, .inr (SqT.of hq)⟩) h
  · cases h
theorem ix_all (hK : X.K = G.K) : IxR X (lift2 G ixE) := by
  refine ixR_imp (ixR_or (ix_list (X := X)) (ixR_or (ix_tup (X := X)) ix_str)) ?_
  rintro x y H Q ⟨g, env, σ, ob, iv, ev, s, q, k⟩
  unfold ixE at q
  split at q
  · rename_i i
    obtain ⟨u, h1, h2⟩ := Option.bind_eq_some_iff.mp q
    have ry : y = .int i := s.snd.imR
    rcases ixI_run hK s.hd h1 h2 with ⟨p, vs, u, rfl, sq, ha, s2⟩ | ⟨z, c, rfl, hz, ha, s2⟩
    · rcases sq with sq | sq
      · exact .inl ⟨p, vs, i, u, rfl, ry, sq, ha, k g u H (Keep.refl g H) s2⟩
      · exact .inr (.inl ⟨p, vs, i, u, rfl, ry, sq, ha, k g u H (Keep.refl g H) s2⟩)
    · exact .inr (.inr ⟨z, i, c, rfl, ry, hz, ha, k g _ H (Keep.refl g H) s2⟩)
  · cases q
end
end VL
namespace VL
open PySem L2 PyProof.Rows
def T.wr : T → Bool
  | .im _ => false
  | .tp _ => false
  | _ => true
theorem T.wr_mut : ∀ {t : T}, t.wr = true → t.mut = true
  | .im _, h => by cases h
  | .tp _, _ => rfl
  | .ml _, _ => rfl
  | .md _, _ => rfl
  | .mt _, _ => rfl
  | .mi _ _, _ => rfl
def evOf : T → EV
  | .im w => .im w
  | t => .tmp t
section
variable {X : Cx} {G : Gm} {Wx : WX} {g g' : Gh} {env env' : Env3} {σ : L2.St} {H H' : Hp} {ds : Nat → D} {p pos apos cpos : Pos} {e o a b : Expr} {es : List Expr} {fa fb fe fo : M3 EV} {t : M3 (List EV)}
theorem evOf_mut {t : T} (h : t.mut = true) : evOf t = .tmp t := by cases t <;> first | rfl | cases h
theorem shell_own {Z : Addr → Prop} {v : V} {us : List V} {a : Option Addr} {ow : Bool} {x : T} (h : Shell G Z H v us a ow x) (hw : x.wr = true) : ∃ p, v = .ref p ∧ a = some p ∧ ow = true := by
  cases x with
  | im _ => cases hw
  | tp _ => cases hw
  | ml _ => obtain ⟨p, h1, h2, h3, _⟩ := h; exact ⟨p, h1, h2, h3⟩
  | md _ => obtain ⟨p, _, _, h1, h2, h3, _⟩ := h; exact ⟨p, h1, h2, h3⟩
  | mt _ => obtain ⟨p, _, _, h1, h2, h3, _⟩ := h; exact ⟨p, h1, h2, h3⟩
  | mi _ _ => obtain ⟨p, _, h1, h2, h3, _⟩ := h; exact ⟨p, h1, h2, h3⟩
theorem EvL.fpn : ∀ {evs : List EV} {vs : List V} {es : List D}, EvL G g env H ds evs vs es → (fps es).Nodup
  | [], _, _, h => by rw [h.2]; exact List.nodup_nil
  | e :: r, vs, es, ⟨v, vr, d, dr, e1, e2, a, b, c⟩ => by
    subst e2
    simp only [fps]
    refine List.nodup_append.mpr ⟨?_, b.fpn, fun p hp q hq e => by subst e; exact c p hp hq⟩
    cases e with
    | im w => rw [a.1, fp_z]; exact List.nodup_nil
    | tmp t => exact a.2.2.1
    | ptr k π => rw [a.1, fp_z]; exact List.nodup_nil
theorem SimA.wr {k : Nat} {ρ : Path} {evs : List EV} {v : V} {vs : List V} (s : SimA G g env σ H (.ptr k ρ :: evs) (v :: vs)) {x : T} (hx : rd env (.ptr k ρ) = some x) (hw : x.wr = true) (hl : ∀ p L t, env[k]? = some (some (SV.own p L t)) → lockOk L ρ = true) :
    ∃ a us dk es, v = .ref a ∧ Shell G g.Z H (.ref a) us (some a) true x ∧ RepTL G g.Z H x.kids us dk ∧ (∀ ts, toTs evs = some ts → RepTL G g.Z H ts vs es) ∧ (∀ ws, allW evs = some ws → RepL G g.Z H ws vs) ∧ (fps dk).Nodup ∧ (fps es).Nodup ∧ a ∉ fps dk ∧ (∀ p ∈ fps dk, p ∉ fps es) ∧
      (∀ o', KeepZ g.Z H g.Z (L2.upd H a o')) ∧ Mut (H a) ∧
      ∀ o' y us' dk' (w' : T) u' d' kp, Shell G g.Z (L2.upd H a o') (.ref a) us' (some a) true y → RepTL G g.Z H y.kids us' dk' → y.wr = true → RepT G g.Z H w' u' d' → (fps dk' ++ fp d').Nodup → (∀ q ∈ fps dk' ++ fp d', q ∈ fps dk ∨ q ∈ fps es) →
        (kp = true → ∀ π' b, adr x (.nd (some a) true dk) π' = some b → adr y (.nd (some a) true dk') π' = some b) →
        ∃ env', wrS kp k ρ y env = some env' ∧ Keep g H g (L2.upd H a o') ∧ SimE G g env' σ (L2.upd H a o') (evOf w') u' := by
  obtain ⟨ds, es0, s, v0, vr, d0, es, e1, e2, r0, l, dj⟩ := s
  cases e1; subst e2
  obtain ⟨rfl, a, pp, L, t, rfl, h1, h2⟩ := r0
  have hx' : t.getP ρ = some x := by simpa only [VL.rd, h1] using hx
  obtain ⟨u, e, rx, re, ine, nde, nlk, kk⟩ := s.lens h1 hx' (hl _ _ _ h1)
  obtain ⟨a', ow, us, dk, rfl, sh, rl⟩ := repT_iff.mp rx
  have ea : adr x (D.nd a' ow dk) [] = some a := by rw [← re]; exact h2
  have ea' : a' = some a := by simpa [adr] using ea
  subst ea'
  obtain ⟨q, e3, e4, rfl⟩ := shell_own sh hw
  cases e4; subst e3
  have fpe : fp (D.nd (some a) true dk) = a :: fps dk := by simp [fp]
  rw [fpe] at ine nde nlk kk
  have nd2 := List.nodup_cons.mp nde
  have ina := ine a (List.mem_cons_self ..)
  have noE : ∀ p ∈ fps es, (∀ i, p ∉ fp (ds i)) := fun p hp => (l.noP p hp).2.2.1
  have kz : ∀ o', KeepZ g.Z H g.Z (L2.upd H a o') := fun o' => by
    obtain ⟨ob, hob, mu⟩ := s.there ina
    refine ⟨fun p hp => ⟨hp, upd_ne fun e => ?_⟩, fun b xs hb => ?_, FK.mut hob mu⟩
    · subst e; exact (s.no k p ina).1 hp
    · rw [upd_ne fun e => ?_]; exact hb
      subst e; rw [hb] at hob; cases hob; exact mu
  have mu : Mut (H a) := by
    obtain ⟨ob, hob, mu⟩ := s.there ina
    rw [hob]; exact mu
  refine ⟨a, us, dk, es, rfl, sh, rl, fun ts ht => evL_T l ht, fun ws hws => evL_im l hws, nd2.2, l.fpn, nd2.1, fun p hp hq => noE p hq k (ine p (List.mem_cons_of_mem _ hp)), kz, mu, fun o' y us' dk' w' u' d' kp sh' rl' yw rw' nd' inn kpc => ?_⟩
  have hup : ∀ q, q ≠ a → L2.upd H a o' q = H q := fun q h => upd_ne h
  have inn1 : ∀ q ∈ fps dk' ++ fp d', q ≠ a := fun q hq e => by
    subst e
    rcases inn q hq with z | z
    · exact nd2.1 z
    · exact noE q z k ina
  have kp1 : Keep g H g (L2.upd H a o') := by
    have kz := kz o'
    refine ⟨kz.z, fun p hp => ⟨hp, hup p fun e => ?_⟩, fun _ z => z, kz.tups, kz.frzs, rfl, rfl, rfl, fun i q hq => hup _ fun e => ?_⟩
    · subst e; exact (s.no k p ina).2 hp
    · exact nlk i q hq (by rw [e]; exact List.mem_cons_self ..)
  have n3 := List.nodup_append.mp nd'
  have ry : RepT G g.Z (L2.upd H a o') y (.ref a) (D.nd (some a) true dk') :=
    repT_iff.mpr ⟨some a, true, us', dk', rfl, sh', rl'.keep (kz o') fun p hp => hup p (inn1 p (List.mem_append_left _ hp))⟩
  have fpy : fp (D.nd (some a) true dk') = a :: fps dk' := by simp [fp]
  obtain ⟨t', ds', w1, w2, w3, w4⟩ := kk g (L2.upd H a o') y (D.nd (some a) true dk') kp kp1 (fun i q hq hn => ⟨hup q fun e => hn (by rw [e]; exact List.mem_cons_self ..), (s.no i q hq).1⟩) ry (T.wr_mut yw) (T.wr_mut hw)
    (by rw [fpy]; exact List.nodup_cons.mpr ⟨fun z => inn1 a (List.mem_append_left _ z) rfl, n3.1⟩)
    (fun q hq => by
      rw [fpy] at hq
      rcases List.mem_cons.mp hq with rfl | hq
      · exact ⟨(s.no k q ina).1, (s.no k q ina).2, .inl (List.mem_cons_self ..)⟩
      · rcases inn q (List.mem_append_left _ hq) with z | z
        · have := ine q (List.mem_cons_of_mem _ z)
          exact ⟨(s.no k q this).1, (s.no k q this).2, .inl (List.mem_cons_of_mem _ z)⟩
        · exact ⟨(l.noP q z).2.1, (l.noP q z).1, .inr (noE q z)⟩)
    (fun p hp => ⟨(s.zt p hp).1, upd_st (s.zt p hp).2 fun e => (s.no k p (by rw [e]; exact ina)).1 hp⟩) (fun p hp => upd_st (s.pt.1 p hp) fun e => (s.no k p (by rw [e]; exact ina)).2 hp) kpc
  refine ⟨_, w1, kp1, ds', d', w2, ?_⟩
  have rw2 : RepT G g.Z (L2.upd H a o') w' u' d' := rw'.keep (kz o') fun p hp => hup p (inn1 p (List.mem_append_right _ hp))
  have dq : ∀ q ∈ fp d', ¬ g.Z q ∧ ¬ g.P q ∧ ∀ i, q ∉ fp (ds' i) := fun q hq => by
    have cases' := inn q (List.mem_append_right _ hq)
    refine ⟨?_, ?_, fun i z => ?_⟩
    · rcases cases' with z | z
      · exact (s.no k q (ine q (List.mem_cons_of_mem _ z))).1
      · exact (l.noP q z).2.1
    · rcases cases' with z | z
      · exact (s.no k q (ine q (List.mem_cons_of_mem _ z))).2
      · exact (l.noP q z).1
    · rcases w3 i q z with ⟨z1, z2⟩ | ⟨_, z1⟩
      · rcases cases' with y1 | y1
        · exact z2 (List.mem_cons_of_mem _ y1)
        · exact noE q y1 i z1
      · rw [fpy] at z1
        rcases List.mem_cons.mp z1 with y1 | y1
        · exact inn1 q (List.mem_append_right _ hq) y1
        · exact n3.2.2 q y1 q hq rfl
  by_cases hm : w'.mut = true
  · rw [evOf_mut hm]
    exact ⟨rw2, hm, n3.2.1, dq⟩
  · cases w' with
    | im w => exact rw2
    | _ => exact absurd rfl hm
end
end VL
namespace VL
open PySem L2 PyProof.Rows
def T.stp : T → Nat → Step
  | .md kvs, i => match kvs[i]? with
    | some q => .key q.1
    | none => .idx i
  | .mi _ fs, i => match fs[i]? with
    | some q => .fld q.1
    | none => .idx i
  | _, i => .idx i
def pthN : Nat → T → List Path
  | 0, _ => []
  | n + 1, t => if t.mut = true then [] :: (List.range t.kids.length).flatMap fun i => match t.kids[i]? with
    | some c => (pthN n c).map (t.stp i :: ·)
    | none => []
    else []
noncomputable def pthT (t : T) : List Path := pthN (sizeOf t) t
theorem kids_lt {t c : T} (h : c ∈ t.kids) : sizeOf c < sizeOf t := by
  cases t with
  | im w => cases h
  | mt _ => cases h
  | ml xs => have := List.sizeOf_lt_of_mem (show c ∈ xs from h); simp only [T.ml.sizeOf_spec]; omega
  | tp xs => have := List.sizeOf_lt_of_mem (show c ∈ xs from h); simp only [T.tp.sizeOf_spec]; omega
  | md kvs =>
    obtain ⟨q, h1, rfl⟩ := List.mem_map.mp (show c ∈ kvs.map (·.2) from h)
    have := List.sizeOf_lt_of_mem h1
    have h2 : sizeOf q.2 < sizeOf q := by cases q; simp; omega
    simp only [T.md.sizeOf_spec]; omega
  | mi C fs =>
    obtain ⟨q, h1, rfl⟩ := List.mem_map.mp (show c ∈ fs.map (·.2) from h)
    have := List.sizeOf_lt_of_mem h1
    have h2 : sizeOf q.2 < sizeOf q := by cases q; simp; omega
    simp only [T.mi.sizeOf_spec]; omega
theorem idx_nodup {α β : Type} [DecidableEq α] : ∀ {l : List (α × β)} {i : Nat} {q : α × β}, (l.map (·.1)).Nodup → l[i]? = some q → l.findIdx? (fun z => decide (z.1 = q.1)) = some i
  | [], i, q, _, h => by simp at h
  | x :: r, i, q, hn, h => by
    rw [List.map_cons, List.nodup_cons] at hn
    rw [List.findIdx?_cons]
    cases i with
    | zero => rw [List.getElem?_cons_zero] at h; cases h; simp
    | succ j =>
      rw [List.getElem?_cons_succ] at h
      have hne : x.1 ≠ q.1 := fun e => hn.1 (e ▸ List.mem_map.mpr ⟨q, List.mem_of_getElem? h, rfl⟩)
      simp only [hne, decide_false, Bool.false_eq_true, if_false]
      rw [idx_nodup hn.2 h]; rfl
section
variable {X : Cx} {G : Gm} {Wx : WX} {g g' : Gh} {env env' : Env3} {σ : L2.St} {H H' : Hp} {ds : Nat → D} {Z : Addr → Prop}
theorem pos_stp {t c : T} {v : V} {us : List V} {a : Option Addr} {ow : Bool} {i : Nat} (sh : Shell G Z H v us a ow t) (h : t.kids[i]? = some c) : t.pos (t.stp i) = some i := by
  cases t with
  | im w => cases h
  | mt _ => cases h
  | ml xs => rfl
  | tp xs => rfl
  | md kvs =>
    obtain ⟨_, _, _, _, _, _, _, _, _, hn⟩ := sh
    have h' : (kvs.map (·.2))[i]? = some c := h
    rw [List.getElem?_map] at h'
    obtain ⟨q, h1, rfl⟩ := Option.map_eq_some_iff.mp h'
    simp only [T.stp, h1, T.pos]
    exact idx_nodup hn h1
  | mi C fs =>
    obtain ⟨_, _, _, _, _, _, hn⟩ := sh
    have h' : (fs.map (·.2))[i]? = some c := h
    rw [List.getElem?_map] at h'
    obtain ⟨q, h1, rfl⟩ := Option.map_eq_some_iff.mp h'
    simp only [T.stp, h1, T.pos]
    exact idx_nodup hn h1
theorem adr_cons {t c : T} {a : Option Addr} {ow : Bool} {dk : List D} {e : D} {s : Step} {i : Nat} {π : Path} (h1 : t.pos s = some i) (h2 : t.kids[i]? = some c) (h3 : dk[i]? = some e) : adr t (.nd a ow dk) (s :: π) = adr c e π := by
  simp only [adr, h1, h2, h3, Option.bind_some]
theorem pth_mem {n : Nat} {t : T} {π : Path} : π ∈ pthN (n + 1) t ↔ t.mut = true ∧ (π = [] ∨ ∃ i c ρ, t.kids[i]? = some c ∧ ρ ∈ pthN n c ∧ π = t.stp i :: ρ) := by
  simp only [pthN]
  by_cases hm : t.mut = true
  · simp only [hm, if_true, List.mem_cons, List.mem_flatMap, List.mem_range, true_and]
    refine or_congr Iff.rfl ⟨?_, ?_⟩
    · rintro ⟨i, hi, h⟩
      cases e : t.kids[i]? with
      | none => simp only [e] at h; cases h
      | some c =>
        simp only [e] at h
        obtain ⟨ρ, h1, rfl⟩ := List.mem_map.mp h
        exact ⟨i, c, ρ, e, h1, rfl⟩
    · rintro ⟨i, c, ρ, h1, h2, rfl⟩
      exact ⟨i, get_lt h1, by simp only [h1]; exact List.mem_map.mpr ⟨ρ, h2, rfl⟩⟩
  · simp only [hm, Bool.false_eq_true, if_false, false_and, iff_false]
    exact List.not_mem_nil
theorem pth_def : ∀ {n : Nat} {t : T} {v : V} {d : D} {π : Path}, RepT G Z H t v d → π ∈ pthN n t → ∃ a, adr t d π = some a
  | 0, _, _, _, _, _, h => by cases h
  | n + 1, t, v, d, π, r, h => by
    obtain ⟨hm, h⟩ := pth_mem.mp h
    rcases h with rfl | ⟨i, c, ρ, h1, h2, rfl⟩
    · obtain ⟨a, e, _⟩ := adr_root r hm; exact ⟨a, e⟩
    · obtain ⟨a, ow, us, dk, rfl, sh, rl⟩ := repT_iff.mp r
      obtain ⟨u, e, _, h3, h4⟩ := rl.get h1
      rw [adr_cons (pos_stp sh h1) h1 h3]
      exact pth_def h4 h2
theorem pth_cov : ∀ {n : Nat} {t : T} {v : V} {d : D} {p : Addr}, RepT G Z H t v d → sizeOf t ≤ n → p ∈ fp d → ∃ π, π ∈ pthN n t ∧ adr t d π = some p
  | 0, t, _, _, _, _, hs, _ => by cases t <;> simp at hs
  | n + 1, t, v, d, p, r, hs, h => by
    obtain ⟨a, ow, us, dk, rfl, sh, rl⟩ := repT_iff.mp r
    have hm : t.mut = true := by
      cases t with
      | im w => obtain ⟨rfl, rfl, _, _⟩ := sh; rw [(show dk = [] from rl.2)] at h; simp [fp, fps] at h
      | _ => rfl
    simp only [fp, List.mem_append] at h
    rcases h with h | h
    · cases ow with
      | false => simp at h
      | true =>
        simp only [if_true, Option.mem_toList] at h
        exact ⟨[], pth_mem.mpr ⟨hm, .inl rfl⟩, by simpa [adr] using h⟩
    · obtain ⟨i, e, h1, h2⟩ := mem_fps_get h
      have hi : i < t.kids.length := by rw [← rl.len.2]; exact get_lt h1
      have hc : t.kids[i]? = some t.kids[i] := by simp [hi]
      obtain ⟨u, e', _, h3, h4⟩ := rl.get hc
      rw [h1] at h3; cases h3
      have hlt := kids_lt (List.getElem_mem hi)
      obtain ⟨ρ, q1, q2⟩ := pth_cov (n := n) h4 (by omega) h2
      exact ⟨t.stp i :: ρ, pth_mem.mpr ⟨hm, .inr ⟨i, _, ρ, hc, q1, rfl⟩⟩, by rw [adr_cons (pos_stp sh hc) hc h1]; exact q2⟩
theorem pth_in : ∀ {n : Nat} {t x : T} {v : V} {d : D} {π : Path}, RepT G Z H t v d → sizeOf t ≤ n → t.getP π = some x → x.mut = true → π ∈ pthN n t
  | 0, t, _, _, _, _, _, hs, _, _ => by cases t <;> simp at hs
  | n + 1, t, x, v, d, [], r, hs, h, hm => by cases h; exact pth_mem.mpr ⟨hm, .inl rfl⟩
  | n + 1, t, x, v, d, s :: π, r, hs, h, hm => by
    obtain ⟨a, ow, us, dk, rfl, sh, rl⟩ := repT_iff.mp r
    obtain ⟨c, h1, h2⟩ := Option.bind_eq_some_iff.mp (show (t.kid s).bind (fun c => c.getP π) = some x from h)
    obtain ⟨i, h3, h4⟩ := Option.bind_eq_some_iff.mp (show (t.pos s).bind (fun i => t.kids[i]?) = some c from h1)
    obtain ⟨u, e, _, h5, h6⟩ := rl.get h4
    have hlt := kids_lt (List.mem_of_getElem? h4)
    have hs' : s = t.stp i := pos_inj h3 (pos_stp sh h4)
    have tm : t.mut = true := by
      cases t with
      | im w => cases h4
      | _ => rfl
    rw [hs']
    exact pth_mem.mpr ⟨tm, .inr ⟨i, c, π, h4, pth_in h6 (by omega) h2 hm, rfl⟩⟩
noncomputable def lkT (t : T) (d : D) : List (Path × Addr) := (pthT t).map fun π => (π, (adr t d π).getD default)
noncomputable def startSP : T → Option SV
  | .im w => some (.val w)
  | t => some (.own true (pthT t) t)
noncomputable def startP (N : Nat) (ts : List T) : Env3 := ts.map startSP ++ List.replicate (N - ts.length) none
open Classical in
noncomputable def retP (env : Env3) (ts : List T) : EV → Option EV
  | .im w => some (.im w)
  | .tmp t => some (.tmp t)
  | .ptr k π => match env[k]? with
    | some (some (SV.own true _ t)) => if ts[k]? = some t then some (.ptr k π) else none
    | some (some (SV.own false [] t)) => match t.getP π with
      | some (.im w) => some (.im w)
      | some x => some (.tmp x)
      | none => none
    | _ => none
noncomputable def finP (v : EV) (e : Env3) (ts : List T) : FO := match retP e ts v with
  | some v' => .ok v' ts
  | none => .stuck
noncomputable def bodyP (N : Nat) (m : S3) : Fn := fun ts => match m (startP N ts) with
  | .nx e => finP (.im .non) e ts
  | .rt v e => finP v e ts
  | .ex c e => .exc c ts
  | _ => .stuck
def SatP (G : Gm) (g : Gh) (H : Hp) (ts : List T) (es : List D) (Q : VK) (E : XK) : FO → Prop
  | .ok ev _ => ∀ g' v H', Keep g H g' H' → GhOk G g' H' → (∀ p ∈ fps es, H' p = H p ∧ ¬ g'.Z p) → FoR G g' H' ts es ev v → Q v H'
  | .exc c _ => ∀ g' H', Keep g H g' H' → GhOk G g' H' → (∀ p ∈ fps es, H' p = H p ∧ ¬ g'.Z p) → E (.ref (G.cA c)) none H'
  | .stuck => False
noncomputable def spP (G : Gm) (n : Nat) (f : Fn) : Sp := fun vs H Q E => vs.length = n ∧ ∃ g ts es, GhOk G g H ∧ ArgR G g H ts vs es ∧ SatP G g H ts es Q E (f ts)
theorem startP_get {N : Nat} {ts : List T} {i : Nat} {s : SV} (h : (startP N ts)[i]? = some (some s)) : ∃ t, ts[i]? = some t ∧ startSP t = some s := by
  unfold startP at h
  by_cases hi : i < ts.length
  · rw [List.getElem?_append_left (by simpa using hi), List.getElem?_map] at h
    obtain ⟨t, h1, h2⟩ := Option.map_eq_some_iff.mp h
    exact ⟨t, h1, h2⟩
  · rw [List.getElem?_append_right (by simpa using Nat.le_of_not_lt hi)] at h
    rw [List.getElem?_replicate] at h
    split at h <;> cases h
noncomputable def lksT (ts : List T) (es : List D) (i : Nat) : List (Path × Addr) := match ts[i]?, es[i]? with
  | some t, some e => lkT t e
  | _, _ => []
noncomputable def ghP (g : Gh) (ts : List T) (es : List D) : Gh := ⟨g.Z, g.P, fun i => (ts[i]?).bind fun t => (es[i]?).bind fun e => adr t e [], lksT ts es, none⟩
theorem lkT_mem {t : T} {v : V} {d : D} (r : RepT G Z H t v d) : ∀ q ∈ lkT t d, adr t d q.1 = some q.2 := fun q hq => by
  obtain ⟨π, h1, rfl⟩ := List.mem_map.mp hq
  obtain ⟨a, e⟩ := pth_def r h1
  simp only [e, Option.getD_some]
theorem lkT_fst {t : T} {d : D} : (lkT t d).map (·.1) = pthT t := by
  unfold lkT
  rw [List.map_map]
  exact List.map_id' (pthT t)
theorem lkT_im {w : W} {d : D} : lkT (.im w) d = [] := by
  unfold lkT pthT
  cases sizeOf (T.im w) <;> simp [pthN, T.mut]
theorem sim_startP {N : List Str} {ts : List T} {vs : List V} {es : List D} (ok : GhOk G g H) (a : ArgR G g H ts vs es) (hN : ts.length ≤ N.length) : Sim G (ghP g ts es) (startP N.length ts) (L2.start N vs) H (fun i => (es[i]?).getD .z) := by
  have hl := a.r.len
  have sg : ∀ (i : Nat) (v : V), vs[i]? = some v → (L2.start N vs)[i]? = some (some v) := fun i v h => by
    unfold L2.start
    rw [List.getElem?_append_left (by simpa using get_lt h), List.getElem?_map, h]; rfl
  have eg : ∀ (i : Nat) e, es[i]? = some e → (es[i]?).getD D.z = e := fun i e h => by rw [h]; rfl
  have dm : ∀ (i : Nat) p, p ∈ fp ((es[i]?).getD D.z) → ∃ e, es[i]? = some e ∧ p ∈ fp e := fun i p h => by
    cases q : es[i]? with
    | none => rw [q] at h; simp [fp_z] at h
    | some e => rw [q] at h; exact ⟨e, rfl, h⟩
  refine ⟨?_, fun i w h => ?_, fun i p L t h => ?_, fun i k π h => ?_, fun i c h => ?_, fun i h => ?_, fun i => ?_, fun i j p h h' => ?_, fun i p h => ?_, ok.zt, ok.pt⟩
  · unfold startP L2.start
    simp [hl.1]
  · obtain ⟨t, h1, h2⟩ := startP_get h
    cases t with
    | im w' =>
      cases h2
      obtain ⟨v, e, q1, q2, q3⟩ := a.r.get h1
      exact ⟨v, sg i v q1, q3.2⟩
    | _ => cases h2
  · obtain ⟨t', h1, h2⟩ := startP_get h
    obtain ⟨v, e, q1, q2, q3⟩ := a.r.get h1
    have : t' = t ∧ p = true ∧ L = pthT t' ∧ t.mut = true := by
      cases t' <;> cases h2 <;> exact ⟨rfl, rfl, rfl, rfl⟩
    obtain ⟨rfl, rfl, rfl, hm⟩ := this
    have le : (ghP g ts es).lk i = lkT t' e := by simp only [ghP, lksT, h1, q2]
    refine ⟨v, sg i v q1, by rw [eg i e q2]; exact q3, hm, fun _ => ?_, by rw [le, lkT_fst], fun q hq => ?_⟩
    · simp only [ghP, h1, q2, Option.bind_some, Option.getD_some]
    · rw [le] at hq
      rw [eg i e q2]
      exact lkT_mem q3 q hq
  · obtain ⟨t', h1, h2⟩ := startP_get h
    cases t' <;> cases h2
  · obtain ⟨t', h1, h2⟩ := startP_get h
    cases t' <;> cases h2
  · cases q : es[i]? with
    | none =>
      refine ⟨rfl, ?_⟩
      simp only [ghP, lksT, q]
      split <;> simp_all
    | some e =>
      have hi : i < ts.length := by rw [← hl.2]; exact get_lt q
      have hts : ts[i]? = some ts[i] := by simp [hi]
      obtain ⟨v, e', q1, q2, q3⟩ := a.r.get hts
      rw [q] at q2; cases q2
      have hs : (startP N.length ts)[i]? = some (startSP ts[i]) := by
        unfold startP
        rw [List.getElem?_append_left (by simpa using hi), List.getElem?_map, hts]; rfl
      cases ht : ts[i] with
      | im w =>
        rw [ht] at q3 hts
        refine ⟨q3.1, ?_⟩
        simp only [ghP, lksT, hts, q]
        exact lkT_im
      | _ => rw [ht] at hs; exact absurd hs (h _ _ _)
  · cases q : es[i]? with
    | none => simp [fp_z]
    | some e => exact fps_get a.nd q
  · obtain ⟨e, h1, h2⟩ := dm i p h
    obtain ⟨e', h1', h2'⟩ := dm j p h'
    refine Classical.byContradiction fun ne => ?_
    exact fps_split ne a.nd h1 h1' h2 h2'
  · obtain ⟨e, h1, h2⟩ := dm i p h
    exact a.no p (mem_fps (List.mem_of_getElem? h1) h2)
theorem keptP {ts : List T} {vs : List V} {es : List D} (ok : GhOk G g H) (a : ArgR G g H ts vs es) (k : Keep (ghP g ts es) H g' H') (s : Sim G g' env' σ H' ds) : ∀ (j : Nat) t e p, ts[j]? = some t → es[j]? = some e → p ∈ fp e → H' p = H p ∧ ¬ g'.Z p ∧ p ∈ fp (ds j) ∧ ∃ q L t', env'[j]? = some (some (SV.own q L t')) ∧ L ≠ [] := fun j t e p h1 h2 hp => by
  obtain ⟨v, e', q1, q2, q3⟩ := a.r.get h1
  rw [h2] at q2; cases q2
  obtain ⟨π, m1, m2⟩ := pth_cov q3 (Nat.le_refl _) hp
  have le : (ghP g ts es).lk j = lkT t e := by simp only [ghP, lksT, h1, h2]
  have mq : (π, p) ∈ lkT t e := List.mem_map.mpr ⟨π, m1, by rw [m2]; rfl⟩
  have hH : H' p = H p := k.l j (π, p) (by rw [le]; exact mq)
  have lk' : g'.lk j = lkT t e := by rw [k.lk, le]
  have ow : ∃ q L t', env'[j]? = some (some (SV.own q L t')) := Classical.byContradiction fun z => by
    have := (s.non j fun q L t' y => z ⟨q, L, t', y⟩).2
    rw [lk'] at this; rw [this] at mq; cases mq
  obtain ⟨q, L, t', e1⟩ := ow
  obtain ⟨v', o1, o2, o3, o4, o5, o6⟩ := s.own _ _ _ _ e1
  have Lne : L ≠ [] := fun z => by
    rw [z, lk'] at o5
    have : lkT t e = [] := by
      cases y : lkT t e with
      | nil => rfl
      | cons x r => rw [y] at o5; cases o5
    rw [this] at mq; cases mq
  obtain ⟨ob, ho, mu⟩ := q3.there p hp
  have pin : p ∈ fp (ds j) := by
    rcases o2.adr_in (o6 (π, p) (by rw [lk']; exact mq)) with z | ⟨xs, z⟩
    · exact z
    · rw [hH, ho] at z; cases z; exact mu.elim
  exact ⟨hH, (s.no j p pin).1, pin, q, L, t', e1, Lne⟩
theorem keptPs {ts : List T} {vs : List V} {es : List D} (ok : GhOk G g H) (a : ArgR G g H ts vs es) (k : Keep (ghP g ts es) H g' H') (s : Sim G g' env' σ H' ds) : ∀ p ∈ fps es, H' p = H p ∧ ¬ g'.Z p ∧ ∃ j, p ∈ fp (ds j) ∧ ∃ q L t', env'[j]? = some (some (SV.own q L t')) ∧ L ≠ [] := fun p hp => by
  obtain ⟨j, e, h1, h2⟩ := mem_fps_get hp
  have hj : j < ts.length := by rw [← a.r.len.2]; exact get_lt h1
  obtain ⟨q1, q2, q3, q4⟩ := keptP ok a k s j ts[j] e p (by simp [hj]) h1 h2
  exact ⟨q1, q2, j, q3, q4⟩
theorem fin_satP {Q : VK} {E : XK} {ts : List T} {vs : List V} {es : List D} {ev : EV} {v : V} (ok : GhOk G g H) (a : ArgR G g H ts vs es) (k : Keep (ghP g ts es) H g' H') (s : SimE G g' env' σ H' ev v) (h : SatP G g H ts es Q E (finP ev env' ts)) : Q v H' := by
  obtain ⟨ds, d, s, r⟩ := s
  have kp := keptPs ok a k s
  unfold finP at h
  split at h
  · rename_i v' e2
    refine h ⟨g'.Z, g'.P, g.rt, g.lk, g.xa⟩ v H' ⟨k.z, k.p, k.q, k.tups, k.frzs, rfl, rfl, rfl, fun i q hq => by rw [ok.lk] at hq; cases hq⟩ ⟨ok.lk, s.zt, s.pt⟩ (fun p hp => ⟨(kp p hp).1, (kp p hp).2.1⟩) ?_
    cases ev with
    | im w => cases e2; exact r.2
    | tmp t =>
      cases e2
      refine ⟨d, r.1, r.2.1, r.2.2.1, fun p hp => ⟨(r.2.2.2 p hp).1, (r.2.2.2 p hp).2.1, fun hq => ?_⟩⟩
      obtain ⟨_, _, j, hj, _⟩ := kp p hq
      exact (r.2.2.2 p hp).2.2 j hj
    | ptr j π =>
      obtain ⟨rfl, b, p, L, t, rfl, h1, h2⟩ := r
      simp only [retP, h1] at e2
      cases p with
      | true =>
        simp only at e2
        split at e2
        · rename_i ht
          cases e2
          obtain ⟨v0, o1, o2, o3, o4, o5, o6⟩ := s.own _ _ _ _ h1
          obtain ⟨v1, e1, q1, q2, q3⟩ := a.r.get ht
          have le : (ghP g ts es).lk j = lkT t e1 := by simp only [ghP, lksT, ht, q2]
          obtain ⟨x, hx⟩ := getP_of_adr h2
          have xm : x.mut = true := by
            obtain ⟨u, e', out, r1, _, r3, _⟩ := o2.lens hx
            have := r3 []
            rw [List.append_nil, h2] at this
            exact mut_adr r1 this.symm
          have pm := pth_in q3 (Nat.le_refl _) hx xm
          obtain ⟨c, hc⟩ := pth_def q3 pm
          have mq : (π, c) ∈ lkT t e1 := List.mem_map.mpr ⟨π, pm, by rw [hc]; rfl⟩
          have := o6 (π, c) (by rw [k.lk, le]; exact mq)
          rw [h2] at this
          cases this
          exact ⟨t, e1, _, ht, q2, hc, rfl⟩
        · cases e2
      | false =>
        cases L with
        | cons x y => cases e2
        | nil =>
        obtain ⟨x, hx⟩ := getP_of_adr h2
        obtain ⟨v0, o1, o2, o3, o4, o5, o6⟩ := s.own _ _ _ _ h1
        obtain ⟨u, e, out, r1, r2, r3, _⟩ := o2.lens hx
        have := r3 []
        rw [List.append_nil, h2] at this
        rw [adr_val r1 this.symm] at r1
        have nde : (fp e).Nodup := (List.nodup_append.mp (r2.nodup_iff.mp (s.nd j))).2.1
        have ine : ∀ q ∈ fp e, q ∈ fp (ds j) := fun q hq => r2.mem_iff.mpr (List.mem_append_right _ hq)
        have fin : ∀ q ∈ fp e, ¬ g'.Z q ∧ ¬ g'.P q ∧ q ∉ fps es := fun q hq => ⟨(s.no j q (ine q hq)).1, (s.no j q (ine q hq)).2, fun z => by
          obtain ⟨_, _, j', w1, q', L', t', w2, w3⟩ := kp q z
          have := s.dj j j' q (ine q hq) w1
          subst this
          rw [h1] at w2; cases w2; exact w3 rfl⟩
        simp only [hx] at e2
        cases x with
        | im w => cases e2; exact r1.2
        | _ => cases e2; exact ⟨e, r1, rfl, nde, fin⟩
  · exact h.elim
theorem fn_okP {P : Program} {w : World} {K : PySem.W.Frag} {mg : Str → Option Value} {base : Heap} {x qual : Str} {params : Arguments} {body : List Stmt} {scope : Scope} {dvs : List V} {kws : List (Str × V)} {f : Addr} {fd : FuncData} {N ps : List Str} {k : Nat} {m : S3} (F : FunD K x qual params body scope dvs kws f fd) (S : FnScope N ps scope) (hps : ps.length ≤ N.length)
    (h : ∀ (cdv : Value) (A : Around) (outer : List PySem.Env) (s : Shared) (H : Hp) (E : XK), Room k (A.deeper (envOfC qual scope s.heap.objs.size f cdv)) →
      SSs G (cxOf (L2.CX P w) P w K mg base N qual scope f cdv A outer s H E) (fun cls d _ H => E cls d H) body m) :
    FnOk P w K mg base (L2.CX P w) (k + 1) f fd ps (spP G ps.length (bodyP N.length m)) := by
  refine F.ok S (fun vs H Q E q => q.1) fun cdv A outer s H vs Q E hr hsp => ⟨_, h cdv A outer s H E hr, ?_⟩
  obtain ⟨hl, g, ts, es, ok, a, q⟩ := hsp
  have hts : ts.length ≤ N.length := by rw [← a.r.len.1, hl]; exact hps
  refine ⟨ghP g ts es, _, _, sim_startP ok a hts, ?_⟩
  unfold bodyP at q
  cases e1 : m (startP N.length ts) with
  | nx e =>
    rw [e1] at q
    exact fun g' σ' H' k' s' => fin_satP ok a k' (s'.im (w := .non) (v := .non) rfl) q
  | rt v e => rw [e1] at q; exact fun g' σ' v' H' k' s' => fin_satP ok a k' s' q
  | ex c e =>
    rw [e1] at q
    rintro g' σ' H' k' ⟨ds', s'⟩
    have kp := keptPs ok a k' s'
    exact q ⟨g'.Z, g'.P, g.rt, g.lk, g.xa⟩ H' ⟨k'.z, k'.p, k'.q, k'.tups, k'.frzs, rfl, rfl, rfl, fun i q hq => by rw [ok.lk] at hq; cases hq⟩ ⟨ok.lk, s'.zt, s'.pt⟩ fun p hp => ⟨(kp p hp).1, (kp p hp).2.1⟩
  | bk e => rw [e1] at q; exact q.elim
  | ct e => rw [e1] at q; exact q.elim
  | stuck => rw [e1] at q; exact q.elim
end
end VL
namespace VL
open PySem L2 PyProof.Rows
def callP (f : Fn) (evs : List EV) (env : Env3) : Out EV := match rds env evs with
  | none => .stuck
  | some ts => if disjE evs = true then (match f ts with
    | .ok ev _ => (match outE evs ts ev with
      | some ev' => .ok ev' env
      | none => .stuck)
    | .exc c _ => .exc c env
    | .stuck => .stuck) else .stuck
structure CallPS (P : Program) (w : World) (K : PySem.W.Frag) (mg : Str → Option Value) (base : Heap) (G : Gm) (x : String) (k n : Nat) (dws : List W) (f : Fn) : Prop where
  ex : ∃ (a : Addr) (fd : FuncData) (ps : List Str) (dvs : List V) (ds : List Value), FnOk P w K mg base (L2.CX P w) k a fd ps (spP G n f) ∧ mg (Str.ofString x) = some (.ref a) ∧ PySem.W.keepIn K (.ref a) = true ∧ Binds K fd ps ds ∧ Vals dvs ds ∧
    ∀ Z H, RepL G Z H dws dvs
structure MethPS (P : Program) (w : World) (K : PySem.W.Frag) (mg : Str → Option Value) (base : Heap) (G : Gm) (m : String) (k n : Nat) (dws : List W) (tab : String → Option Fn) : Prop where
  ex : ∀ C s, tab C = some s → Cls K (G.cA C) ∧ ∃ (f : Addr) (fd : FuncData) (ps : List Str) (dvs : List V) (ds : List Value), Meth K (G.cA C) (Str.ofString m) f ∧ FnOk P w K mg base (L2.CX P w) k f fd ps (spP G n s) ∧ Binds K fd ps ds ∧ Vals dvs ds ∧
    ∀ Z H, RepL G Z H dws dvs
def eCallP (n : Nat) (dws : List W) (f : Fn) (t : M3 (List EV)) : M3 EV := fun env => match t env with
  | .ok evs e1 => if evs.length + dws.length = n then callP f (evs ++ dws.map EV.im) e1 else .stuck
  | .exc c e1 => .exc c e1
  | .stuck => .stuck
def eMethP (m : String) (n : Nat) (dws : List W) (tab : String → Option Fn) (fo : M3 EV) (t : M3 (List EV)) : M3 EV := fun env => match fo env with
  | .ok o e1 => (match (rd e1 o).bind clsT with
    | some (C, ns) => if m ∈ ns then .stuck else (match tab C with
      | some f => (match pendB o t e1 with
        | .ok evs e2 => if evs.length + dws.length + 1 = n then callP f (o :: (evs ++ dws.map EV.im)) e2 else .stuck
        | .exc c e2 => .exc c e2
        | .stuck => .stuck)
      | none => .stuck)
    | none => .stuck)
  | .exc c e1 => .exc c e1
  | .stuck => .stuck
section
variable {X : Cx} {G : Gm} {Wx : WX} {g g' : Gh} {env env' : Env3} {σ : L2.St} {H H' : Hp} {ds : Nat → D} {k : Nat} {ps : List Str} {dvs : List V} {p pos apos : Pos} {e o : Expr} {es : List Expr} {fa fe : M3 EV} {t : M3 (List EV)}
theorem call_runP {f : Fn} {evs : List EV} {vs : List V} {Q : VK} {E : XK} (s : SimA G g env σ H evs vs) (h : match callP f evs env with
    | .ok ev env' => ∀ g' v H', Keep g H g' H' → SimE G g' env' σ H' ev v → Q v H'
    | .exc c env' => ∀ g' H', Keep g H g' H' → SimN G g' env' σ H' → E (.ref (G.cA c)) none H'
    | .stuck => False) : ∃ g ts es, rds env evs = some ts ∧ GhOk G g H ∧ ArgR G g H ts vs es ∧ SatP G g H ts es Q E (f ts) := by
  obtain ⟨ds, es0, s, l⟩ := s
  unfold callP at h
  cases hr : rds env evs with
  | none => rw [hr] at h; exact h.elim
  | some ts =>
    simp only [hr] at h
    by_cases hd : disjE evs = true
    · rw [if_pos hd] at h
      obtain ⟨tl, tg⟩ := rds_get hr
      have vl := l.n
      -- the arguments' own parts
      obtain ⟨es, el, ep⟩ := choiceL (n := evs.length) (P := fun i e => ∀ ev v x d, evs[i]? = some ev → vs[i]? = some v → ts[i]? = some x → es0[i]? = some d → ArgP G g env σ H ds ev v x e ∧ (∀ p ∈ fp e, p ∈ fp d ∨ ∃ k π, ev = .ptr k π ∧ p ∈ fp (ds k)) ∧ (fp e).Nodup) fun i hi => by
        have he : evs[i]? = some evs[i] := by simp [hi]
        obtain ⟨t, h1, h2⟩ := tg i _ he
        obtain ⟨v, d, h3, h4, h5⟩ := l.get he
        obtain ⟨e, q⟩ := argP_of s h5 h2
        exact ⟨e, fun ev' v' x' d' a b c dd => by rw [he] at a; rw [h3] at b; rw [h1] at c; rw [h4] at dd; cases a; cases b; cases c; cases dd; exact q⟩
      have at' : ∀ (i : Nat) e, es[i]? = some e → ∃ ev v x d, evs[i]? = some ev ∧ vs[i]? = some v ∧ ts[i]? = some x ∧ es0[i]? = some d ∧ EvR G g env H ds ev v d ∧ ArgP G g env σ H ds ev v x e ∧ (∀ p ∈ fp e, p ∈ fp d ∨ ∃ k π, ev = .ptr k π ∧ p ∈ fp (ds k)) ∧ (fp e).Nodup := fun i e hi => by
        have hl : i < evs.length := by rw [← el]; exact get_lt hi
        have he : evs[i]? = some evs[i] := by simp [hl]
        obtain ⟨t, h1, h2⟩ := tg i _ he
        obtain ⟨v, d, h3, h4, h5⟩ := l.get he
        exact ⟨_, v, t, d, he, h3, h1, h4, h5, ep i e hi _ v t d he h3 h1 h4⟩
      have rep : ∀ ev v x e, ArgP G g env σ H ds ev v x e → RepT G g.Z H x v e := fun ev v x e a => by
        cases ev with
        | im w => obtain ⟨rfl, rfl, r⟩ := a; exact ⟨rfl, r⟩
        | tmp t => obtain ⟨rfl, r, _⟩ := a; exact r
        | ptr k ρ => obtain ⟨p, L, t, vk, out, _, _, _, _, _, r, _⟩ := a; exact r
      have nds := l.nd
      have nop := l.noP
      have inds : ∀ (i : Nat) e p, es[i]? = some e → p ∈ fp e → (p ∈ fps es0 ∧ ∃ d, es0[i]? = some d ∧ p ∈ fp d) ∨ ∃ k π, evs[i]? = some (.ptr k π) ∧ p ∈ fp (ds k) := fun i e p hi hp => by
        obtain ⟨ev, v, x, d, h1, h2, h3, h4, h5, h6, h7, h8⟩ := at' i e hi
        rcases h7 p hp with z | ⟨k, π, rfl, z⟩
        · exact .inl ⟨mem_fps (List.mem_of_getElem? h4) z, d, h4, z⟩
        · exact .inr ⟨k, π, h1, z⟩
      have disj : ∀ (i j : Nat) d e p, es[i]? = some d → es[j]? = some e → p ∈ fp d → p ∈ fp e → i = j := fun i j d e p hi hj hp hq => by
        rcases inds i d p hi hp with ⟨z1, d1, z2, z3⟩ | ⟨k, π, z1, z2⟩
        · rcases inds j e p hj hq with ⟨y1, d2, y2, y3⟩ | ⟨k', π', y1, y2⟩
          · refine Classical.byContradiction fun ne => fps_split ne nds z2 y2 z3 y3
          · exact absurd y2 ((nop p z1).2.2.1 k')
        · rcases inds j e p hj hq with ⟨y1, d2, y2, y3⟩ | ⟨k', π', y1, y2⟩
          · exact absurd z2 ((nop p y1).2.2.1 k)
          · have := s.dj k k' p z2 y2
            subst this
            exact disjE_ne hd z1 y1
      have nop' : ∀ p ∈ fps es, ¬ g.Z p ∧ ¬ g.P p ∧ ∃ o, H p = some o := fun p hp => by
        obtain ⟨i, e, h1, h2⟩ := mem_fps_get hp
        rcases inds i e p h1 h2 with ⟨z1, _⟩ | ⟨k, π, z1, z2⟩
        · obtain ⟨a1, a2, a3, o, a4, _⟩ := nop p z1; exact ⟨a2, a1, o, a4⟩
        · obtain ⟨o, a4, _⟩ := s.there z2; exact ⟨(s.no k p z2).1, (s.no k p z2).2, o, a4⟩
      -- the callee's ghosts
      let g1 : Gh := ⟨g.Z, fun p => g.P p ∨ ((∃ i, p ∈ fp (ds i)) ∧ p ∉ fps es), g.rt, fun _ => [], g.xa⟩
      have ar : ArgR G g1 H ts vs es := by
        refine ⟨repTL_of (g := g) (by rw [← vl, tl]) (by rw [el, tl]) fun i t v e a b c => ?_, fps_nodup_of (fun i e hi => ?_) disj, fun p hp => ⟨(nop' p hp).1, fun z => z.elim (nop' p hp).2.1 fun z => z.2 hp⟩⟩
        · obtain ⟨ev, v', x, d, h1, h2, h3, h4, h5, h6, h7, h8⟩ := at' i e c
          rw [b] at h2; rw [a] at h3; cases h2; cases h3
          exact rep _ _ _ _ h6
        · obtain ⟨ev, v', x, d, h1, h2, h3, h4, h5, h6, h7, h8⟩ := at' i e hi
          exact h8
      have ok1 : GhOk G g1 H := by
        refine ⟨rfl, fun p z => ⟨fun y => y.elim (s.zt p z).1 fun y => ?_, (s.zt p z).2⟩, fun p z => z.elim (s.pt.1 p) fun z => ?_, s.pt.2⟩
        · obtain ⟨⟨i, y⟩, _⟩ := y; exact (s.no i p y).1 z
        · obtain ⟨⟨i, z⟩, _⟩ := z; obtain ⟨o, z, m⟩ := s.there z; exact Ob.mut z m
      refine ⟨g1, ts, es, rfl, ok1, ar, ?_⟩
      have grow : ∀ (g2 : Gh) H2, Keep g1 H g2 H2 → GhOk G g2 H2 → (∀ p ∈ fps es, H2 p = H p ∧ ¬ g2.Z p) → Sim G ⟨g2.Z, g.P, g.rt, g.lk, g.xa⟩ env σ H2 ds ∧ Keep g H ⟨g2.Z, g.P, g.rt, g.lk, g.xa⟩ H2 ∧ ∀ i p, p ∈ fp (ds i) → p ∉ fps es → g2.P p := fun g2 H2 k2 ok2 un => by
        have kP : ∀ i p, p ∈ fp (ds i) → H2 p = H p ∧ ¬ g2.Z p ∧ (p ∉ fps es → g2.P p) := fun i p hi => by
          by_cases hp : p ∈ fps es
          · exact ⟨(un p hp).1, (un p hp).2, fun z => absurd hp z⟩
          · obtain ⟨a, b⟩ := k2.p p (.inr ⟨⟨i, hi⟩, hp⟩)
            exact ⟨b, fun z => (ok2.zt p z).1 a, fun _ => a⟩
        have lkd : ∀ i q, q ∈ g.lk i → H2 q.2 = H q.2 := fun i q hq => by
          by_cases e : ∃ p L t, env[i]? = some (some (SV.own p L t))
          · obtain ⟨p, L, t, e⟩ := e
            obtain ⟨v, o1, o2, o3, o4, o5, o6⟩ := s.own _ _ _ _ e
            rcases o2.adr_in (o6 q hq) with z | ⟨xs, z⟩
            · exact (kP i q.2 z).1
            · have := k2.tups _ _ z
              rw [this, z]
          · have := (s.non i fun q L t z => e ⟨q, L, t, z⟩).2
            rw [this] at hq; cases hq
        have kk : Keep g H ⟨g2.Z, g.P, g.rt, g.lk, g.xa⟩ H2 := ⟨k2.z, fun p z => ⟨z, (k2.p p (.inl z)).2⟩, fun _ z => z, k2.tups, k2.frzs, rfl, rfl, rfl, lkd⟩
        refine ⟨s.grow kk (fun i p hp => ⟨(kP i p hp).1, (kP i p hp).2.1⟩) (fun p z => ⟨fun y => ?_, (ok2.zt p z).2⟩) (fun p y => ok2.pt.1 p (k2.p p (.inl y)).1), kk, fun i p hp => (kP i p hp).2.2⟩
        exact (ok2.zt p z).1 (k2.p p (.inl y)).1
      cases hf : f ts with
      | stuck => rw [hf] at h; exact h.elim
      | exc c ts' =>
        rw [hf] at h
        intro g2 H2 k2 ok2 un
        obtain ⟨S, kk, _⟩ := grow g2 H2 k2 ok2 un
        exact h _ H2 kk ⟨ds, S⟩
      | ok ev ts' =>
        simp only [hf] at h
        intro g2 v H2 k2 ok2 un fr
        obtain ⟨S, kk, inP⟩ := grow g2 H2 k2 ok2 un
        cases hout : outE evs ts ev with
        | none => simp only [hout] at h
        | some ev' =>
          simp only [hout] at h
          have gP2 : ∀ p, g.P p → g2.P p := fun p y => (k2.p p (.inl y)).1
          refine h _ v H2 kk ?_
          cases ev with
          | im w => cases hout; exact ⟨ds, .z, S, rfl, fr⟩
          | tmp t =>
            cases hout
            obtain ⟨d, r1, r2, r3, r4⟩ := fr
            exact ⟨ds, d, S, r1, r2, r3, fun p hp => ⟨(r4 p hp).1, fun y => (r4 p hp).2.1 (gP2 p y), fun i hi => (r4 p hp).2.1 (inP i p hi (r4 p hp).2.2)⟩⟩
          | ptr j π =>
            obtain ⟨t, e, a, r1, r2, r3, rfl⟩ := fr
            obtain ⟨ev0, v0, x, d0, h1, h2, h3, h4, h5, h6, h7, h8⟩ := at' j e r2
            rw [r1] at h3; cases h3
            simp only [outE] at hout
            cases ev0 with
            | im w => simp only [h1] at hout; cases hout
            | ptr k ρ =>
              simp only [h1] at hout
              cases hout
              obtain ⟨p', L', t', vk, out, b1, b2, b3, b4, b5, b6, b7, b8, b9, b10, b11⟩ := h6
              exact ⟨ds, .z, S, rfl, a, p', L', t', rfl, b1, by rw [b9 π]; exact r3⟩
            | tmp u =>
              simp only [h1, r1, Option.bind_some] at hout
              obtain ⟨x', hx⟩ := getP_of_adr r3
              have w3 := (rep _ _ _ _ h6).keep kk.kz fun p hp => (un p (mem_fps (List.mem_of_getElem? r2) hp)).1
              obtain ⟨u2, e2, out, y1, y2, y3, _⟩ := w3.lens hx
              have := y3 []
              rw [List.append_nil, r3] at this
              rw [adr_val y1 this.symm] at y1
              have nde : (fp e2).Nodup := (List.nodup_append.mp (y2.nodup_iff.mp (fps_get ar.nd r2))).2.1
              have ine : ∀ q ∈ fp e2, q ∈ fp e := fun q hq => y2.mem_iff.mpr (List.mem_append_right _ hq)
              have fin : ∀ p ∈ fp e2, ¬ g2.Z p ∧ ¬ g.P p ∧ ∀ i, p ∉ fp (ds i) := fun p hp => by
                have hpe := mem_fps (List.mem_of_getElem? r2) (ine p hp)
                refine ⟨(un p hpe).2, (nop' p hpe).2.1, fun i hi => ?_⟩
                rcases h7 p (ine p hp) with z | ⟨k', π', z, _⟩
                · exact (nop p (mem_fps (List.mem_of_getElem? h4) z)).2.2.1 i hi
                · cases z
              simp only [hx] at hout
              cases x' with
              | im w => cases hout; exact ⟨ds, .z, S, rfl, y1.2⟩
              | _ => cases hout; exact ⟨ds, e2, S, y1, rfl, nde, fin⟩
    · rw [if_neg hd] at h; exact h.elim
theorem call_satP {n : Nat} {F : Fn} {evs : List EV} {vs : List V} {Q : VK} (s : SimA G g env σ H evs vs) (hn : vs.length = n) (h : SatE G Wx g σ H Q (callP F evs env)) : spP G n F vs H Q (WE Wx σ) := by
  obtain ⟨g, ts, es, _, a, b, c⟩ := call_runP (Q := Q) (E := WE Wx σ) s (by
    cases e : callP F evs env with
    | stuck => rw [e] at h; exact h.elim
    | exc c env' => rw [e] at h; exact fun g' H' k s => h g' H' k s
    | ok ev env' => rw [e] at h; exact h)
  exact ⟨hn, g, ts, es, a, b, c⟩
theorem sa_midP {n : Nat} {dws : List W} {F : Fn} {σ : L2.St} {H : Hp} {Q : VK} (h : liftE G Wx (eCallP n dws F t) σ H Q) (rd : ∀ Z H, RepL G Z H dws dvs) : liftA G Wx t σ H (fun vs H1 => spP G n F (vs ++ dvs) H1 Q (WE Wx σ)) := by
  obtain ⟨g, env, ds, s, h⟩ := h
  refine ⟨g, env, ds, s, ?_⟩
  unfold eCallP at h
  cases e1 : t env with
  | stuck => rw [e1] at h; exact h.elim
  | exc c e2 => rw [e1] at h; exact h
  | ok evs e2 =>
    simp only [e1] at h
    intro g1 vs H1 k1 s1
    split at h
    · rename_i hn
      refine call_satP (s1.app rd) ?_ (SatE.keep h k1)
      rw [List.length_append, ← s1.len, ← hn, (rd g1.Z H1).length]
    · exact h.elim
theorem se_callP {x : String} {n : Nat} {F : Fn} {dws : List W} (c : CallPS X.prog X.w X.K X.mg X.base G x k n dws F) (hr : Room k X.A) (hg : Gl X (Str.ofString x)) (tk : Takes X Wx)
    (ha : SA G X Wx (e :: es) t) (hdb : ((Str.ofString x) == ("__debug__" : Str)) = false := by decide) (he : starEach (e :: es) X.env = (false, eval e X.env) :: starEach es X.env := by rfl) (hpl : (backTo pos (starEach es X.env)).any (·.1) = false := by rfl) :
    SE G X Wx (.Call (.Name (Str.ofString x) p) (e :: es) [] pos) (eCallP n dws F t) := by
  obtain ⟨f, fd, ps, dvs, ds, F, hm, kp, hb, hd, rd⟩ := c.ex
  refine ⟨fun pins s0 σ H Q I h => ?_⟩
  refine wpAny_Call_Name_kw (ld_glob I hg hm ?_ hdb)
  refine PySem.W.callWith_K (h₀ := X.base) I.ok.mod.kin kp (thn (ha.run pos pins s0 σ H _ I (sa_midP h rd)) fun us s1 ⟨vs, H1, I1, r, q⟩ => ⟨I1.kIn, ?_⟩) he hpl
  exact run_fnD F hr hb hd (passAt tk σ) I1 r q
end
end VL
namespace VL
open PySem L2 PyProof.Rows
def isList : T → Bool
  | .ml _ => true
  | .im (.lst _) => true
  | .im (.scr _) => true
  | _ => false
section
variable {X : Cx} {G : Gm} {Wx : WX} {g g' : Gh} {env env' : Env3} {σ : L2.St} {H H' : Hp} {ds : Nat → D} {p pos apos cpos : Pos} {e o a b : Expr} {es : List Expr} {fa fb fe fo : M3 EV} {t : M3 (List EV)}
theorem listV {Z : Addr → Prop} {x : T} {v : V} {d : D} (h : isList x = true) (r : RepT G Z H x v d) : ∃ p vs, v = .ref p ∧ SqL G.K H p vs := by
  cases x with
  | ml xs => obtain ⟨p, vs, ds, rfl, _, h1, _⟩ := r; exact ⟨p, vs, rfl, .inl (.inl h1)⟩
  | im w =>
    cases w with
    | lst xs => obtain ⟨_, p, vs, rfl, _, h1, _⟩ := r; exact ⟨p, vs, rfl, .inl (.inl h1)⟩
    | scr xs => obtain ⟨_, p, vs, rfl, h1, _⟩ := r; exact ⟨p, vs, rfl, h1.seq⟩
    | _ => cases h
  | _ => cases h
theorem len1 {α : Type} {xs : List α} (h : 1 = xs.length) : ∃ x, xs = [x] := by
  match xs, h with
  | [x], _ => exact ⟨x, rfl⟩
theorem repTL_im {Z : Addr → Prop} : ∀ {ws : List W} {vs : List V}, RepL G Z H ws vs → RepTL G Z H (ws.map T.im) vs (ws.map fun _ => D.z)
  | [], vs, r => ⟨r, rfl⟩
  | w :: ws, vs, ⟨v, r, e, a, b⟩ => ⟨v, r, .z, _, e, rfl, ⟨rfl, a⟩, repTL_im b⟩
theorem fps_z {α : Type} : ∀ {ws : List α}, fps (ws.map fun _ => D.z) = []
  | [] => rfl
  | w :: ws => by show fp D.z ++ fps (ws.map fun _ => D.z) = []; rw [fps_z, fp_z]; rfl
section
variable (hK : X.K = G.K)
end
end
end VL
namespace VL
open PySem L2 PyProof.Rows
section
variable {X : Cx} {G : Gm} {Wx : WX} {g g' : Gh} {env env' : Env3} {σ : L2.St} {H H' : Hp} {ds : Nat → D} {p pos apos cpos : Pos} {e o a b i : Expr} {es : List Expr} {fa fb fe fo fi fv : M3 EV} {t : M3 (List EV)}
theorem SimA.swap {x y : EV} {v u : V} {evs : List EV} {vs : List V} (s : SimA G g env σ H (x :: y :: evs) (v :: u :: vs)) : SimA G g env σ H (y :: x :: evs) (u :: v :: vs) := by
  obtain ⟨ds, es, s, v1, r1, d1, dr1, e1, e2, a1, ⟨v2, r2, d2, dr2, e3, e4, a2, a3, a4⟩, a5⟩ := s
  cases e1; cases e3; subst e4
  refine ⟨ds, d2 :: d1 :: dr2, s, u, v :: vs, d2, d1 :: dr2, rfl, rfl, a2, ⟨v, vs, d1, dr2, rfl, rfl, a1, a3, fun p hp hq => a5 p hp (by simp [fps, hq])⟩, fun p hp hq => ?_⟩
  simp only [fps, List.mem_append] at hq
  rcases hq with z | z
  · exact a5 p z (by simp [fps, hp])
  · exact a4 p hp z
variable {value : Expr} {pos' tpos : Pos}
end
end VL
namespace VL
open PySem L2 PyProof.Rows
abbrev FC := List EV → Env3 → Option EV
def eCB (r : FC) (t : M3 (List EV)) : M3 EV := fun env => match t env with
  | .ok evs e => (match r evs e with
    | some ev => .ok ev e
    | none => .stuck)
  | .exc c e => .exc c e
  | .stuck => .stuck
def liftC (G : Gm) (r : FC) : List V → Hp → VK → Prop := fun xs H Q => ∃ g env σ evs ev, SimA G g env σ H evs xs ∧ r evs env = some ev ∧ ∀ g' v H', Keep g H g' H' → SimE G g' env σ H' ev v → Q v H'
def seqT : T → Option (List T)
  | .ml xs => some xs
  | .tp xs => some xs
  | .im w => (seqW w).map fun ws => ws.map T.im
  | _ => none
section
variable {X : Cx} {G : Gm} {Wx : WX} {g g' : Gh} {env env' : Env3} {σ : L2.St} {H H' : Hp} {ds : Nat → D} {p pos apos cpos : Pos} {e o a b : Expr} {es : List Expr} {fa fb fe fo : M3 EV} {t : M3 (List EV)} {Z : Addr → Prop} {x : Str}
theorem callR_imp {f : Value} {r r' : List V → Hp → VK → Prop} (h : CallR X f r) (i : ∀ xs H Q, r' xs H Q → r xs H Q) : CallR X f r' := fun pins s σ H xs us Q I rx q => h pins s σ H xs us Q I rx (i _ _ _ q)
theorem callR_or {f : Value} {r1 r2 : List V → Hp → VK → Prop} (h1 : CallR X f r1) (h2 : CallR X f r2) : CallR X f (fun xs H Q => r1 xs H Q ∨ r2 xs H Q) := fun pins s σ H xs us Q I rx q => q.elim (h1 pins s σ H xs us Q I rx) (h2 pins s σ H xs us Q I rx)
theorem cb3 {r : FC} : ∀ σ H Q, liftE G Wx (eCB r t) σ H Q → tCB (liftC G r) (liftA G Wx t) σ H Q := by
  rintro σ H Q ⟨g, env, ds, s, h⟩
  refine ⟨g, env, ds, s, ?_⟩
  unfold eCB at h
  cases e1 : t env with
  | stuck => rw [e1] at h; exact h.elim
  | exc c e2 => rw [e1] at h; exact h
  | ok evs e2 =>
    simp only [e1] at h
    intro g1 vs H1 k1 s1
    split at h
    · rename_i ev hr
      exact ⟨g1, e2, σ, evs, ev, s1, hr, fun g' v H' k' s' => h g' v H' (k1.trans k') s'⟩
    · exact h.elim
theorem se_callB {id : String} {r : FC} (hc : CallR X (.builtin id) (liftC G r)) (hg : Gl X x) (hm : X.mg x = none) (hv : bootBuiltins x = some (.builtin id)) (ha : SA G X Wx (e :: es) t) (hn : x ≠ "__name__" := by decide) (hdb : (x == ("__debug__" : Str)) = false := by decide)
    (he : starEach (e :: es) X.env = (false, eval e X.env) :: starEach es X.env := by rfl) (hpl : (backTo pos (starEach es X.env)).any (·.1) = false := by rfl) : SE G X Wx (.Call (.Name x p) (e :: es) [] pos) (eCB r t) :=
  pe_imp (pe_callB hc hg hm hv ha hn hdb he hpl) cb3
theorem se_callTy {T : String} {r : FC} (hc : CallR X (.type T) (liftC G r)) (hg : Gl X x) (hm : X.mg x = none) (hv : bootBuiltins x = some (.type T)) (ha : SA G X Wx (e :: es) t) (hn : x ≠ "__name__" := by decide) (hdb : (x == ("__debug__" : Str)) = false := by decide)
    (he : starEach (e :: es) X.env = (false, eval e X.env) :: starEach es X.env := by rfl) (hpl : (backTo pos (starEach es X.env)).any (·.1) = false := by rfl) : SE G X Wx (.Call (.Name x p) (e :: es) [] pos) (eCB r t) :=
  pe_imp (pe_callTy hc hg hm hv ha hn hdb he hpl) cb3
theorem SimA.tree1 {ev : EV} {xs : List V} (s : SimA G g env σ H [ev] xs) {x : T} (h : rd env ev = some x) : ∃ v d, xs = [v] ∧ RepT G g.Z H x v d := by
  obtain ⟨v, rfl⟩ := len1 (xs := xs) (by have := s.len; simp only [List.length_cons, List.length_nil] at this; omega)
  obtain ⟨d, r⟩ := s.hd.rd h
  exact ⟨v, d, rfl, r⟩
theorem SimA.int1 {i : Int} {xs : List V} (s : SimA G g env σ H [.im (.int i)] xs) : xs = [.int i] := by
  obtain ⟨v, rfl⟩ := len1 (xs := xs) (by have := s.len; simp only [List.length_cons, List.length_nil] at this; omega)
  rw [show v = V.int i from s.hd.imR]
theorem seqW_rep {w : W} {v : V} {ws : List W} (h : seqW w = some ws) (r : Rep G Z H w v) : ∃ p vs, v = .ref p ∧ (SqL G.K H p vs ∨ SqT G.K H p vs) ∧ RepL G Z H ws vs := by
  cases w with
  | tup xs => cases h; obtain ⟨p, vs, rfl, h1, r1⟩ := r; exact ⟨p, vs, rfl, .inr (SqT.of h1), r1⟩
  | lst xs => cases h; obtain ⟨p, vs, rfl, _, h1, r1⟩ := r; exact ⟨p, vs, rfl, .inl (.inl (.inl h1)), r1⟩
  | scr xs => cases h; obtain ⟨p, vs, rfl, h1, r1⟩ := r; exact ⟨p, vs, rfl, .inl h1.seq, r1⟩
  | ktp xs => cases h; obtain ⟨p, vs, rfl, h1, r1⟩ := r; exact ⟨p, vs, rfl, .inr h1, r1⟩
  | _ => cases h
theorem seqT_rep {x : T} {v : V} {d : D} {xs : List T} (h : seqT x = some xs) (r : RepT G Z H x v d) : ∃ p vs dl, v = .ref p ∧ (SqL G.K H p vs ∨ SqT G.K H p vs) ∧ RepTL G Z H xs vs dl := by
  cases x with
  | ml ys => cases h; obtain ⟨p, vs, dl, rfl, _, h1, r1⟩ := r; exact ⟨p, vs, dl, rfl, .inl (.inl (.inl h1)), r1⟩
  | tp ys => cases h; obtain ⟨p, vs, dl, rfl, _, h1, r1⟩ := r; exact ⟨p, vs, dl, rfl, .inr (SqT.of h1), r1⟩
  | im w =>
    obtain ⟨ws, h1, rfl⟩ := Option.map_eq_some_iff.mp (show (seqW w).map (fun ws => ws.map T.im) = some xs from h)
    obtain ⟨p, vs, rfl, h2, r2⟩ := seqW_rep h1 r.2
    exact ⟨p, vs, _, rfl, h2, repTL_im r2⟩
  | _ => cases h
theorem allI_rep : ∀ {xs : List T} {vs : List V} {dl : List D} {ws : List W}, allI xs = some ws → RepTL G Z H xs vs dl → RepL G Z H ws vs
  | [], vs, dl, ws, h, r => by cases h; exact r.1
  | .im w :: xs, vs, dl, ws, h, ⟨v, rr, d, dr, e1, e2, a, b⟩ => by
    obtain ⟨ws', h1, rfl⟩ := Option.map_eq_some_iff.mp (show (allI xs).map (w :: ·) = some ws from h)
    exact ⟨v, rr, e1, a.2, allI_rep h1 b⟩
  | .ml _ :: _, _, _, _, h, _ => by cases h
  | .md _ :: _, _, _, _, h, _ => by cases h
  | .mt _ :: _, _, _, _, h, _ => by cases h
  | .mi _ _ :: _, _, _, _, h, _ => by cases h
  | .tp _ :: _, _, _, _, h, _ => by cases h
def lenT (x : T) : Option Nat := match x with
  | .im (.str s) => if s.length ≤ 10000000 then some s.length else none
  | x => (seqT x).map List.length
def rLen3 : FC := fun evs env => match evs with
  | [ev] => (rd env ev).bind fun x => (lenT x).map fun n : Nat => .im (.int (n : Int))
  | _ => none
theorem call_rLen (hK : X.K = G.K) : CallR X (.builtin "len") (liftC G rLen3) := by
  refine callR_imp (callR_or call_len_seq call_len_str) ?_
  rintro xs H Q ⟨g, env, σ, evs, ev, s, q, k⟩
  unfold rLen3 at q
  split at q
  · rename_i ev1
    obtain ⟨x, hx, q⟩ := Option.bind_eq_some_iff.mp q
    obtain ⟨n, hn, rfl⟩ := Option.map_eq_some_iff.mp q
    obtain ⟨v, d, rfl, r⟩ := s.tree1 hx
    obtain ⟨ds, _, sm, _⟩ := id s
    have fin := k g (.int n) H (Keep.refl g H) (sm.im rfl)
    unfold lenT at hn
    split at hn
    · rename_i z
      split at hn
      · rename_i hz
        cases hn
        exact .inr ⟨Str.ofString z, by rw [show v = _ from r.2], by rw [ofString_len]; exact big_size hz, by rw [ofString_len]; exact fin⟩
      · cases hn
    · obtain ⟨ys, h1, rfl⟩ := Option.map_eq_some_iff.mp hn
      obtain ⟨p, vs, dl, rfl, h2, r2⟩ := seqT_rep h1 r
      exact .inl ⟨p, vs, rfl, hK ▸ h2, by rw [r2.len.1]; exact fin⟩
  · cases q
def rI1 (f : Int → W) : FC := fun evs _ => match evs with
  | [.im (.int i)] => some (.im (f i))
  | _ => none
abbrev rAbs3 : FC := rI1 fun i => .int (if i < 0 then -i else i)
instance {i j : Int} : Decidable (CDiv i j) := inferInstanceAs (Decidable (_ ∧ _))
def rIntB3 : FC := fun evs _ => match evs with
  | [.im (.int i)] => some (.im (.int i))
  | [.im (.bl b)] => some (.im (.int (if b then 1 else 0)))
  | _ => none
theorem call_rAbs : CallR X (.builtin "abs") (liftC G rAbs3) := by
  refine callR_imp call_abs ?_
  rintro xs H Q ⟨g, env, σ, evs, ev, s, q, k⟩
  unfold rAbs3 rI1 at q
  split at q
  · cases q
    obtain ⟨ds, _, sm, _⟩ := id s
    rw [s.int1]
    exact ⟨_, rfl, k g _ H (Keep.refl g H) (sm.im rfl)⟩
  · cases q
theorem call_rInt : CallR X (.type "int") (liftC G rIntB3) := by
  refine callR_imp call_int1 ?_
  rintro xs H Q ⟨g, env, σ, evs, ev, s, q, k⟩
  unfold rIntB3 at q
  split at q
  · cases q
    obtain ⟨ds, _, sm, _⟩ := id s
    rw [s.int1]
    exact .inl ⟨_, rfl, k g _ H (Keep.refl g H) (sm.im rfl)⟩
  · rename_i b
    cases q
    obtain ⟨ds, _, sm, _⟩ := id s
    obtain ⟨v, rfl⟩ := len1 (xs := xs) (by have := s.len; simp only [List.length_cons, List.length_nil] at this; omega)
    rw [show v = V.bl b from s.hd.imR]
    exact .inr ⟨_, rfl, k g _ H (Keep.refl g H) (sm.im rfl)⟩
  · cases q
theorem se_abs (hg : Gl X "abs") (hm : X.mg "abs" = none) (ha : SA G X Wx (e :: es) t) (he : starEach (e :: es) X.env = (false, eval e X.env) :: starEach es X.env := by rfl) (hpl : (backTo pos (starEach es X.env)).any (·.1) = false := by rfl) :
    SE G X Wx (.Call (.Name "abs" p) (e :: es) [] pos) (eCB rAbs3 t) := se_callB call_rAbs hg hm (by decide +kernel) ha (by decide) (by decide) he hpl
def rowL : T → Option (List W)
  | .ml xs => allI xs
  | .im (.lst ws) => some ws
  | .im (.scr ws) => some ws
  | _ => none
theorem rowL_rep {x : T} {v : V} {d : D} {ws : List W} (h : rowL x = some ws) (r : RepT G Z H x v d) : ∃ p vs, v = .ref p ∧ SqL G.K H p vs ∧ RepL G Z H ws vs := by
  cases x with
  | ml xs => obtain ⟨p, vs, dl, rfl, _, h1, r1⟩ := r; exact ⟨p, vs, rfl, .inl (.inl h1), allI_rep h r1⟩
  | im w =>
    cases w with
    | lst xs => cases h; obtain ⟨_, p, vs, rfl, _, h1, r1⟩ := r; exact ⟨p, vs, rfl, .inl (.inl h1), r1⟩
    | scr xs => cases h; obtain ⟨_, p, vs, rfl, h1, r1⟩ := r; exact ⟨p, vs, rfl, h1.seq, r1⟩
    | _ => cases h
  | _ => cases h
theorem Sim.newL {ds : Nat → D} (s : Sim G g env σ H ds) {l : Addr} {vs : List V} {ws : List W} (hl : H l = none) (r : RepL G g.Z H ws vs) : Keep g H g (L2.upd H l (.lst vs)) ∧ SimE G g env σ (L2.upd H l (.lst vs)) (.tmp (.ml (ws.map T.im))) (.ref l) := by
  have kn := Keep.new (o := .lst vs) hl s
  have f := s.free hl
  refine ⟨kn, ds, .nd (some l) true (ws.map fun _ => D.z), s.new hl, ⟨l, vs, _, rfl, rfl, upd_same, repTL_im (r.keep kn.kz)⟩, rfl, ?_, fun q hq => ?_⟩
  · simp [fp, fps_z]
  · have : q = l := by simpa [fp, fps_z] using hq
    subst this
    exact f
abbrev MO := Env3 → Out (Option Int)
def liftO (G : Gm) (Wx : WX) (f : MO) : TO := fun σ H Q => ∃ g env ds, Sim G g env σ H ds ∧ match f env with
  | .ok b env' => ∀ g' H', Keep g H g' H' → SimN G g' env' σ H' → Q b H'
  | .exc c env' => SatX G Wx g σ H c env'
  | .stuck => False
abbrev SO (G : Gm) (X : Cx) (Wx : WX) (e : Option Expr) (f : MO) : Prop := PO X e (liftO G Wx f)
def oNo : MO := fun env => .ok none env
def oPart (f : M3 EV) : MO := fun env => match f env with
  | .ok (.im (.int i)) e => .ok (some i) e
  | .exc c e => .exc c e
  | _ => .stuck
theorem po_imp {e : Option Expr} {t t' : TO} (h : PO X e t) (i : ∀ σ H Q, t' σ H Q → t σ H Q) : PO X e t' := ⟨fun pins s σ H Q I q => h.run pins s σ H Q I (i _ _ _ q)⟩
theorem so_none : SO G X Wx none oNo := by
  refine po_imp po_none ?_
  rintro σ H Q ⟨g, env, ds, s, h⟩
  exact h g H (Keep.refl g H) ⟨ds, s⟩
theorem so_some (h : SE G X Wx e fe) : SO G X Wx (some e) (oPart fe) := by
  refine po_imp (po_some h) ?_
  rintro σ H Q ⟨g, env, ds, s, h⟩
  refine ⟨g, env, ds, s, ?_⟩
  unfold oPart at h
  cases e1 : fe env with
  | stuck => simp only [e1] at h
  | exc c e2 => simp only [e1] at h; exact h
  | ok ev e2 =>
    intro g1 v H1 k1 s1
    cases ev with
    | tmp _ => simp only [e1] at h
    | ptr _ _ => simp only [e1] at h
    | im w =>
      cases w with
      | int i =>
        simp only [e1] at h
        exact ⟨i, s1.imR, h g1 H1 k1 s1.n⟩
      | _ => simp only [e1] at h
def cutA {α : Type} (xs : List α) (lo hi : Option Int) : List α := (xs.drop (HT.sIx xs.length 0 lo)).take (HT.sIx xs.length xs.length hi - HT.sIx xs.length 0 lo)
def cutT (s : String) (lo hi : Option Int) : String := String.ofList (cutA s.toList lo hi)
theorem RepL.drop : ∀ {n : Nat} {xs : List W} {vs : List V}, RepL G Z H xs vs → RepL G Z H (xs.drop n) (vs.drop n)
  | 0, _, _, r => r
  | n + 1, [], _, r => by rw [show _ = _ from r]; exact rfl
  | n + 1, x :: xs, _, ⟨v, r, e, a, b⟩ => by rw [e]; exact RepL.drop (n := n) b
theorem RepL.take : ∀ {n : Nat} {xs : List W} {vs : List V}, RepL G Z H xs vs → RepL G Z H (xs.take n) (vs.take n)
  | 0, _, _, r => rfl
  | n + 1, [], _, r => by rw [show _ = _ from r]; exact rfl
  | n + 1, x :: xs, _, ⟨v, r, e, a, b⟩ => by rw [e]; exact ⟨v, r.take n, rfl, a, RepL.take (n := n) b⟩
theorem cut_rep {xs : List W} {vs : List V} (r : RepL G Z H xs vs) (lo hi : Option Int) : RepL G Z H (cutA xs lo hi) (cutV vs lo hi) := by
  unfold cutA cutV
  rw [r.length]
  exact (RepL.drop r).take
theorem ofString_cut (s : String) (lo hi : Option Int) : cutS (Str.ofString s) lo hi = Str.ofString (cutT s lo hi) := by
  unfold cutS cutT cutA
  rw [Str.ofString_eq_toList (String.ofList _), ofString_cps, ofString_len]
  simp only [String.toList_ofList, List.map_take, List.map_drop, String.length_toList]
def cutX (x : T) (lo hi : Option Int) : Option EV := match x with
  | .im (.str s) => if s.length ≤ 10000000 then some (.im (.str (cutT s lo hi))) else none
  | .im (.tup ws) => some (.im (.tup (cutA ws lo hi)))
  | x => (rowL x).map fun ws => .tmp (.ml ((cutA ws lo hi).map T.im))
def eSl (fo : M3 EV) (fl fh : MO) : M3 EV := fun env => match fo env with
  | .ok o e1 => (match pendB o (fun e => match fl e with
      | .ok l e' => (match fh e' with
        | .ok h e'' => .ok (l, h) e''
        | .exc c e'' => .exc c e''
        | .stuck => .stuck)
      | .exc c e' => .exc c e'
      | .stuck => .stuck) e1 with
    | .ok (l, h) e2 => (match (rd e2 o).bind fun x => cutX x l h with
      | some ev => .ok ev e2
      | none => .stuck)
    | .exc c e2 => .exc c e2
    | .stuck => .stuck)
  | .exc c e1 => .exc c e1
  | .stuck => .stuck
def liftSl (G : Gm) : V → Option Int → Option Int → Hp → VK → Prop := fun x lo hi H Q => ∃ g env σ ob y ev, SimE G g env σ H ob x ∧ rd env ob = some y ∧ cutX y lo hi = some ev ∧ ∀ g' v H', Keep g H g' H' → SimE G g' env σ H' ev v → Q v H'
theorem slR_imp {r r' : V → Option Int → Option Int → Hp → VK → Prop} (h : L2.SlR X r) (i : ∀ x lo hi H Q, r' x lo hi H Q → r x lo hi H Q) : L2.SlR X r' := fun pins s σ H x v vl vu lo hi sl Q I rx hs pl pu q => h pins s σ H x v vl vu lo hi sl Q I rx hs pl pu (i _ _ _ _ _ q)
theorem sl_all (hK : X.K = G.K) : L2.SlR X (liftSl G) := by
  refine slR_imp ((sl_list (X := X)).or ((sl_tupA (X := X)).or sl_str)) ?_
  rintro x lo hi H Q ⟨g, env, σ, ob, y, ev, s, hy, hc, k⟩
  obtain ⟨d, r⟩ := s.rd hy
  obtain ⟨ds, sm⟩ := s.n
  unfold cutX at hc
  split at hc
  · rename_i z
    split at hc
    · rename_i hz
      cases hc
      exact .inr (.inr ⟨Str.ofString z, r.2, by rw [ofString_len]; exact big_size hz, by rw [ofString_cut]; exact k g _ H (Keep.refl g H) (sm.im rfl)⟩)
    · cases hc
  · rename_i ws
    cases hc
    obtain ⟨_, p, vs, rfl, h1, r1⟩ := r
    refine .inr (.inl ⟨p, vs, rfl, SqT.of h1, fun hw => ?_, fun hw l hl => ?_⟩)
    · have e : cutA ws lo hi = ws := by
        unfold cutA
        rw [← r1.length, hw.1, hw.2, r1.length]
        simp
      rw [e] at k
      exact k g _ H (Keep.refl g H) (sm.im ⟨p, vs, rfl, h1, r1⟩)
    · have kn := Keep.new (o := .tup (cutV vs lo hi)) hl sm
      exact k g _ _ kn ((sm.new hl).im ⟨l, _, rfl, upd_same, cut_rep (r1.keep kn.kz) lo hi⟩)
  · obtain ⟨ws, h1, rfl⟩ := Option.map_eq_some_iff.mp hc
    obtain ⟨p, vs, rfl, h2, r1⟩ := rowL_rep h1 r
    refine .inl ⟨p, vs, rfl, hK ▸ h2, fun l hl => ?_⟩
    obtain ⟨kn, sn⟩ := sm.newL hl (cut_rep r1 lo hi)
    exact k g _ _ kn sn
theorem se_sl {lo hi : Option Expr} {fl fh : MO} {p2 : Pos} (he : SE G X Wx e fo) (hl : SO G X Wx lo fl) (hu : SO G X Wx hi fh) (hK : X.K = G.K := by rfl) : SE G X Wx (.Subscript e (.Slice lo hi none p2) pos) (eSl fo fl fh) := by
  refine pe_imp (pe_slice (sl_all hK) he hl hu) ?_
  rintro σ H Q ⟨g, env, ds, s, h⟩
  refine ⟨g, env, ds, s, ?_⟩
  unfold eSl at h
  cases e1 : fo env with
  | stuck => rw [e1] at h; exact h.elim
  | exc c e2 => rw [e1] at h; exact h
  | ok ob e2 =>
    simp only [e1] at h
    intro g1 v H1 k1 s1
    obtain ⟨ds1, d1, s1', r1⟩ := id s1
    obtain ⟨g2, s2, hz, pk⟩ := s1'.pend r1
    refine ⟨g2, lockE ob e2, ds1, s2, ?_⟩
    unfold pendB at h
    cases e3 : fl (lockE ob e2) with
    | stuck => simp only [e3] at h; exact h.elim
    | exc c e4 =>
      simp only [e3] at h
      intro g3 H3 k3 ⟨ds3, s3⟩
      obtain ⟨g4, _, k4, s4, _⟩ := pk g3 e4 H3 σ ds3 k3 s3
      exact h g4 H3 (k1.trans k4) ⟨ds3, s4⟩
    | ok l e4 =>
      simp only [e3] at h
      intro g3 H3 k3 ⟨ds3, s3⟩
      refine ⟨g3, e4, ds3, s3, ?_⟩
      cases e5 : fh e4 with
      | stuck => simp only [e5] at h; exact h.elim
      | exc c e6 =>
        simp only [e5] at h
        intro g5 H5 k5 ⟨ds5, s5⟩
        obtain ⟨g6, _, k6, s6, _⟩ := pk g5 e6 H5 σ ds5 (k3.trans k5) s5
        exact h g6 H5 (k1.trans k6) ⟨ds5, s6⟩
      | ok hh e6 =>
        simp only [e5] at h
        intro g5 H5 k5 ⟨ds5, s5⟩
        obtain ⟨g6, _, k6, s6, r6, _⟩ := pk g5 e6 H5 σ ds5 (k3.trans k5) s5
        by_cases ok : okE ob e6 = true
        · simp only [ok, if_true] at h
          split at h
          · rename_i ev hr
            obtain ⟨y, hy, hc⟩ := Option.bind_eq_some_iff.mp hr
            exact ⟨g6, unlE ob e6, σ, ob, y, ev, ⟨ds5, d1, s6, r6 rfl ok⟩, hy, hc, fun g' v' H' k' s' => h g' v' H' ((k1.trans k6).trans k') s'⟩
          · exact h.elim
        · simp only [ok] at h; exact h.elim
end
end VL
namespace VL
open PySem L2 PyProof.Rows
def W.flat : W → Bool
  | .non => true
  | .bl _ => true
  | .int _ => true
  | .str _ => true
  | _ => false
section
variable {X : Cx} {G : Gm} {Wx : WX} {g g' : Gh} {env env' : Env3} {σ : L2.St} {H H' : Hp} {ds : Nat → D} {p pos apos cpos : Pos} {e o a b : Expr} {es : List Expr} {fa fb fe fo : M3 EV} {t : M3 (List EV)} {Z : Addr → Prop} {x : Str}
theorem flat_rep {w : W} {v : V} (f : w.flat = true) (r : Rep G Z H w v) : flatV v = true := by
  cases w <;> try (exact (Bool.false_ne_true f).elim)
  all_goals (rw [show v = _ from r]; rfl)
theorem flats_rep : ∀ {ws : List W} {vs : List V}, ws.all W.flat = true → RepL G Z H ws vs → vs.all flatV = true
  | [], _, _, r => by rw [show _ = _ from r]; rfl
  | w :: ws, _, f, ⟨v, r, e, a, b⟩ => by
    subst e
    rw [List.all_cons, Bool.and_eq_true] at f
    rw [List.all_cons, flat_rep f.1 a, flats_rep f.2 b]; rfl
theorem eqV_rep {x y : W} {v u : V} (fx : x.flat = true) (fy : y.flat = true) (rx : Rep G Z H x v) (ry : Rep G Z H y u) : eqV v u = W.eqv x y := by
  cases x <;> try (exact (Bool.false_ne_true fx).elim)
  all_goals (rw [show v = _ from rx]; cases y <;> try (exact (Bool.false_ne_true fy).elim))
  all_goals (rw [show u = _ from ry])
  all_goals try rfl
  all_goals try (simp [eqV, W.eqv]; done)
  · rename_i s t
    by_cases e : s = t
    · subst e; simp [eqV, W.eqv]
    · have h : ¬ Str.ofString s = Str.ofString t := fun h => e (ofString_inj h)
      simp [eqV, W.eqv, e, h]
theorem flats_any {x : W} {v : V} (fx : x.flat = true) (rx : Rep G Z H x v) : ∀ {ys : List W} {vs : List V}, ys.all W.flat = true → RepL G Z H ys vs → inV v vs = ys.any fun z => W.eqv z x
  | [], _, _, r => by rw [show _ = _ from r]; rfl
  | y :: ys, _, f, ⟨u, r, e, a, b⟩ => by
    subst e
    rw [List.all_cons, Bool.and_eq_true] at f
    show (eqV u v || inV v r) = (W.eqv y x || ys.any fun z => W.eqv z x)
    rw [eqV_rep f.1 fx a rx, flats_any fx rx f.2 b]
theorem str_single {c : String} {d : Char} (h : c.toList = [d]) : Str.ofString c = ⟨#[d.toNat]⟩ := by
  rw [Str.ofString_eq_toList, h]; rfl
theorem toNat_inj {a b : Char} (h : a.toNat = b.toNat) : a = b := by
  apply Char.ext
  exact UInt32.toNat_inj.mp h
theorem sign_in {d : Char} {z : String} : decide (d.toNat ∈ (Str.ofString z).cps.toList) = decide (d ∈ z.toList) := by
  rw [ofString_cps]
  congr 1
  rw [eq_iff_iff]
  constructor
  · intro h
    obtain ⟨e, h1, h2⟩ := List.mem_map.mp h
    rw [← toNat_inj h2]; exact h1
  · intro h
    exact List.mem_map.mpr ⟨d, h, rfl⟩
def lstW : W → Option (List W)
  | .lst ys => some ys
  | .scr ys => some ys
  | _ => none
def inT (x y : T) : Option Bool := match y with
  | .im (.str z) => match x with
    | .im (.str c) => match c.toList with
      | [d] => some (decide (d ∈ z.toList))
      | _ => none
    | _ => none
  | .im (.tup ys) => match x with
    | .im w => if w.flat = true ∧ ys.all W.flat = true then some (ys.any fun z => W.eqv z w) else none
    | _ => none
  | .im (.ktp ys) => match x with
    | .im w => if w.flat = true ∧ ys.all W.flat = true then some (ys.any fun z => W.eqv z w) else none
    | _ => none
  | y => x.toW.bind fun x' => (y.toW.bind lstW).bind fun ys => if okW 64 x' = true ∧ okWs 63 ys = true then some (ys.any fun z => W.eqv z x') else none
def fIn : F2 := fun x y => (inT x y).map fun b => .im (.bl b)
def fNotIn : F2 := fun x y => (inT x y).map fun b => .im (.bl (!b))
theorem dats_any {x' : W} : ∀ {ys : List W}, okW 64 x' = true → okWs 63 ys = true → ((W.dats ys).any fun z => PyData.eqv z (W.dat x')) = ys.any fun z => W.eqv z x'
  | [], _, _ => rfl
  | y :: ys, h1, h2 => by
    simp only [okWs, Bool.and_eq_true] at h2
    simp only [W.dats, List.any_cons]
    rw [eqv_dat 63 64 y x' h2.1 h1, dats_any h1 h2.2]
theorem lst_dat {w : W} {ys : List W} (h : lstW w = some ys) : W.dat w = .list (W.dats ys) ∧ ∀ n, okWs n ys = true → okW (n + 1) w = true := by
  cases w <;> cases h
  · exact ⟨rfl, fun n h => h⟩
  · exact ⟨rfl, fun n h => h⟩
theorem in_all {neg : Bool} {x y : V} {tx ty : T} {dx dy : D} {r : Bool} {Q : V → Hp → Prop} (hK : X.K = G.K) (rx : RepT G Z H tx x dx) (ry : RepT G Z H ty y dy) (e : inT tx ty = some r) (q : Q (.bl (if neg then !r else r)) H) :
    rIn X.K neg x y H Q ∨ (∃ (c : Nat) (z : Str), x = .str ⟨#[c]⟩ ∧ y = .str z ∧ Q (.bl (if neg then !decide (c ∈ z.cps.toList) else decide (c ∈ z.cps.toList))) H) ∨
      ∃ d ds, Dp X.K H x d ∧ Dp X.K H y (.list ds) ∧ SeqAt.shaped d = true ∧ SeqAt.shaped (.list ds) = true ∧ Q (.bl (if neg then !(ds.any fun z => PyData.eqv z d) else ds.any fun z => PyData.eqv z d)) H := by
  unfold inT at e
  split at e
  · split at e
    · split at e
      · rename_i d hd
        cases e
        refine .inr (.inl ⟨d.toNat, _, ?_, ry.2, ?_⟩)
        · rw [show x = _ from rx.2, str_single hd]
        · rw [sign_in]; exact q
      · cases e
    · cases e
  · split at e
    · split at e
      · rename_i f
        cases e
        obtain ⟨_, p, vs, rfl, h1, r1⟩ := ry
        refine .inl ⟨p, vs, rfl, .inr (SqT.of h1), flat_rep f.1 rx.2, flats_rep f.2 r1, ?_⟩
        rw [flats_any f.1 rx.2 f.2 r1]; exact q
      · cases e
    · cases e
  · split at e
    · split at e
      · rename_i f
        cases e
        obtain ⟨_, p, vs, rfl, h1, r1⟩ := ry
        refine .inl ⟨p, vs, rfl, .inr (hK ▸ h1), flat_rep f.1 rx.2, flats_rep f.2 r1, ?_⟩
        rw [flats_any f.1 rx.2 f.2 r1]; exact q
      · cases e
    · cases e
  · obtain ⟨x', e1, e⟩ := Option.bind_eq_some_iff.mp e
    obtain ⟨ys, e2, e⟩ := Option.bind_eq_some_iff.mp e
    obtain ⟨y', e3, e4⟩ := Option.bind_eq_some_iff.mp e2
    split at e
    · rename_i hd
      cases e
      obtain ⟨l1, l2⟩ := lst_dat e4
      have p1 := repT_dp 64 e1 hd.1 rx
      have p2 := repT_dp 64 e3 (l2 63 hd.2) ry
      rw [l1] at p2
      rw [hK]
      refine .inr (.inr ⟨_, _, p1, p2, dat_shaped hd.1, by rw [← l1]; exact dat_shaped (l2 63 hd.2), ?_⟩)
      rw [dats_any hd.1 hd.2]; exact q
    · cases e
theorem op_fNotIn (hK : X.K = G.K) (hu : X.A.units + 65 < cLine) : OpR X (compareOp .NotIn) (liftR G fNotIn) := by
  refine opR_imp (opR_or (op_notIn_seq (X := X)) (opR_or op_notIn_sign (op_notInD hu))) ?_
  rintro x y H Q ⟨g, env, σ, ds, tx, ty, dx, dy, ev, s, rx, ry, q, k⟩
  obtain ⟨r, e, rfl⟩ := Option.map_eq_some_iff.mp q
  exact in_all (neg := true) hK rx ry e (k g _ H (Keep.refl g H) (s.im rfl))
def tyT : T → Option String
  | .im .non => some "NoneType"
  | .im (.bl _) => some "bool"
  | .im (.int _) => some "int"
  | .im (.str _) => some "str"
  | .im (.tup _) => some "tuple"
  | .im (.lst _) => some "list"
  | .im (.scr _) => some "list"
  | .ml _ => some "list"
  | .tp _ => some "tuple"
  | _ => none
def isB (a b : String) : Bool := decide (a = b) || (decide (a = "bool") && decide (b = "int"))
theorem kitB_tab : ∀ a ∈ ["NoneType", "bool", "int", "str", "tuple", "list"], ∀ b ∈ ["int", "bool", "str", "list", "tuple"], kitB a b = some (isB a b) := by decide +kernel
theorem tyT_in {x : T} {a : String} (h : tyT x = some a) : a ∈ ["NoneType", "bool", "int", "str", "tuple", "list"] := by
  unfold tyT at h
  split at h <;> cases h <;> simp
theorem sqT_ty {K : PySem.W.Frag} {H : Hp} {p : Addr} {vs : List V} (h : SqT K H p vs) : TyX K H (.ref p) (.type "tuple") := by
  rcases h with (h | ⟨o, h⟩) | ⟨o, its, n, h1, h2, _⟩
  · exact .base (.tup h)
  · exact .fTuple h
  · exact .kTuple h1 h2
theorem tyT_rep {x : T} {v : V} {d : D} {a : String} (h : tyT x = some a) (r : RepT G Z H x v d) : TyX G.K H v (.type a) := by
  unfold tyT at h
  split at h <;> cases h
  · rw [show v = _ from r.2]; exact .base .non
  · rw [show v = _ from r.2]; exact .base (.bl _)
  · rw [show v = _ from r.2]; exact .base (.int _)
  · rw [show v = _ from r.2]; exact .base (.str _)
  · obtain ⟨_, p, vs, rfl, h1, _⟩ := r; exact sqT_ty (SqT.of h1)
  · obtain ⟨_, p, vs, rfl, _, h1, _⟩ := r; exact .base (.lst h1)
  · obtain ⟨_, p, vs, rfl, h1, _⟩ := r
    rcases h1 with ⟨o, h1⟩ | ⟨o, its, n, h1, h2, _⟩
    · exact .base (.frz h1)
    · exact .kList h1 h2
  · obtain ⟨p, vs, ds, rfl, _, h1, _⟩ := r; exact .base (.lst h1)
  · obtain ⟨p, vs, ds, rfl, _, h1, _⟩ := r; exact sqT_ty (SqT.of h1)
def isiE (r : T → Option Bool) (fe : M3 EV) : M3 EV := fun env => match fe env with
  | .ok ev e => (match (rd e ev).bind r with
    | some b => .ok (.im (.bl b)) e
    | none => .stuck)
  | .exc c e => .exc c e
  | .stuck => .stuck
abbrev eIsi (b : String) (fe : M3 EV) : M3 EV := isiE (fun x => (tyT x).map fun a => isB a b) fe
theorem isi_mid {r : T → Option Bool} {σ : L2.St} {H : Hp} {Q : VK} (h : liftE G Wx (isiE r fe) σ H Q) : liftE G Wx fe σ H fun v H1 => ∃ Z x d b, RepT G Z H1 x v d ∧ r x = some b ∧ Q (.bl b) H1 := by
  obtain ⟨g, env, ds, s, h⟩ := h
  refine ⟨g, env, ds, s, ?_⟩
  unfold isiE at h
  cases e1 : fe env with
  | stuck => rw [e1] at h; exact h.elim
  | exc c e2 => rw [e1] at h; exact h
  | ok ev e2 =>
    simp only [e1] at h
    intro g1 v H1 k1 s1
    split at h
    · rename_i b hb
      obtain ⟨x, hx, hr⟩ := Option.bind_eq_some_iff.mp hb
      obtain ⟨d, rx⟩ := s1.rd hx
      exact ⟨g1.Z, x, d, b, rx, hr, h g1 _ H1 k1 (s1.n.im rfl)⟩
    · exact h.elim
theorem se_isi {b : String} (hg : Gl X "isinstance") (hm : X.mg "isinstance" = none) (hgb : Gl X (Str.ofString b)) (hmb : X.mg (Str.ofString b) = none) (hv : bootBuiltins (Str.ofString b) = some (.type b)) (hb : b ∈ ["int", "bool", "str", "list", "tuple"]) (he : SE G X Wx e fe)
    {p2 : Pos} (hK : X.K = G.K := by rfl) (hn : (Str.ofString b) ≠ "__name__" := by decide) (hdb : ((Str.ofString b) == ("__debug__" : Str)) = false := by decide)
    (hst : starEach [e, .Name (Str.ofString b) p2] X.env = (false, eval e X.env) :: starEach [.Name (Str.ofString b) p2] X.env := by rfl) (hst2 : starEach [.Name (Str.ofString b) p2] X.env = (false, eval (.Name (Str.ofString b) p2) X.env) :: starEach [] X.env := by rfl)
    (hpl : (backTo pos (starEach [.Name (Str.ofString b) p2] X.env)).any (·.1) = false := by rfl) :
    SE G X Wx (.Call (.Name "isinstance" p) [e, .Name (Str.ofString b) p2] [] pos) (eIsi b fe) := by
  refine pe_imp (pe_callB call_isi hg hm (by decide +kernel) (pa_cons he (pa_cons (pe_bltn (v := .ty b) hgb hmb hv rfl hn hdb) pa_nil hst2) hst) (by decide) (by decide) hst hpl) ?_
  intro σ H Q h
  have h' := isi_mid h
  obtain ⟨g, env, ds, s, h'⟩ := h'
  refine ⟨g, env, ds, s, ?_⟩
  cases e1 : fe env with
  | stuck => rw [e1] at h'; exact h'
  | exc c e2 => rw [e1] at h'; exact h'
  | ok ev e2 =>
    rw [e1] at h'
    intro g1 v H1 k1 s1
    obtain ⟨Z, x, d, b', rx, hr, q⟩ := h' g1 v H1 k1 s1
    obtain ⟨a, ha, rfl⟩ := Option.map_eq_some_iff.mp hr
    exact ⟨v, .ty b, .type a, .type b, isB a b, rfl, .ty b, hK ▸ tyT_rep ha rx, kit_ty (kitB_tab a (tyT_in ha) b hb), q⟩
structure ExcS (X : Cx) (G : Gm) (C : String) : Prop where
  q : PySem.W.excIn X.K (G.cA C) He.veBase "ValueError.__new__" = true
  gC : X.mg (Str.ofString C) = some (.ref (G.cA C))
  kC : PySem.W.keepIn X.K (.ref (G.cA C)) = true
  bm : PySem.W.subIn X.K (.ref (G.cA C)) (.type "BaseException") = some true
  ty : PySem.W.typeIn X.K (.ref (G.cA C)) = some (.type "type")
def sRaise (C : String) : S3 := fun env => .ex C env
theorem ss_raise {C : String} {m : Str} {j : Nat} {p2 : Pos} (c : ExcS X G C) (hc : X.calm = true) (tk : Takes X Wx) (hg : Gl X (Str.ofString C)) (hdb : (Str.ofString C == ("__debug__" : Str)) = false := by decide) :
    SS G X Wx (.Raise (some (.Call (.Name (Str.ofString C) p) [.Constant (.str m) j p2] [] apos)) none pos) (sRaise C) := by
  refine ps_imp (ps_raise hc tk (pmk_own PySem.F.excBase_ValueError c.q c.gC c.kC (raises_own c.bm c.ty) hg hdb)) ?_
  rintro D σ H ⟨g, env, ds, s, h⟩
  exact h g σ H (Keep.refl g H) ⟨ds, s⟩
def itemsE (ob : EV) (xs : List T) : Option (List EV) := match ob with
  | .ptr k π => some (xs.mapIdx fun i c => kidEV (.ptr k π) (.idx i) c)
  | _ => (allI xs).map fun ws => ws.map EV.im
theorem hold_row {ob : EV} {v : V} {x : T} {xs : List T} {items : List EV} {g1 : Gh} {env0 : Env3} {H1 : Hp} (hx : rd env0 ob = some x) (hxs : seqT x = some xs) (hit : itemsE ob xs = some items) (h : HoldR G g1 env0 H1 ob v) :
    ∃ p vs, v = .ref p ∧ vs.length = items.length ∧ ((isList x = true ∧ SqL G.K H1 p vs) ∨ (isList x = false ∧ SqT G.K H1 p vs)) ∧
      ∀ g env σ H, KeepW g1 H1 g H → SimN G g env σ H → ((isList x = true ∧ SqL G.K H p vs) ∨ (isList x = false ∧ SqT G.K H p vs)) ∧ ∀ (i : Nat) it, items[i]? = some it → ∃ u, vs[i]? = some u ∧ (okI it env = true → SimE G g env σ H it u) := by
  have imCase : ∀ {p : Addr} {vs : List V} {ws : List W} {g : Gh} {env : Env3} {σ : L2.St} {H : Hp}, KeepW g1 H1 g H → SimN G g env σ H → RepL G g1.Z H1 ws vs → ∀ (i : Nat) it, (ws.map EV.im)[i]? = some it → ∃ u, vs[i]? = some u ∧ (okI it env = true → SimE G g env σ H it u) := fun k s r i it hi => by
    rw [List.getElem?_map] at hi
    obtain ⟨w, h1, rfl⟩ := Option.map_eq_some_iff.mp hi
    obtain ⟨u, h2, h3⟩ := r.get h1
    exact ⟨u, h2, fun _ => s.im (h3.keep k.kz)⟩
  cases ob with
  | im w =>
    cases hx
    obtain ⟨ws, h1, rfl⟩ := Option.map_eq_some_iff.mp (show (seqW w).map (fun ws => ws.map T.im) = some xs from hxs)
    obtain ⟨ws', h2, rfl⟩ := Option.map_eq_some_iff.mp (show (allI (ws.map T.im)).map (fun ws => ws.map EV.im) = some items from hit)
    have : ∀ zs : List W, allI (zs.map T.im) = some zs := fun zs => by
      induction zs with
      | nil => rfl
      | cons z r ih => simp only [List.map_cons, allI, ih, Option.map_some]
    rw [this] at h2; cases h2
    have h' : Rep G g1.Z H1 w v := h
    cases w with
    | tup zs =>
      cases h1
      obtain ⟨p, vs, rfl, q1, r1⟩ := h'
      exact ⟨p, vs, rfl, by rw [r1.length]; simp, .inr ⟨rfl, SqT.of q1⟩, fun g env σ H k s => ⟨.inr ⟨rfl, SqT.of (k.tups _ _ q1)⟩, imCase (p := p) k s r1⟩⟩
    | lst zs =>
      cases h1
      obtain ⟨p, vs, rfl, z1, q1, r1⟩ := h'
      exact ⟨p, vs, rfl, by rw [r1.length]; simp, .inl ⟨rfl, .inl (.inl q1)⟩, fun g env σ H k s => ⟨.inl ⟨rfl, .inl (.inl ((k.z p z1).2.trans q1))⟩, imCase (p := p) k s r1⟩⟩
    | scr zs =>
      cases h1
      obtain ⟨p, vs, rfl, q1, r1⟩ := h'
      exact ⟨p, vs, rfl, by rw [r1.length]; simp, .inl ⟨rfl, q1.seq⟩, fun g env σ H k s => ⟨.inl ⟨rfl, SqF.seq (q1.imp (fun ⟨o, q⟩ => ⟨o, k.frzs.f _ _ _ q⟩) id)⟩, imCase (p := p) k s r1⟩⟩
    | ktp zs =>
      cases h1
      obtain ⟨p, vs, rfl, q1, r1⟩ := h'
      exact ⟨p, vs, rfl, by rw [r1.length]; simp, .inr ⟨rfl, q1⟩, fun g env σ H k s => ⟨.inr ⟨rfl, sqT_keep k.kz q1⟩, imCase (p := p) k s r1⟩⟩
    | _ => cases h1
  | tmp t =>
    cases hx
    obtain ⟨ws, h2, rfl⟩ := Option.map_eq_some_iff.mp (show (allI xs).map (fun ws => ws.map EV.im) = some items from hit)
    obtain ⟨d, r, hp⟩ := h
    cases x with
    | ml ys =>
      cases hxs
      obtain ⟨p, vs, dl, rfl, rfl, q1, r1⟩ := r
      have r2 := allI_rep h2 r1
      exact ⟨p, vs, rfl, by rw [r2.length]; simp, .inl ⟨rfl, .inl (.inl q1)⟩, fun g env σ H k s => ⟨.inl ⟨rfl, .inl (.inl ((k.p p (hp p (by simp [fp]))).2.trans q1))⟩, imCase (p := p) k s r2⟩⟩
    | tp ys =>
      cases hxs
      obtain ⟨p, vs, dl, rfl, rfl, q1, r1⟩ := r
      have r2 := allI_rep h2 r1
      exact ⟨p, vs, rfl, by rw [r2.length]; simp, .inr ⟨rfl, SqT.of q1⟩, fun g env σ H k s => ⟨.inr ⟨rfl, SqT.of (k.tups _ _ q1)⟩, imCase (p := p) k s r2⟩⟩
    | im w =>
      obtain ⟨ws', h1, rfl⟩ := Option.map_eq_some_iff.mp (show (seqW w).map (fun ws => ws.map T.im) = some xs from hxs)
      have : ∀ zs : List W, allI (zs.map T.im) = some zs := fun zs => by
        induction zs with
        | nil => rfl
        | cons z r ih => simp only [List.map_cons, allI, ih, Option.map_some]
      rw [this] at h2; cases h2
      have h' : Rep G g1.Z H1 w v := r.2
      cases w with
      | tup zs =>
        cases h1
        obtain ⟨p, vs, rfl, q1, r1⟩ := h'
        exact ⟨p, vs, rfl, by rw [r1.length]; simp, .inr ⟨rfl, SqT.of q1⟩, fun g env σ H k s => ⟨.inr ⟨rfl, SqT.of (k.tups _ _ q1)⟩, imCase (p := p) k s r1⟩⟩
      | lst zs =>
        cases h1
        obtain ⟨p, vs, rfl, z1, q1, r1⟩ := h'
        exact ⟨p, vs, rfl, by rw [r1.length]; simp, .inl ⟨rfl, .inl (.inl q1)⟩, fun g env σ H k s => ⟨.inl ⟨rfl, .inl (.inl ((k.z p z1).2.trans q1))⟩, imCase (p := p) k s r1⟩⟩
      | scr zs =>
        cases h1
        obtain ⟨p, vs, rfl, q1, r1⟩ := h'
        exact ⟨p, vs, rfl, by rw [r1.length]; simp, .inl ⟨rfl, q1.seq⟩, fun g env σ H k s => ⟨.inl ⟨rfl, SqF.seq (q1.imp (fun ⟨o, q⟩ => ⟨o, k.frzs.f _ _ _ q⟩) id)⟩, imCase (p := p) k s r1⟩⟩
      | ktp zs =>
        cases h1
        obtain ⟨p, vs, rfl, q1, r1⟩ := h'
        exact ⟨p, vs, rfl, by rw [r1.length]; simp, .inr ⟨rfl, q1⟩, fun g env σ H k s => ⟨.inr ⟨rfl, sqT_keep k.kz q1⟩, imCase (p := p) k s r1⟩⟩
      | _ => cases h1
    | md _ => cases hxs
    | mt _ => cases hxs
    | mi _ _ => cases hxs
  | ptr k0 π =>
    obtain ⟨a, x0, e0, rfl, lk, hx0, r⟩ := h
    rw [hx] at hx0; cases hx0
    cases hit
    have kids : ∀ {us : List V} {dl : List D} {g : Gh} {env : Env3} {σ : L2.St} {H : Hp}, KeepW g1 H1 g H → SimN G g env σ H → RepTL G g1.Z H1 xs us dl → (∀ t c d, t.getP [] = some t → RepT G g.Z H t (.ref a) d → ∀ n, t.kid (.idx n) = some c → c.mut = true → ∃ u dc, us[n]? = some u ∧ RepT G g.Z H c u dc ∧ adr t d [.idx n] = adr c dc []) →
        ∀ (i : Nat) it, (xs.mapIdx fun i c => kidEV (.ptr k0 π) (.idx i) c)[i]? = some it → ∃ u, us[i]? = some u ∧ (okI it env = true → SimE G g env σ H it u) := fun {us dl g env σ H} k s r kid i it hi => by
      rw [List.getElem?_mapIdx] at hi
      obtain ⟨c, h1, rfl⟩ := Option.map_eq_some_iff.mp hi
      obtain ⟨u, dc, h2, h3, h4⟩ := r.get h1
      refine ⟨u, h2, fun ok => ?_⟩
      have isPtr : c.mut = true → SimE G g env σ H (.ptr k0 (π ++ [.idx i])) u := fun hm => by
        have ok' : okI (.ptr k0 (π ++ [.idx i])) env = true := by
          cases c with
          | im w => cases hm
          | _ => exact ok
        obtain ⟨ds, s⟩ := s
        unfold okI at ok'
        cases e : env[k0]? with
        | none => simp [VL.rd, e] at ok'
        | some oo =>
          cases oo with
          | none => simp [VL.rd, e] at ok'
          | some sv =>
            cases sv with
            | own p L t =>
              simp only [VL.rd, e] at ok'
              obtain ⟨v', o1, o2, o3, o4, o5, o6⟩ := s.own _ _ _ _ e
              have ha := o6 (π, a) (by rw [k.lk]; exact lk)
              obtain ⟨y, hy⟩ := getP_of_adr ha
              obtain ⟨uu, ey, out, r1, r2, r3, _⟩ := o2.lens hy
              have hr := r3 []
              rw [List.append_nil, ha] at hr
              rw [adr_val r1 hr.symm] at r1
              have gP : ∀ (ρ : Path) (t y : T), t.getP ρ = some y → t.getP (ρ ++ [.idx i]) = y.kid (.idx i) := fun ρ => by
                induction ρ with
                | nil => intro t y h; cases h; show (t.kid _).bind (fun c => c.getP []) = _; cases t.kid (.idx i) <;> rfl
                | cons st ρ ih =>
                  intro t y h
                  obtain ⟨c, c1, c2⟩ := Option.bind_eq_some_iff.mp (show (t.kid st).bind (fun c => c.getP ρ) = some y from h)
                  show (t.kid st).bind (fun c => c.getP (ρ ++ [.idx i])) = _
                  rw [c1]
                  exact ih c y c2
              rw [gP π t y hy] at ok'
              cases e2 : y.kid (.idx i) with
              | none => rw [e2] at ok'; cases ok'
              | some c2 =>
                rw [e2] at ok'
                obtain ⟨u2, dc2, w1, w2, w3⟩ := kid y c2 ey rfl r1 i e2 ok'
                rw [h2] at w1; cases w1
                obtain ⟨b, b1, b2⟩ := adr_root w2 ok'
                refine ⟨ds, .z, s, rfl, b, p, L, t, b2, e, ?_⟩
                rw [r3 [.idx i], w3]; exact b1
            | _ => simp [VL.rd, e] at ok'
      cases c with
      | im w => exact s.im (h4.2.keep k.kz)
      | _ => exact isPtr rfl
    cases x with
    | ml ys =>
      cases hxs
      obtain ⟨p, vs, dl, e, rfl, q1, r1⟩ := r
      cases e
      refine ⟨a, vs, rfl, by rw [r1.len.1]; simp, .inl ⟨rfl, .inl (.inl q1)⟩, fun g env σ H k s => ?_⟩
      have hH : H a = some (.lst vs) := (k.l k0 (π, a) lk).trans q1
      refine ⟨.inl ⟨rfl, .inl (.inl hH)⟩, kids k s r1 fun t c d _ rt n hk hm => ?_⟩
      cases t with
      | ml zs =>
        obtain ⟨p2, vs2, dl2, e2, rfl, q2, r2⟩ := rt
        cases e2
        rw [hH] at q2; cases q2
        have hk' : zs[n]? = some c := hk
        obtain ⟨u, dc, h2, h3, h4⟩ := r2.get hk'
        exact ⟨u, dc, h2, h4, by simp only [adr, T.pos, T.kids, Option.bind_some, hk', h3]⟩
      | tp zs =>
        obtain ⟨p2, vs2, dl2, e2, rfl, q2, r2⟩ := rt
        cases e2
        rw [hH] at q2; cases q2
      | im w => cases hk
      | md _ => cases hk
      | mt _ => cases hk
      | mi _ _ => cases hk
    | tp ys =>
      cases hxs
      obtain ⟨p, vs, dl, e, rfl, q1, r1⟩ := r
      cases e
      refine ⟨a, vs, rfl, by rw [r1.len.1]; simp, .inr ⟨rfl, SqT.of q1⟩, fun g env σ H k s => ?_⟩
      have hH : H a = some (.tup vs) := k.tups _ _ q1
      refine ⟨.inr ⟨rfl, SqT.of hH⟩, kids k s r1 fun t c d _ rt n hk hm => ?_⟩
      cases t with
      | ml zs =>
        obtain ⟨p2, vs2, dl2, e2, rfl, q2, r2⟩ := rt
        cases e2
        rw [hH] at q2; cases q2
      | tp zs =>
        obtain ⟨p2, vs2, dl2, e2, rfl, q2, r2⟩ := rt
        cases e2
        rw [hH] at q2; cases q2
        have hk' : zs[n]? = some c := hk
        obtain ⟨u, dc, h2, h3, h4⟩ := r2.get hk'
        exact ⟨u, dc, h2, h4, by simp only [adr, T.pos, T.kids, Option.bind_some, hk', h3]⟩
      | im w => cases hk
      | md _ => cases hk
      | mt _ => cases hk
      | mi _ _ => cases hk
    | im w =>
      obtain ⟨ws, h1, rfl⟩ := Option.map_eq_some_iff.mp (show (seqW w).map (fun ws => ws.map T.im) = some xs from hxs)
      have h' : Rep G g1.Z H1 w (.ref a) := r.2
      have noKid : ∀ {vs : List V} {g : Gh} {env : Env3} {σ : L2.St} {H : Hp}, KeepW g1 H1 g H → SimN G g env σ H → RepL G g1.Z H1 ws vs → ∀ (i : Nat) it, ((ws.map T.im).mapIdx fun i c => kidEV (.ptr k0 π) (.idx i) c)[i]? = some it → ∃ u, vs[i]? = some u ∧ (okI it env = true → SimE G g env σ H it u) := fun k s r i it hi => by
        rw [List.getElem?_mapIdx, List.getElem?_map] at hi
        obtain ⟨c, h1, rfl⟩ := Option.map_eq_some_iff.mp hi
        obtain ⟨w', h2, rfl⟩ := Option.map_eq_some_iff.mp h1
        obtain ⟨u, h3, h4⟩ := r.get h2
        exact ⟨u, h3, fun _ => s.im (h4.keep k.kz)⟩
      cases w with
      | tup zs =>
        cases h1
        obtain ⟨p, vs, e, q1, r1⟩ := h'
        cases e
        exact ⟨a, vs, rfl, by rw [r1.length]; simp, .inr ⟨rfl, SqT.of q1⟩, fun g env σ H k s => ⟨.inr ⟨rfl, SqT.of (k.tups _ _ q1)⟩, noKid k s r1⟩⟩
      | lst zs =>
        cases h1
        obtain ⟨p, vs, e, z1, q1, r1⟩ := h'
        cases e
        exact ⟨a, vs, rfl, by rw [r1.length]; simp, .inl ⟨rfl, .inl (.inl q1)⟩, fun g env σ H k s => ⟨.inl ⟨rfl, .inl (.inl ((k.z a z1).2.trans q1))⟩, noKid k s r1⟩⟩
      | scr zs =>
        cases h1
        obtain ⟨p, vs, e, q1, r1⟩ := h'
        cases e
        exact ⟨a, vs, rfl, by rw [r1.length]; simp, .inl ⟨rfl, q1.seq⟩, fun g env σ H k s => ⟨.inl ⟨rfl, SqF.seq (q1.imp (fun ⟨o, q⟩ => ⟨o, k.frzs.f _ _ _ q⟩) id)⟩, noKid k s r1⟩⟩
      | ktp zs =>
        cases h1
        obtain ⟨p, vs, e, q1, r1⟩ := h'
        cases e
        exact ⟨a, vs, rfl, by rw [r1.length]; simp, .inr ⟨rfl, q1⟩, fun g env σ H k s => ⟨.inr ⟨rfl, sqT_keep k.kz q1⟩, noKid k s r1⟩⟩
      | _ => cases h1
    | md _ => cases hxs
    | mt _ => cases hxs
    | mi _ _ => cases hxs
end
end VL
namespace VL
open PySem L2 PyProof.Rows
def iAnyH (K : PySem.W.Frag) (tl : TE) : TI := fun σ H R => tl σ H fun x H1 => (∃ a, x = .ref a ∧ (∃ ys, SqL K H1 a ys) ∧ R (Itl K a) H1) ∨ (∃ a, x = .ref a ∧ (∃ ys, SqT K H1 a ys) ∧ R (Itt K a) H1) ∨ ∃ z, x = .str z ∧ R (Its z) H1
theorem pi_any {X : Cx} {tg l : Expr} {tl : TE} (hl : PE X l tl) : PI X tg l (iAnyH X.K tl) := by
  refine ⟨fun pins s σ H R I h => ?_⟩
  refine thn (hl.run pins s σ H _ I h) fun u s2 ⟨x, H2, I2, ru, q1⟩ => ?_
  rcases q1 with ⟨c, e, ⟨ys, hq⟩, q⟩ | ⟨c, e, ⟨ys, hq⟩, q⟩ | ⟨z, ez, q⟩
  · subst e
    cases ru
    obtain ⟨its, rv, pl, hz⟩ := I2.list hq
    refine wpAny_pyIter_list pl.isList ?_
    refine ⟨s2.heap.objs.size, [s2.heap.objs.size], _, _, H2, rfl, I2.kept (t' := s2.toks) fun b o eo => Heap.get?_push_of_some _ eo, turn_list c _, ⟨_, Heap.get?_push_size _ rfl, rfl, rfl⟩, fun d hd => ?_, q⟩
    have ed : d = s2.heap.objs.size := by simpa using hd
    subst ed
    exact I2.fpOk (Nat.le_refl _) (I2.hok.fresh (Nat.le_refl _))
  · subst e
    cases ru
    obtain ⟨its, rv, pl, hz⟩ := I2.tuple hq
    refine wpAny_pyIter_tuple (show s2.heap.IsTuple c its.toArray from pl) ?_
    refine ⟨s2.heap.objs.size, [s2.heap.objs.size], _, _, H2, rfl, I2.kept (t' := s2.toks) fun b o eo => Heap.get?_push_of_some _ eo, turn_tuple c _, ⟨_, Heap.get?_push_size _ rfl, rfl, rfl⟩, fun d hd => ?_, q⟩
    have ed : d = s2.heap.objs.size := by simpa using hd
    subst ed
    exact I2.fpOk (Nat.le_refl _) (I2.hok.fresh (Nat.le_refl _))
  · subst ez
    obtain ⟨tk, rfl⟩ := ru
    cases hall : z.cps.all (· < 128)
    · exact wpAny_pyIter_wide hall (pi_one (tk := s2.toks) I2 _ (turn_str _ z tk "str_iterator" (.inr rfl)) ⟨_, Heap.get?_push_size _ rfl, rfl, rfl⟩ q)
    · exact wpAny_pyIter_ascii hall (pi_one (tk := s2.toks) I2 _ (turn_str _ z tk "str_ascii_iterator" (.inl rfl)) ⟨_, Heap.get?_push_size _ rfl, rfl, rfl⟩ q)
section
variable {X : Cx} {G : Gm} {Wx : WX} {g g' : Gh} {env env' : Env3} {σ : L2.St} {H H' : Hp} {ds : Nat → D} {p pos apos cpos : Pos} {e o a b : Expr} {es : List Expr} {fa fb fe fo : M3 EV} {t : M3 (List EV)} {Z : Addr → Prop} {x : Str}
theorem itR_str {g0 : Gh} {H0 : Hp} {z : String} : ItR G (Its (Str.ofString z)) g0 H0 (z.toList.map fun c => EV.im (.str (String.singleton c))) := by
  intro g env σ H k s
  have hs : (Str.ofString z).cps.size = z.toList.length := by
    rw [← Array.length_toList, ofString_cps, List.length_map]
  refine ⟨by show (Str.ofString z).cps.size ≤ _; rw [hs]; simp, fun i x hx => ?_⟩
  rw [List.getElem?_map] at hx
  obtain ⟨c, hc, rfl⟩ := Option.map_eq_some_iff.mp hx
  refine ⟨by show i < (Str.ofString z).cps.size; rw [hs]; exact (List.getElem?_eq_some_iff.mp hc).1, fun v H' y => ?_⟩
  obtain ⟨rfl, n, hn, rfl⟩ := y
  refine ⟨g, Keep.refl _ _, s, fun _ => s.im ?_⟩
  show V.str _ = V.str _
  rw [ofString_single]
  rw [← Array.getElem?_toList, ofString_cps, List.getElem?_map, hc] at hn
  cases hn
  rfl
def rowI (o : EV) (env : Env3) : Option IV := (rd env o).bind fun x => match x with
  | .im (.str z) => some ⟨z.toList.map fun c => EV.im (.str (String.singleton c)), []⟩
  | x => (seqT x).bind fun xs => (itemsE o xs).map fun is => ⟨is, [o]⟩
def iRow (fo : M3 EV) : M3 IV := fun env => match fo env with
  | .ok o e => (match rowI o e with
    | some iv => .ok iv e
    | none => .stuck)
  | .exc c e => .exc c e
  | .stuck => .stuck
theorem tupV {x : T} {v : V} {d : D} {xs : List T} (h : isList x = false) (hs : seqT x = some xs) (r : RepT G Z H x v d) : ∃ p vs, v = .ref p ∧ SqT G.K H p vs := by
  cases x with
  | ml _ => cases h
  | tp ys => obtain ⟨p, vs, dl, rfl, _, q, _⟩ := r; exact ⟨p, vs, rfl, SqT.of q⟩
  | im w =>
    cases w with
    | tup ws => obtain ⟨_, p, vs, rfl, q, _⟩ := r; exact ⟨p, vs, rfl, SqT.of q⟩
    | ktp ws => obtain ⟨_, p, vs, rfl, q, _⟩ := r; exact ⟨p, vs, rfl, q⟩
    | lst _ => cases h
    | scr _ => cases h
    | _ => cases hs
  | _ => cases hs
theorem row_sat {o : EV} {v : V} {iv : IV} {R : It → Hp → Prop} (hK : X.K = G.K) (s : SimE G g env σ H o v) (h : rowI o env = some iv) (k : ∀ g' vs H' J, Keep g H g' H' → SimA G g' env σ H' iv.hold vs → (∀ g1, g1.Z = g'.Z → HoldL G g1 env H' iv.hold vs → ItR G J g1 H' iv.items) → R J H') :
    (∃ a, v = .ref a ∧ (∃ ys, SqL X.K H a ys) ∧ R (Itl X.K a) H) ∨ (∃ a, v = .ref a ∧ (∃ ys, SqT X.K H a ys) ∧ R (Itt X.K a) H) ∨ ∃ z, v = .str z ∧ R (Its z) H := by
  unfold rowI at h
  obtain ⟨x, hx, h⟩ := Option.bind_eq_some_iff.mp h
  split at h
  · cases h
    obtain ⟨d, r⟩ := s.rd hx
    exact .inr (.inr ⟨_, r.2, k g [] H _ (Keep.refl g H) (SimA.nil_of s.n) fun _ _ _ => itR_str⟩)
  · obtain ⟨xs, h1, h⟩ := Option.bind_eq_some_iff.mp h
    obtain ⟨is, h2, rfl⟩ := Option.map_eq_some_iff.mp h
    obtain ⟨d, r⟩ := s.rd hx
    obtain ⟨p, us, dl, rfl, hs, _⟩ := seqT_rep h1 r
    by_cases hl : isList x = true
    · obtain ⟨p', ys, e, h3⟩ := listV hl r
      cases e
      refine .inl ⟨p, rfl, ⟨ys, hK ▸ h3⟩, k g [.ref p] H _ (Keep.refl g H) (SimA.one s) fun g1 hz hh => ?_⟩
      obtain ⟨v', vr, e, hh, _⟩ := hh
      cases e
      obtain ⟨q, vs, e1, e2, _, e4⟩ := hold_row hx h1 h2 hh
      cases e1
      intro g2 env2 σ2 H2 k2 s2
      obtain ⟨m1, m2⟩ := e4 g2 env2 σ2 H2 k2 s2
      have m1 : SqL X.K H2 p vs := by
        rcases m1 with ⟨_, m1⟩ | ⟨m1, _⟩
        · exact hK ▸ m1
        · rw [hl] at m1; cases m1
      refine ⟨⟨vs, m1, by rw [e2]; exact Nat.le_refl _⟩, fun i it hi => ?_⟩
      obtain ⟨u, w1, w2⟩ := m2 i it hi
      refine ⟨⟨vs, u, m1, w1⟩, fun v' H' y => ?_⟩
      obtain ⟨rfl, y⟩ := y
      have := y vs m1
      rw [w1] at this; cases this
      exact ⟨g2, Keep.refl _ _, s2, w2⟩
    · have hl' : isList x = false := by cases q : isList x <;> simp_all
      obtain ⟨p', ys, e, h3⟩ := tupV hl' h1 r
      cases e
      refine .inr (.inl ⟨p, rfl, ⟨ys, hK ▸ h3⟩, k g [.ref p] H _ (Keep.refl g H) (SimA.one s) fun g1 hz hh => ?_⟩)
      obtain ⟨v', vr, e, hh, _⟩ := hh
      cases e
      obtain ⟨q, vs, e1, e2, _, e4⟩ := hold_row hx h1 h2 hh
      cases e1
      intro g2 env2 σ2 H2 k2 s2
      obtain ⟨m1, m2⟩ := e4 g2 env2 σ2 H2 k2 s2
      have m1 : SqT X.K H2 p vs := by
        rcases m1 with ⟨m1, _⟩ | ⟨_, m1⟩
        · rw [hl'] at m1; cases m1
        · exact hK ▸ m1
      refine ⟨⟨vs, m1, by rw [e2]; exact Nat.le_refl _⟩, fun i it hi => ?_⟩
      obtain ⟨u, w1, w2⟩ := m2 i it hi
      refine ⟨⟨vs, u, m1, w1⟩, fun v' H' y => ?_⟩
      obtain ⟨rfl, y⟩ := y
      have := y vs m1
      rw [w1] at this; cases this
      exact ⟨g2, Keep.refl _ _, s2, w2⟩
theorem si_row {tg : Expr} (he : SE G X Wx e fe) (hK : X.K = G.K := by rfl) : SI G X Wx tg e (iRow fe) := by
  refine ⟨fun pins s0 σ H R I h => (pi_any (tg := tg) he).run pins s0 σ H R I ?_⟩
  obtain ⟨g, env, ds, s, h⟩ := h
  refine ⟨g, env, ds, s, ?_⟩
  unfold iRow at h
  cases e1 : fe env with
  | stuck => rw [e1] at h; exact h.elim
  | exc c e2 => rw [e1] at h; exact h
  | ok ob e2 =>
    simp only [e1] at h
    intro g1 v H1 k1 s1
    split at h
    · rename_i iv hv
      exact row_sat hK s1 hv fun g' vs H' J k' s' hI => h g' vs H' J (k1.trans k') s' hI
    · exact h.elim
end
end VL
namespace VL
open PySem L2 PyProof.Rows
section
variable {X : Cx} {G : Gm} {Wx : WX} {g g' : Gh} {env env' : Env3} {σ : L2.St} {H H' : Hp} {ds : Nat → D} {Z : Addr → Prop}
def wipeE : List Nat → Env3 → Option Env3
  | [], env => some env
  | v :: vs, env => match env[v]? with
    | some (some (SV.own _ _ _)) => none
    | _ => wipeE vs (env.set v none)
def restE (env0 : Env3) : List Nat → Env3 → Env3
  | [], env => env
  | v :: vs, env => match env0[v]?, env[v]? with
    | some (some (SV.val w)), some none => restE env0 vs (env.set v (some (SV.val w)))
    | _, _ => restE env0 vs env
theorem Sim.unset (s : Sim G g env σ H ds) {i : Nat} (hn : ∀ p L t, env[i]? ≠ some (some (SV.own p L t))) (x : Option V) : Sim G g (env.set i none) (σ.set i x) H ds := by
  have un : ∀ (j : Nat) y, (env.set i none)[j]? = some (some y) → j ≠ i ∧ env[j]? = some (some y) := fun j y e => by
    by_cases hj : j = i
    · subst hj
      rw [List.getElem?_set] at e
      simp only [if_true] at e
      split at e <;> cases e
    · rw [List.getElem?_set_ne (Ne.symm hj)] at e
      exact ⟨hj, e⟩
  have gn : ∀ j, j ≠ i → (σ.set i x)[j]? = σ[j]? := fun j h => List.getElem?_set_ne (Ne.symm h)
  refine ⟨by simp [s.len], fun j w e => ?_, fun j p L t e => ?_, fun j k π e => ?_, fun j c e => ?_, fun j e => ?_, s.nd, s.dj, s.no, s.zt, s.pt⟩
  · obtain ⟨hj, e⟩ := un j _ e
    rw [gn j hj]; exact s.val j w e
  · obtain ⟨hj, e⟩ := un j _ e
    rw [gn j hj]; exact s.own j p L t e
  · obtain ⟨hj, e⟩ := un j _ e
    rw [gn j hj]
    obtain ⟨a, p, L, t, h1, h2, h3⟩ := s.ptr j k π e
    have hk : k ≠ i := fun z => by subst z; exact hn _ _ _ h2
    exact ⟨a, p, L, t, h1, by rw [List.getElem?_set_ne (Ne.symm hk)]; exact h2, h3⟩
  · obtain ⟨hj, e⟩ := un j _ e
    rw [gn j hj]; exact s.exc j c e
  · by_cases hj : j = i
    · subst hj; exact s.non j hn
    · exact s.non j fun p L t z => e p L t (by rw [List.getElem?_set_ne (Ne.symm hj)]; exact z)
theorem Sim.rest {env0 : Env3} {σ : L2.St} (hv : ∀ (i : Nat) w, env0[i]? = some (some (SV.val w)) → ∃ v, σ[i]? = some (some v) ∧ Rep G g.Z H w v) : ∀ {vs us : List Nat} {env : Env3} {τ : L2.St}, Sim G g env τ H ds → τ.length = σ.length → (∀ i : Nat, τ[i]? = σ[i]? ∨ env[i]? = some none ∨ env[i]? = none) → Sim G g (restE env0 vs env) σ H ds
  | [], us, env, τ, s, hl, h => by
    have st : ∀ (i : Nat) x, env[i]? = some (some x) → σ[i]? = τ[i]? := fun i x e => by
      rcases h i with z | z | z
      · exact z.symm
      · rw [e] at z; cases z
      · rw [e] at z; cases z
    refine ⟨s.len.trans hl, fun i w e => ?_, fun i p L t e => ?_, fun i k π e => ?_, fun i c e => ?_, s.non, s.nd, s.dj, s.no, s.zt, s.pt⟩
    · rw [st i _ e]; exact s.val i w e
    · rw [st i _ e]; exact s.own i p L t e
    · rw [st i _ e]; exact s.ptr i k π e
    · rw [st i _ e]; exact s.exc i c e
  | v :: vs, us, env, τ, s, hl, h => by
    unfold restE
    split
    · rename_i w e1 e2
      obtain ⟨u, h1, h2⟩ := hv v w e1
      have hlt : v < env.length := get_lt e2
      have s2 := s.setA (ev := .im w) (d := .z) ⟨rfl, h2⟩ hlt (fun p L t z => by rw [e2] at z; cases z)
      have s3 : Sim G g (env.set v (some (SV.val w))) (τ.set v (some u)) H ds := Sim.congr (fun i => by
        by_cases hi : i = v
        · subst hi
          simp only [if_true]
          exact ((s.non i fun p L t z => by rw [e2] at z; cases z).1).symm
        · simp [hi]) s2
      refine Sim.rest hv (us := us) s3 (by simpa using hl) fun i => ?_
      by_cases hi : i = v
      · subst hi
        left
        rw [List.getElem?_set_self (by rw [← s.len]; exact hlt), h1]
      · rw [List.getElem?_set_ne (Ne.symm hi), List.getElem?_set_ne (Ne.symm hi)]
        exact h i
    · exact Sim.rest hv (us := us) s hl h
def lcF (tg : TG3) (tt : M3 Bool) (te : M3 EV) (vs : List Nat) : List EV → List T → Env3 → Option (List T × Env3)
  | [], acc, env => some (acc, env)
  | x :: r, acc, env => if okI x env = true then (tg x env).bind fun e1 => match tt e1 with
    | .ok true e2 => (match te e2 with
      | .ok ev e3 => if acc.length < 10000000 then (toT ev).bind fun t => (wipeE vs e3).bind fun e4 => lcF tg tt te vs r (acc ++ [t]) e4 else none
      | _ => none)
    | .ok false e2 => (wipeE vs e2).bind fun e4 => lcF tg tt te vs r acc e4
    | _ => none
    else none
abbrev never : WX := fun _ _ _ _ => False
variable {wi : M3 IV} {gt : TG} {g3 : TG3} {tt : M3 Bool} {te : M3 EV} {vs : List Nat}
variable {elt tg iter : Expr} {ifs : List Expr} {scope : Scope} {own : List (Str × Nat)} {pos : Pos}
variable {i : Nat} {y : Str} {py spos : Pos}
end
end VL
namespace VL
open PySem L2 PyProof.Rows
abbrev ClsTab := List (String × List String)
def supOf (tab : ClsTab) (C : String) : List String := (tab.lookup C).getD []
structure IsiT (K : PySem.W.Frag) (G : Gm) (tab : ClsTab) : Prop where
  cl : ∀ p ∈ tab, Cls K (G.cA p.1) ∧ PySem.W.findIn K (.ref (G.cA p.1)) "__class__" = some (some (.builtin "object.__class__")) ∧ PySem.W.mroIn K (G.cA p.1) (.type "object") = some true
  hn : PySem.W.specialIn K (.builtin "object.__class__") "__get__" = some (some (.builtin "getset_descriptor.__get__"))
  ht : PySem.W.takesIn K (.builtin "object.__class__") = some true
  oo : ∀ p ∈ tab, ∀ q ∈ tab, PySem.W.kitOne K (.ref (G.cA p.1)) (.ref (G.cA q.1)) = some (decide (q.1 ∈ p.2))
  bo : ∀ T ∈ ["NoneType", "bool", "int", "str", "tuple", "list"], ∀ q ∈ tab, PySem.W.kitOne K (.type T) (.ref (G.cA q.1)) = some false
def kindT (x : T) : Option (Option String) := match x with
  | .im (.ins C _) => some (some C)
  | .mi C _ => some (some C)
  | x => (tyT x).map fun _ => none
section
variable {X : Cx} {G : Gm} {Wx : WX} {g g' : Gh} {env env' : Env3} {σ : L2.St} {H H' : Hp} {ds : Nat → D} {p pos apos cpos : Pos} {e o a b : Expr} {es : List Expr} {fa fb fe fo : M3 EV} {t : M3 (List EV)} {Z : Addr → Prop} {x : Str}
theorem lookup_of_mem {C : String} : ∀ {tab : ClsTab}, C ∈ tab.map (·.1) → ∃ q ∈ tab, q.1 = C ∧ tab.lookup C = some q.2
  | [], h => by cases h
  | (x, y) :: r, h => by
    by_cases e : C = x
    · subst e
      exact ⟨(C, y), List.mem_cons_self .., rfl, by simp [List.lookup]⟩
    · rw [List.map_cons, List.mem_cons] at h
      have h2 : C ∈ r.map (·.1) := h.resolve_left e
      obtain ⟨q, h3, h4, h5⟩ := lookup_of_mem h2
      refine ⟨q, List.mem_cons_of_mem _ h3, h4, ?_⟩
      have : (C == x) = false := beq_eq_false_iff_ne.mpr e
      simp [List.lookup, this, h5]
theorem kind_ins {x : T} {v : V} {d : D} {C : String} (h : kindT x = some (some C)) (r : RepT G Z H x v d) : ∃ p dx fs, v = .ref p ∧ H p = some (.ins (G.cA C) dx fs) := by
  unfold kindT at h
  split at h
  · cases h
    obtain ⟨_, p, dx, vs, rfl, _, h1, _⟩ := r
    exact ⟨p, dx, vs, rfl, h1⟩
  · cases h
    obtain ⟨p, dx, vs, ds, rfl, _, h1, _⟩ := r
    exact ⟨p, dx, vs, rfl, h1.1⟩
  · cases e : tyT x with
    | none => simp [e] at h
    | some _ => simp [e] at h
theorem kind_ty {x : T} (h : kindT x = some none) : ∃ a, tyT x = some a := by
  unfold kindT at h
  split at h
  · cases h
  · cases h
  · cases e : tyT x with
    | none => simp [e] at h
    | some a => exact ⟨a, rfl⟩
def isC (tab : ClsTab) (D : String) (x : T) : Option Bool := match kindT x with
  | some (some C) => if C ∈ tab.map (·.1) then some (decide (D ∈ supOf tab C)) else none
  | some none => some false
  | none => none
abbrev eIsiC (tab : ClsTab) (D : String) (fe : M3 EV) : M3 EV := isiE (isC tab D) fe
theorem se_isiC {tab : ClsTab} {D : String} (T : IsiT X.K G tab) (hD : D ∈ tab.map (·.1)) (hg : Gl X "isinstance") (hm : X.mg "isinstance" = none) (hgD : Gl X (Str.ofString D)) (hmD : X.mg (Str.ofString D) = some (.ref (G.cA D))) (he : SE G X Wx e fe)
    {p2 : Pos} (hK : X.K = G.K := by rfl) (hdb : ((Str.ofString D) == ("__debug__" : Str)) = false := by decide)
    (hst : starEach [e, .Name (Str.ofString D) p2] X.env = (false, eval e X.env) :: starEach [.Name (Str.ofString D) p2] X.env := by rfl) (hst2 : starEach [.Name (Str.ofString D) p2] X.env = (false, eval (.Name (Str.ofString D) p2) X.env) :: starEach [] X.env := by rfl)
    (hpl : (backTo pos (starEach [.Name (Str.ofString D) p2] X.env)).any (·.1) = false := by rfl) :
    SE G X Wx (.Call (.Name "isinstance" p) [e, .Name (Str.ofString D) p2] [] pos) (eIsiC tab D fe) := by
  refine pe_imp (pe_callB call_isi hg hm (by decide +kernel) (pa_cons he (pa_cons (pe_glob (v := .ref (G.cA D)) hgD hmD rfl hdb) pa_nil hst2) hst) (by decide) (by decide) hst hpl) ?_
  intro σ H Q h
  have h' := isi_mid h
  obtain ⟨g, env, ds, s, h'⟩ := h'
  refine ⟨g, env, ds, s, ?_⟩
  cases e1 : fe env with
  | stuck => rw [e1] at h'; exact h'
  | exc c e2 => rw [e1] at h'; exact h'
  | ok ev e2 =>
    rw [e1] at h'
    intro g1 v H1 k1 s1
    obtain ⟨Z, x, d, b', rx, hr, q⟩ := h' g1 v H1 k1 s1
    obtain ⟨q0, hq, rfl, _⟩ := lookup_of_mem hD
    unfold isC at hr
    split at hr
    · rename_i C hC
      split at hr
      · rename_i hm
        cases hr
        obtain ⟨pp, dx, fs, rfl, hp⟩ := kind_ins hC rx
        obtain ⟨q2, hq2, rfl, e2⟩ := lookup_of_mem hm
        obtain ⟨c1, c2, c3⟩ := T.cl q2 hq2
        refine ⟨_, .ref (G.cA q0.1), .ref (G.cA q2.1), .ref (G.cA q0.1), _, rfl, .own _, .base (.ins hp c1 c2 T.hn T.ht c3), T.oo q2 hq2 q0 hq, ?_⟩
        have e3 : supOf tab q2.1 = q2.2 := by unfold supOf; rw [e2]; rfl
        rw [e3] at q
        exact q
      · cases hr
    · rename_i hC
      cases hr
      obtain ⟨TT, h2⟩ := kind_ty hC
      exact ⟨v, .ref (G.cA q0.1), .type TT, .ref (G.cA q0.1), false, rfl, .own _, hK ▸ tyT_rep h2 rx, T.bo TT (tyT_in h2) q0 hq, q⟩
    · cases hr
structure XTab (K : PySem.W.Frag) (G : Gm) (ns : List String) : Prop where
  ec : ∀ c ∈ ns, ExcC K (G.cA c)
  ki : ∀ c ∈ ns, ∀ D ∈ ns, PySem.W.kitOne K (.ref (G.cA c)) (.ref (G.cA D)) = some (isx c D)
  kv : ∀ c ∈ ns, PySem.W.kitOne K (.ref (G.cA c)) (.type "ValueError") = some true
  xm : ∀ c ∈ ns, ∀ D ∈ ns, PySem.W.exmOne K (.ref (G.cA c)) (.ref (G.cA D)) = some (isx c D)
def Gm.at (G : Gm) (a : Addr) (c : String) : Gm := { G with xa := some (a, c) }
section
variable {y : Option (Addr × String)}
mutual
theorem rep_gx : ∀ {w : W} {v : V}, Rep { G with xa := y } Z H w v ↔ Rep G Z H w v
  | .non, _ => Iff.rfl
  | .bl _, _ => Iff.rfl
  | .int _, _ => Iff.rfl
  | .str _, _ => Iff.rfl
  | .tup xs, _ => by simp only [Rep, repL_gx]
  | .lst xs, _ => by simp only [Rep, repL_gx]
  | .scr xs, _ => by simp only [Rep, repL_gx]
  | .ktp xs, _ => by simp only [Rep, repL_gx]
  | .ins C fs, _ => by simp only [Rep, repF_gx]
theorem repL_gx : ∀ {xs : List W} {vs : List V}, RepL { G with xa := y } Z H xs vs ↔ RepL G Z H xs vs
  | [], _ => Iff.rfl
  | x :: xs, _ => by simp only [RepL, rep_gx, repL_gx]
theorem repF_gx : ∀ {xs : List (String × W)} {vs : List (Str × V)}, RepF { G with xa := y } Z H xs vs ↔ RepF G Z H xs vs
  | [], _ => Iff.rfl
  | (f, x) :: xs, _ => by simp only [RepF, rep_gx, repF_gx]
end
theorem entK_gx : ∀ {ks : List Ky} {us : List V} {es : List DictEntry}, EntK { G with xa := y } ks us es ↔ EntK G ks us es
  | [], _, _ => Iff.rfl
  | k :: ks, _, _ => by simp only [EntK, entK_gx]
theorem entT_gx : ∀ {xs : List (W × W)} {es : List DictEntry}, EntT { G with xa := y } Z H xs es ↔ EntT G Z H xs es
  | [], _ => Iff.rfl
  | (k, x) :: xs, _ => by simp only [EntT, rep_gx, entT_gx]
mutual
theorem repT_gx : ∀ {t : T} {v : V} {d : D}, RepT { G with xa := y } Z H t v d ↔ RepT G Z H t v d
  | .im w, _, _ => by simp only [RepT, rep_gx]
  | .ml xs, _, _ => by simp only [RepT, repTL_gx]
  | .tp xs, _, _ => by simp only [RepT, repTL_gx]
  | .md xs, _, _ => by simp only [RepT, repTK_gx, entK_gx]
  | .mt xs, _, _ => by simp only [RepT, entT_gx]
  | .mi C xs, _, _ => by simp only [RepT, repTF_gx]
theorem repTL_gx : ∀ {xs : List T} {vs : List V} {ds : List D}, RepTL { G with xa := y } Z H xs vs ds ↔ RepTL G Z H xs vs ds
  | [], _, _ => Iff.rfl
  | x :: xs, _, _ => by simp only [RepTL, repT_gx, repTL_gx]
theorem repTK_gx : ∀ {xs : List (Ky × T)} {vs : List V} {ds : List D}, RepTK { G with xa := y } Z H xs vs ds ↔ RepTK G Z H xs vs ds
  | [], _, _ => Iff.rfl
  | (k, x) :: xs, _, _ => by simp only [RepTK, repT_gx, repTK_gx]
theorem repTF_gx : ∀ {xs : List (String × T)} {vs : List (Str × V)} {ds : List D}, RepTF { G with xa := y } Z H xs vs ds ↔ RepTF G Z H xs vs ds
  | [], _, _ => Iff.rfl
  | (k, x) :: xs, _, _ => by simp only [RepTF, repT_gx, repTF_gx]
end
end
theorem Sim.world {y : Option (Addr × String)} (s : Sim G g env σ H ds) (h : ∀ (i : Nat) c, env[i]? = some (some (SV.exc c)) → ∃ a, σ[i]? = some (some (.ref a)) ∧ y = some (a, c)) : Sim { G with xa := y } g env σ H ds :=
  ⟨s.len, fun i w e => let ⟨v, h1, h2⟩ := s.val i w e; ⟨v, h1, rep_gx.mpr h2⟩, fun i p L t e => let ⟨v, h1, h2, h3⟩ := s.own i p L t e; ⟨v, h1, repT_gx.mpr h2, h3⟩, s.ptr, h, s.non, s.nd, s.dj, s.no, s.zt, s.pt⟩
theorem Sim.excS (s : Sim G g env σ H ds) {i : Nat} {c : String} {a : Addr} (hi : i < env.length) (hn : ∀ p L t, env[i]? ≠ some (some (SV.own p L t))) (hx : ∀ (j : Nat) c', env[j]? = some (some (SV.exc c')) → j = i) : Sim (G.at a c) g (env.set i (some (SV.exc c))) (σ.set i (some (.ref a))) H ds := by
  have s1 := s.unset hn (some (.ref a))
  have s2 : Sim (G.at a c) g (env.set i none) (σ.set i (some (.ref a))) H ds := s1.world fun j c' e => by
    by_cases hj : j = i
    · subst hj
      rw [List.getElem?_set_self hi] at e; cases e
    · rw [List.getElem?_set_ne (Ne.symm hj)] at e
      exact absurd (hx j c' e) hj
  have gi : (env.set i (some (SV.exc c)))[i]? = some (some (SV.exc c)) := List.getElem?_set_self hi
  have un : ∀ (j : Nat) x, (∀ c, x ≠ SV.exc c) → (env.set i (some (SV.exc c)))[j]? = some (some x) → (env.set i none)[j]? = some (some x) := fun j x hx e => by
    by_cases hj : j = i
    · subst hj; rw [gi] at e; cases e; exact absurd rfl (hx c)
    · rw [List.getElem?_set_ne (Ne.symm hj)] at e ⊢; exact e
  refine ⟨by simpa using s2.len, fun j w e => s2.val j w (un j _ (fun _ z => by cases z) e), fun j p L t e => s2.own j p L t (un j _ (fun _ z => by cases z) e), fun j k π e => ?_, fun j c' e => ?_, fun j e => ?_, s2.nd, s2.dj, s2.no, s2.zt, s2.pt⟩
  · obtain ⟨a', p, L, t, h1, h2, h3⟩ := s2.ptr j k π (un j _ (fun _ z => by cases z) e)
    have hk : k ≠ i := fun z => by subst z; rw [List.getElem?_set_self hi] at h2; cases h2
    exact ⟨a', p, L, t, h1, by rw [List.getElem?_set_ne (Ne.symm hk)] at h2 ⊢; exact h2, h3⟩
  · by_cases hj : j = i
    · subst hj
      rw [gi] at e; cases e
      exact ⟨a, List.getElem?_set_self (by rw [← s.len]; exact hi), rfl⟩
    · rw [List.getElem?_set_ne (Ne.symm hj)] at e
      exact absurd (hx j c' e) hj
  · refine s2.non j fun p L t z => e p L t ?_
    by_cases hj : j = i
    · subst hj; rw [List.getElem?_set_self hi] at z; cases z
    · rw [List.getElem?_set_ne (Ne.symm hj)] at z ⊢; exact z
def noExc (i : Nat) : Env3 → Bool := fun env => (List.range env.length).all fun j => j == i || match env[j]? with
  | some (some (SV.exc _)) => false
  | _ => true
theorem noExc_get {i : Nat} (h : noExc i env = true) (j : Nat) (c' : String) (e : env[j]? = some (some (SV.exc c'))) : j = i := by
  have := List.all_eq_true.mp h j (List.mem_range.mpr (get_lt e))
  simp only [e, Bool.or_false, beq_iff_eq] at this
  exact this
def setX (i : Nat) (c : String) (env : Env3) : Option Env3 := match env[i]? with
  | some (some (SV.own _ _ _)) => none
  | some _ => if noExc i env = true then some (env.set i (some (SV.exc c))) else none
  | none => none
def unX (i : Nat) (env : Env3) : Option Env3 := match env[i]? with
  | some (some (SV.exc _)) => if noExc i env = true then some (env.set i none) else none
  | _ => none
def mapEnd (u : Env3 → Option Env3) : SO3 → SO3
  | .nx e => match u e with
    | some e => .nx e
    | none => .stuck
  | .bk e => match u e with
    | some e => .bk e
    | none => .stuck
  | .ct e => match u e with
    | some e => .ct e
    | none => .stuck
  | _ => .stuck
def sTry (i : Nat) (D0 : String) (ns : List String) (tb : S3) (ts : String → S3) : S3 := fun env => match tb env with
  | .ex c e => if c ∈ ns then (if isx c D0 = true then (match setX i c e with
    | some e1 => mapEnd (unX i) (ts c e1)
    | none => .stuck) else .ex c e) else .stuck
  | o => o
theorem pss_ex {α : Type} {X : Cx} {ss : List Stmt} {P : α → Prop} {T : α → TS} (h : ∀ c, P c → PSs X ss (T c)) : PSs X ss (fun D σ H => ∃ c, P c ∧ T c D σ H) :=
  ⟨fun pins s σ H D I ⟨c, pc, q⟩ => (h c pc).run pins s σ H D I q⟩
theorem unX_sim {a : Addr} {c : String} {i : Nat} {env : Env3} (s : SimN (G.at a c) g env σ H) (h : unX i env = some env') : SimN G g env' (σ.set i none) H := by
  obtain ⟨ds, s⟩ := s
  unfold unX at h
  split at h
  · rename_i c' e
    split at h
    · rename_i hx
      cases h
      have s1 := s.unset (fun p L t z => by rw [e] at z; cases z) none
      refine ⟨ds, ?_⟩
      have := s1.world (y := G.xa) fun j c'' e' => by
        by_cases hj : j = i
        · subst hj; rw [List.getElem?_set_self (get_lt e)] at e'; cases e'
        · rw [List.getElem?_set_ne (Ne.symm hj)] at e'
          exact absurd (noExc_get hx j c'' e') hj
      exact this
    · cases h
  · cases h
theorem ss_try {i : Nat} {n : Str} {D0 : String} {ns : List String} {body suite : List Stmt} {b₀ : Stmt} {np pos' : Pos} {tb : S3} {ts : String → S3} (T : XTab X.K G ns) (hD : D0 ∈ ns) (hgD : Gl X (Str.ofString D0)) (hmD : X.mg (Str.ofString D0) = some (.ref (G.cA D0))) (tk : Takes X Wx)
    (hN : X.N.Nodup) (hi : X.N[i]? = some n)
    (hb : ∀ (W : WX) (pn : List (Addr × Obj)) (xe : Value → Shared → Prop), Takes (X.tr pn xe) W → PassesOwn (model X.prog X.w) X.A X.env xe → SSs G (X.tr pn xe) W body tb)
    (hsu : ∀ (a : Addr) (oe : Obj) (c : String) (pn : List (Addr × Obj)), c ∈ ns → Zc (.ref (G.cA c)) none oe → (∃ vs, oe.data = .fields vs) → SSs (G.at a c) (X.suite a ((a, oe) :: pn)) never (b₀ :: suite) (ts c))
    (hln : X.env.kindOf n = some .local := by rfl) (hs : X.stack = X.env :: X.outer := by rfl) (hf : X.env.frame = some X.env.locals := by rfl) (hdb : ((Str.ofString D0) == ("__debug__" : Str)) = false := by decide) :
    SS G X Wx (.Try body [.ExceptHandler (some (.Name (Str.ofString D0) np)) (some n) (b₀ :: suite) pos'] [] [] pos) (sTry i D0 ns tb ts) := by
  refine ps_imp (ps_try_as (c := .ref (G.cA D0)) (Wout := Wx) (tb := fun W => liftS G W tb) (ts := fun a cls d D σ H => ∃ c, (cls = .ref (G.cA c) ∧ d = none ∧ c ∈ ns) ∧ liftS (G.at a c) never (ts c) D σ H) hs hf hN hi hln ⟨hgD, hdb, .inl hmD⟩ tk (fun W pn xe t1 t2 => hb W pn xe t1 t2) (fun a oe cls d pn hz hv => pss_ex fun c ⟨e1, e2, hc⟩ => by
    subst e1 e2
    exact hsu a oe c pn hc hz hv)) ?_
  rintro D σ H ⟨g, env, ds, s, h⟩
  refine ⟨g, env, ds, s, ?_⟩
  unfold sTry at h
  cases e1 : tb env with
  | stuck => rw [e1] at h; exact h
  | nx e => rw [e1] at h; exact h
  | rt v e => rw [e1] at h; exact h
  | bk e => rw [e1] at h; exact h
  | ct e => rw [e1] at h; exact h
  | ex c e =>
    rw [e1] at h
    simp only at h
    intro g1 σ1 H1 k1 s1
    split at h
    · rename_i hc
      refine ⟨_, T.xm c hc D0 hD, fun hy a ha => ?_, fun hn => ?_⟩
      · rw [if_pos hy] at h
        refine ⟨c, ⟨rfl, rfl, hc⟩, ?_⟩
        split at h
        · rename_i e2 hx
          obtain ⟨ds1, s1⟩ := s1
          have hx' : (∀ p L t, e[i]? ≠ some (some (SV.own p L t))) ∧ i < e.length ∧ noExc i e = true ∧ e2 = e.set i (some (SV.exc c)) := by
            unfold setX at hx
            split at hx
            · cases hx
            · rename_i o ho hno
              split at hx
              · rename_i hne
                cases hx
                exact ⟨fun p L t z => ho p L t (by rw [hno] at z; exact Option.some.inj z), get_lt hno, hne, rfl⟩
              · cases hx
            · cases hx
          obtain ⟨q1, q2, q3, rfl⟩ := hx'
          have s2 := s1.excS (a := a) (c := c) q2 q1 fun j c' => noExc_get q3 j c'
          refine ⟨g1, _, ds1, s2, ?_⟩
          cases e3 : ts c (e.set i (some (SV.exc c))) with
          | stuck => rw [e3] at h; exact h
          | rt v e4 => rw [e3] at h; exact h.elim
          | ex c' e4 => rw [e3] at h; exact h.elim
          | nx e4 =>
            rw [e3] at h
            intro g5 σ5 H5 k5 s5
            simp only [mapEnd] at h
            split at h
            · rename_i e6 hu
              exact h g5 _ H5 (k1.trans k5) (unX_sim s5 hu)
            · exact h.elim
          | bk e4 =>
            rw [e3] at h
            intro g5 σ5 H5 k5 s5
            simp only [mapEnd] at h
            split at h
            · rename_i e6 hu
              exact h g5 _ H5 (k1.trans k5) (unX_sim s5 hu)
            · exact h.elim
          | ct e4 =>
            rw [e3] at h
            intro g5 σ5 H5 k5 s5
            simp only [mapEnd] at h
            split at h
            · rename_i e6 hu
              exact h g5 _ H5 (k1.trans k5) (unX_sim s5 hu)
            · exact h.elim
        · exact h.elim
      · rw [if_neg (by rw [hn]; exact Bool.false_ne_true)] at h
        exact h g1 σ1 H1 k1 s1
    · exact h.elim
def eXIs (i : Nat) (c : String) (b : Bool) : M3 EV := fun env => match env[i]? with
  | some (some (SV.exc c')) => if c' = c then .ok (.im (.bl b)) env else .stuck
  | _ => .stuck
theorem se_xis {a : Addr} {oe : Obj} {c D : String} {pn : List (Addr × Obj)} {ns : List String} {i : Nat} {n : Str} {p1 p2 : Pos} (T : XTab X.K G ns) (hc : c ∈ ns) (hD : D ∈ ns) (hz : Zc (.ref (G.cA c)) none oe) (hv : ∃ vs, oe.data = .fields vs)
    (hg : Gl X "isinstance") (hm : X.mg "isinstance" = none) (hgD : Gl X (Str.ofString D)) (hmD : X.mg (Str.ofString D) = some (.ref (G.cA D))) (hN : X.N[i]? = some n) (hvis : Vis X.env.scope n)
    (hd : (n == ("__debug__" : Str)) = false := by decide) (hcd : (n == ("__classdict__" : Str)) = false := by decide) (hdb : ((Str.ofString D) == ("__debug__" : Str)) = false := by decide)
    (hst : starEach [.Name n p1, .Name (Str.ofString D) p2] X.env = (false, eval (.Name n p1) X.env) :: starEach [.Name (Str.ofString D) p2] X.env := by rfl) (hst2 : starEach [.Name (Str.ofString D) p2] X.env = (false, eval (.Name (Str.ofString D) p2) X.env) :: starEach [] X.env := by rfl)
    (hpl : (backTo pos (starEach [.Name (Str.ofString D) p2] X.env)).any (·.1) = false := by rfl) :
    SE (G.at a c) (X.suite a ((a, oe) :: pn)) never (.Call (.Name "isinstance" p) [.Name n p1, .Name (Str.ofString D) p2] [] pos) (eXIs i c (isx c D)) := by
  refine pe_imp (pe_callB (call_isE (T.ec c hc) hz hv) hg hm (by decide +kernel) (pa_cons (pe_var hN hvis hd hcd) (pa_cons (pe_glob (v := .ref (G.cA D)) hgD hmD rfl hdb) pa_nil hst2) hst) (by decide) (by decide) hst hpl) ?_
  rintro σ H Q ⟨g, env, ds, s, h⟩
  unfold eXIs at h
  split at h
  · rename_i c' e
    split at h
    · rename_i hcc
      subst hcc
      obtain ⟨a', h1, h2⟩ := s.exc i _ e
      cases h2
      exact ⟨_, h1, .ref (G.cA D), .ref (G.cA D), isx c' D, rfl, fun u hu => hu, T.ki c' hc D hD, h g _ H (Keep.refl g H) (s.im rfl)⟩
    · exact h.elim
  · exact h.elim
theorem se_xisB {a : Addr} {oe : Obj} {c : String} {pn : List (Addr × Obj)} {ns : List String} {i : Nat} {n : Str} {p1 p2 : Pos} (T : XTab X.K G ns) (hc : c ∈ ns) (hz : Zc (.ref (G.cA c)) none oe) (hv : ∃ vs, oe.data = .fields vs)
    (hg : Gl X "isinstance") (hm : X.mg "isinstance" = none) (hgD : Gl X "ValueError") (hmD : X.mg "ValueError" = none) (hN : X.N[i]? = some n) (hvis : Vis X.env.scope n)
    (hd : (n == ("__debug__" : Str)) = false := by decide) (hcd : (n == ("__classdict__" : Str)) = false := by decide)
    (hst : starEach [.Name n p1, .Name "ValueError" p2] X.env = (false, eval (.Name n p1) X.env) :: starEach [.Name "ValueError" p2] X.env := by rfl) (hst2 : starEach [.Name "ValueError" p2] X.env = (false, eval (.Name "ValueError" p2) X.env) :: starEach [] X.env := by rfl)
    (hpl : (backTo pos (starEach [.Name "ValueError" p2] X.env)).any (·.1) = false := by rfl) :
    SE (G.at a c) (X.suite a ((a, oe) :: pn)) never (.Call (.Name "isinstance" p) [.Name n p1, .Name "ValueError" p2] [] pos) (eXIs i c true) := by
  refine pe_imp (pe_callB (call_isE (T.ec c hc) hz hv) hg hm (by decide +kernel) (pa_cons (pe_var hN hvis hd hcd) (pa_cons (pe_bltn (v := .ty "ValueError") hgD hmD (by decide +kernel) rfl (by decide) (by decide)) pa_nil hst2) hst) (by decide) (by decide) hst hpl) ?_
  rintro σ H Q ⟨g, env, ds, s, h⟩
  unfold eXIs at h
  split at h
  · rename_i c' e
    split at h
    · rename_i hcc
      subst hcc
      obtain ⟨a', h1, h2⟩ := s.exc i _ e
      cases h2
      exact ⟨_, h1, .ty "ValueError", .type "ValueError", true, rfl, fun u hu => hu, T.kv c' hc, h g _ H (Keep.refl g H) (s.im rfl)⟩
    · exact h.elim
  · exact h.elim
end
end VL
namespace VL
open PySem L2 PyProof.Rows
section
variable {X : Cx} {G : Gm} {Wx : WX} {g g' : Gh} {env env' : Env3} {σ : L2.St} {H H' : Hp} {ds : Nat → D} {p pos : Pos} {e o a b c : Expr} {fa fb fc fe : M3 EV} {Z : Addr → Prop}
def lstOf : T → Option (List W)
  | .ml xs => allI xs
  | .im (.lst ws) => some ws
  | _ => none
theorem lstOf_rep {x : T} {v : V} {d : D} {ws : List W} (h : lstOf x = some ws) (r : RepT G Z H x v d) : ∃ p vs, v = .ref p ∧ H p = some (.lst vs) ∧ RepL G Z H ws vs := by
  cases x with
  | ml xs => obtain ⟨p, vs, dl, rfl, _, h1, r1⟩ := r; exact ⟨p, vs, rfl, h1, allI_rep h r1⟩
  | im w =>
    cases w with
    | lst xs => cases h; obtain ⟨_, p, vs, rfl, _, h1, r1⟩ := r; exact ⟨p, vs, rfl, h1, r1⟩
    | _ => cases h
  | _ => cases h
def fCat : F2 := fun x y => (lstOf x).bind fun xs => (lstOf y).bind fun ys => if xs.length + ys.length ≤ 10000000 then some (.tmp (.ml ((xs ++ ys).map T.im))) else none
theorem op_fCat : OpR X (binaryOp .Add) (liftR G fCat) := by
  refine opR_imp op_cat ?_
  rintro x y H Q ⟨g, env, σ, ds, tx, ty, dx, dy, ev, s, rx, ry, q, k⟩
  obtain ⟨xs, h1, q⟩ := Option.bind_eq_some_iff.mp q
  obtain ⟨ys, h2, q⟩ := Option.bind_eq_some_iff.mp q
  split at q
  · rename_i hn
    cases q
    obtain ⟨p, vs, rfl, h3, r1⟩ := lstOf_rep h1 rx
    obtain ⟨p', us, rfl, h4, r2⟩ := lstOf_rep h2 ry
    refine ⟨p, p', vs, us, rfl, rfl, h3, h4, by rw [r1.length, r2.length]; exact big_size hn, fun l hl => ?_⟩
    obtain ⟨kn, sn⟩ := s.newL hl (RepL.append r1 r2)
    exact k g _ _ kn sn
  · cases q
theorem se_cat (ha : SE G X Wx a fa) (hb : SE G X Wx b fb) : SE G X Wx (.BinOp a .Add b pos) (eOp fCat fa fb) := se_bin op_fCat ha hb
theorem sb_lt (ha : SE G X Wx a fa) (hb : SE G X Wx b fb) : SB G X Wx (.Compare a [.Lt] [b] pos) (bVal (eOp fLt fa fb)) := sb_cmp (opR_imp op_lt fIntB_lift) ha hb (nobehind _ (by decide) (by decide))
theorem sb_gt (ha : SE G X Wx a fa) (hb : SE G X Wx b fb) : SB G X Wx (.Compare a [.Gt] [b] pos) (bVal (eOp fGt fa fb)) := sb_cmp (opR_imp op_gt fIntB_lift) ha hb (nobehind _ (by decide) (by decide))
theorem sb_eq (hu : X.A.units + 64 < cLine) (ha : SE G X Wx a fa) (hb : SE G X Wx b fb) (hK : X.K = G.K := by rfl) : SB G X Wx (.Compare a [.Eq] [b] pos) (bVal (eOp fEq fa fb)) := sb_cmp (op_fEq hK hu) ha hb (nobehind _ (by decide) (by decide))
theorem sb_ne (hu : X.A.units + 64 < cLine) (ha : SE G X Wx a fa) (hb : SE G X Wx b fb) (hK : X.K = G.K := by rfl) : SB G X Wx (.Compare a [.NotEq] [b] pos) (bVal (eOp fNe fa fb)) := sb_cmp (op_fNe hK hu) ha hb (nobehind _ (by decide) (by decide))
theorem Room.units65 {k : Nat} {A : Around} (r : Room k A) : A.units + 65 < cLine := by have := r.un; omega
structure GlobS (K : PySem.W.Frag) (mg : Str → Option Value) (G : Gm) (x : String) (w : W) : Prop where
  ex : ∃ (v : V) (u : Value), mg (Str.ofString x) = some u ∧ RelV v u ∧ ∀ Z H, Rep G Z H w v
theorem GlobS.se {x : String} {w : W} (h : GlobS X.K X.mg G x w) (hg : Gl X (Str.ofString x)) (hd : (Str.ofString x == ("__debug__" : Str)) = false := by decide) : SE G X Wx (.Name (Str.ofString x) pos) (eC w) := by
  obtain ⟨v, u, h1, h2, h3⟩ := h.ex
  exact se_glob hg h1 h2 h3 hd
end
abbrev cAK (K : PySem.W.Frag) (C : String) : Addr := He.ga K (Str.ofString C)
abbrev GKT (P : Program) (w : World) (K : PySem.W.Frag) (tb : Option Addr) : Gm := ⟨P, w, K, cAK K, none, tb⟩
abbrev GK (P : Program) (w : World) (K : PySem.W.Frag) : Gm := GKT P w K none
structure ExcK (K : PySem.W.Frag) (mg : Str → Option Value) (C : String) : Prop where
  q : PySem.W.excIn K (cAK K C) He.veBase "ValueError.__new__" = true
  gC : mg (Str.ofString C) = some (.ref (cAK K C))
  kC : PySem.W.keepIn K (.ref (cAK K C)) = true
  bm : PySem.W.subIn K (.ref (cAK K C)) (.type "BaseException") = some true
  ty : PySem.W.typeIn K (.ref (cAK K C)) = some (.type "type")
theorem ExcK.at {K : PySem.W.Frag} {mg : Str → Option Value} {C : String} (e : ExcK K mg C) {X : Cx} (hK : X.K = K := by rfl) (hm : X.mg = mg := by rfl) {tb : Option Addr} : ExcS X (GKT X.prog X.w K tb) C := by
  subst hK hm
  exact ⟨e.q, e.gC, e.kC, e.bm, e.ty⟩
def gh0 : Gh := ⟨fun _ => False, fun _ => False, fun _ => none, fun _ => [], none⟩
theorem repL_ints {G : Gm} {Z : Addr → Prop} {H : Hp} : ∀ ns : List Int, RepL G Z H (ns.map W.int) (ns.map V.int)
  | [] => rfl
  | n :: ns => ⟨_, _, rfl, rfl, repL_ints ns⟩
theorem sqF_of {K : PySem.W.Frag} {H : Hp} {a : Addr} {xs : List V} (o : Only H) (h : SqL K H a xs) : SqF K H a xs := by
  rcases h with (h | h) | h
  · rcases o a with e | ⟨ob, ys, e⟩
    · rw [h] at e; cases e
    · rw [h] at e; cases e
  · exact .inl h
  · exact .inr h
theorem walk_ofX {l : PySem.W.OpenLaw} {n k : Nat} {q : Program} {loose : List Str} {XP : (Str → Option Value) → Heap → Prop} {YP : World → Heap → Prop} {d : DefRec} {x : Str}
    (hn : l.most = some n) (hn2 : n ≤ sizeLine) (hdf : d.params.defaults = []) (hr : Room k callerA)
    (F : ∀ (w : World) (mg : Str → Option Value) (fa : Addr) (h : Heap), YP w h → h.Ns mainGlobals mg → mg d.name = some (.ref fa) →
      ∃ (K : PySem.W.Frag) (fd : FuncData) (sp : Fn), K.In h ∧ (∀ (s : Shared) (u : Value), BindsTo s fd ⟨[u], []⟩ [(x, u)]) ∧
        (∀ (ns : List Int), ns.length ≤ n → ∃ ts, sp [.im (.scr (ns.map W.int))] = .ok (.im (.bl true)) ts) ∧
        ∀ base : Heap, K.In base → base.Ns mainGlobals mg → FnOk l.prog w K mg base (L2.CX l.prog w) k fa fd [x] (spOf (GK l.prog w K) 1 sp)) :
    PySem.W.WalkO q loose XP YP l.row.toRowW d [] (fun f vs => PySem.call f vs) := by
  refine Att.attach_call hn hdf fun w s₀ s₁ mg mb fa o pm cd doc a vs ns G Y ho hd hcd hmg hobj hints hlen hg => ?_
  obtain ⟨K, fd, sp, KX, hb, hsp, hF⟩ := F w mg fa _ Y G.T.g hmg
  refine law_call KX G.T.g G.T.b G.T.builtins G.T.nolimit hg hobj hints (Nat.le_trans hlen hn2) hr hF hb (fun H hO hS => ?_) fun H e s' h => ?_
  · obtain ⟨ts, hts⟩ := hsp ns hlen
    refine ⟨rfl, gh0, [.im (.scr (ns.map W.int))], [.z], ⟨rfl, fun p z => z.elim, fun p z => z.elim, fun P e => by cases e⟩, ⟨⟨_, [], _, [], rfl, rfl, ⟨rfl, a, _, rfl, sqF_of hO hS, repL_ints ns⟩, rfl, rfl⟩, by simp [fps, fp_z], fun p hp => by simp [fps, fp_z] at hp⟩, ?_⟩
    rw [hts]
    exact fun g' v H' es' _ _ _ _ fr => fr
  · obtain ⟨_, _, _, _, _, _, _, _, _, _, _, _, z⟩ := h
    exact z
theorem xtabB_ok {tb : Option Addr} {P : Program} {w : World} {K : PySem.W.Frag} {ns : List String} (h : xtabB K ns = true) : XTab K (GKT P w K tb) ns := by
  unfold xtabB at h
  simp only [Bool.and_eq_true] at h
  obtain ⟨h1, h2, h3, h4⟩ := h
  refine ⟨fun c hc => ?_, fun c hc D hD => ?_, fun c hc => ?_, fun c hc D hD => ?_⟩
  · have z := List.all_eq_true.mp h1 c hc
    simp only [Bool.and_eq_true] at z
    obtain ⟨z1, z2, z3, z4, z5, z6, z7, z8⟩ := z
    exact ⟨He.eqO_ok z1, He.eqO_ok z2, of_decide_eq_true z3, z4, He.eqO_ok z5, He.eqO_ok z6, of_decide_eq_true z7, of_decide_eq_true z8⟩
  · exact of_decide_eq_true (List.all_eq_true.mp (List.all_eq_true.mp h2 c hc) D hD)
  · exact of_decide_eq_true (List.all_eq_true.mp h3 c hc)
  · exact of_decide_eq_true (List.all_eq_true.mp (List.all_eq_true.mp h4 c hc) D hD)
section
variable {P : Program} {w : World} {K : PySem.W.Frag} {mg : Str → Option Value} {base : Heap}
theorem gstr_ok {tb : Option Addr} {x z : String} (h : ∃ t, mg (Str.ofString x) = some (.str (Str.ofString z) t)) : GlobS K mg (GKT P w K tb) x (.str z) := by
  obtain ⟨t, h⟩ := h
  exact ⟨.str (Str.ofString z), _, h, ⟨t, rfl⟩, fun _ _ => rfl⟩
end
theorem bn0 {K : PySem.W.Frag} {fd : FuncData} {ps : List Str} (h : Binds K fd ps []) : ∃ ds, Vals [] ds ∧ Binds K fd ps ds := ⟨[], .nil, h⟩
theorem obsY_eq {n : Nat} {fa : List He.Fa} {fn : List He.DefD} {ex : PySem.W.Frag → Bool} {g : Addr → Option Obj} {s : Shared} (h : ∀ a, g a = s.heap.get? a) : obsY n fa fn ex g = (hookY n fa fn ex).obs s := by
  have e : g = s.heap.get? := funext h
  rw [e] <;> rfl
section
variable {P : Program} {w : World} {K : PySem.W.Frag} {mg : Str → Option Value} {base : Heap}
end
end VL
namespace VL
open PySem L2 PyProof.Rows
def frzL : T → Option W
  | .ml xs => (allI xs).map .lst
  | _ => none
def eFrzL (f : M3 EV) : M3 EV := fun env => match f env with
  | .ok (.tmp t) e => (match frzL t with
    | some w => .ok (.im w) e
    | none => .ok (.tmp t) e)
  | o => o
section
variable {X : Cx} {G : Gm} {Wx : WX} {g g' : Gh} {env env' : Env3} {σ : L2.St} {H H' : Hp} {ds : Nat → D} {e : Expr} {fe : M3 EV}
theorem allI_frz : ∀ {xs : List T} {ws : List W}, allI xs = some ws → frzTs xs = some ws
  | [], ws, h => h
  | .im w :: xs, ws, h => by
    obtain ⟨ws', h1, rfl⟩ := Option.map_eq_some_iff.mp (show (allI xs).map (w :: ·) = some ws from h)
    simp only [frzTs, frzT, allI_frz h1, Option.bind_some, Option.map_some]
  | .ml _ :: _, _, h => by cases h
  | .md _ :: _, _, h => by cases h
  | .mt _ :: _, _, h => by cases h
  | .mi _ _ :: _, _, h => by cases h
  | .tp _ :: _, _, h => by cases h
theorem frzL_frz {t : T} {w : W} (h : frzL t = some w) : frzT t = some w := by
  cases t with
  | ml xs =>
    obtain ⟨ws, h1, rfl⟩ := Option.map_eq_some_iff.mp (show (allI xs).map W.lst = some w from h)
    simp only [frzT, allI_frz h1, Option.map_some]
  | _ => cases h
theorem frzL_sound {t : TE} (h : ∀ σ H Q, liftE G Wx fe σ H Q → t σ H Q) : ∀ σ H Q, liftE G Wx (eFrzL fe) σ H Q → t σ H Q := by
  rintro σ H Q ⟨g, env, ds, s, hh⟩
  refine h σ H Q ⟨g, env, ds, s, ?_⟩
  unfold eFrzL at hh
  cases e1 : fe env with
  | stuck => rw [e1] at hh; exact hh.elim
  | exc c e2 => rw [e1] at hh; exact hh
  | ok ev e2 =>
    rw [e1] at hh
    cases ev with
    | ptr _ _ => exact hh
    | im w => exact hh
    | tmp u =>
      intro g1 v H1 k1 s1
      simp only at hh
      split at hh
      · rename_i w hw
        obtain ⟨g2, k2, s2⟩ := s1.frz (frzL_frz hw)
        exact hh g2 v H1 (k1.trans k2) s2
      · exact hh g1 v H1 k1 s1
theorem se_frzL (h : SE G X Wx e fe) : SE G X Wx e (eFrzL fe) := pe_imp h (frzL_sound fun _ _ _ h => h)
variable {wi : M3 IV} {gt : TG} {g3 : TG3} {tt : M3 Bool} {te : M3 EV} {elt tg iter : Expr} {ifs : List Expr} {scope : Scope} {own : List (Str × Nat)} {pos spos py : Pos} {i : Nat} {y : Str}
end
end VL
namespace VL
open PySem L2 PyProof.Rows
section
variable {X : Cx} {G : Gm} {Wx : WX} {pos pos' : Pos} {value o i : Expr} {fo fi fv : M3 EV}
end
end VL
namespace VL
open PySem L2 PyProof.Rows
def kyK : Ky → L2.Key
  | .i n => .inl n
  | .s x => .inr (Str.ofString x)
theorem keyV_kV (k : Ky) : keyV k = kV (kyK k) := by cases k <;> rfl
theorem kyK_inj {a b : Ky} (h : kyK a = kyK b) : a = b := by
  cases a <;> cases b <;> simp only [kyK, Sum.inl.injEq, Sum.inr.injEq, reduceCtorEq] at h
  · rw [h]
  · rw [ofString_inj h]
theorem leaf_hash {P : Program} {w : World} (k : Ky) : (leafKind P w).hash (keyL k) = (mixKind P w).hash (kyK k) := by cases k <;> rfl
def kvL : List Ky → List V → List (L2.Key × V)
  | k :: ks, u :: us => (kyK k, u) :: kvL ks us
  | _, _ => []
theorem EntK.len {G : Gm} : ∀ {ks : List Ky} {us : List V} {es : List DictEntry}, EntK G ks us es → us.length = ks.length ∧ es.length = ks.length
  | [], _, _, ⟨e, e2⟩ => by simp [e, e2]
  | k :: ks, _, _, ⟨u, r, e, er, e1, e2, a, b, c, d⟩ => by subst e1 e2; simp [d.len.1, d.len.2]
theorem kvL_keys : ∀ {ks : List Ky} {us : List V}, us.length = ks.length → (kvL ks us).map (·.1) = ks.map kyK
  | [], [], _ => rfl
  | k :: ks, u :: us, h => by simp [kvL, kvL_keys (by simpa using h)]
theorem kvL_len : ∀ {ks : List Ky} {us : List V}, us.length = ks.length → (kvL ks us).length = ks.length
  | [], [], _ => rfl
  | k :: ks, u :: us, h => by simp [kvL, kvL_len (by simpa using h)]
theorem entK_pairs {G : Gm} : ∀ {ks : List Ky} {us : List V} {es : List DictEntry}, EntK G ks us es → ∃ vs, KV (kvL ks us) vs ∧ Pairs (mixKind G.P G.w) es vs ∧ vs.map (·.1) = ks.map kyK ∧ ∀ e ∈ es, ∃ k, (mixKind G.P G.w).is k e.key = true ∧ e.hash = (mixKind G.P G.w).hash k
  | [], _, _, ⟨e, e2⟩ => by subst e e2; exact ⟨[], .nil, .nil, rfl, fun _ h => nomatch h⟩
  | k :: ks, _, _, ⟨u, r, e, er, e1, e2, a, b, c, d⟩ => by
    subst e1 e2
    obtain ⟨vs, h1, h2, h3, h4⟩ := entK_pairs d
    have hk : (mixKind G.P G.w).is (kyK k) e.key = true := kV_is (by rw [← keyV_kV]; exact a)
    refine ⟨(kyK k, e.val) :: vs, .cons ⟨rfl, c⟩ h1, .cons hk rfl h2, by simp [h3], fun x hx => ?_⟩
    rcases List.mem_cons.mp hx with rfl | hx
    · exact ⟨kyK k, hk, by rw [b, leaf_hash]⟩
    · exact h4 x hx
theorem pairs_entK {G : Gm} : ∀ {ks : List Ky} {us : List V} {vs : List (L2.Key × Value)} {es : List DictEntry}, us.length = ks.length → KV (kvL ks us) vs → Pairs (mixKind G.P G.w) es vs → (∀ e ∈ es, ∃ k, (mixKind G.P G.w).is k e.key = true ∧ e.hash = (mixKind G.P G.w).hash k) → EntK G ks us es
  | [], [], _, _, _, .nil, .nil, _ => ⟨rfl, rfl⟩
  | k :: ks, u :: us, _, _, hl, .cons ⟨p1, p2⟩ h, .cons q1 q2 q3, hh => by
    rename_i q vs e es
    refine ⟨u, us, e, es, rfl, rfl, ?_, ?_, ?_, pairs_entK (by simpa using hl) h q3 fun x hx => hh x (List.mem_cons_of_mem _ hx)⟩
    · have p1' : kyK k = q.1 := p1
      rw [← p1'] at q1
      rcases keyIs_shape q1 with ⟨i, t, e1, e2⟩ | ⟨x, t, e1, e2⟩
      · cases k with
        | i n => cases e1; exact ⟨t, e2⟩
        | s y => cases e1
      · cases k with
        | i n => cases e1
        | s y => cases e1; exact ⟨t, e2⟩
    · obtain ⟨k', h1, h2⟩ := hh e (List.mem_cons_self)
      have p1' : kyK k = q.1 := p1
      rw [← p1'] at q1
      rw [h2, leaf_hash, (mixKind G.P G.w).inj _ _ _ h1 q1]
    · rw [q2]; exact p2
structure DictK (G : Gm) (h : Heap) (p : Addr) (ks : List Ky) (us : List V) : Prop where
  ex : ∃ vs, KV (kvL ks us) vs ∧ h.DictOf (mixKind G.P G.w) p vs
  ln : us.length = ks.length
  nd : ks.Nodup
  low : (p == sysModules) = false
  le : ks.length ≤ sizeLine
theorem dictK_of {G : Gm} {h : Heap} {p : Addr} {ob : Obj} {es : List DictEntry} {ks : List Ky} {us : List V} (hp : h.get? p = some ob) (i : IsDict p ob es) (e : EntK G ks us es) (n : ks.Nodup) : DictK G h p ks us := by
  obtain ⟨vs, h1, h2, h3, h4⟩ := entK_pairs e
  obtain ⟨ep, hd⟩ := i.da
  refine ⟨⟨vs, h1, ob, es.toArray, ep, hp, i.ex, hd, fun x hx => h4 x (by simpa using hx), by simpa using h2, ?_⟩, e.len.1, n, i.low, by rw [← e.len.2]; exact i.le⟩
  rw [h3]
  exact n.map (f := kyK) fun a b hab hk => hab (kyK_inj hk)
theorem DictK.back {G : Gm} {h : Heap} {p : Addr} {ks : List Ky} {us : List V} (d : DictK G h p ks us) : ∃ ob es, h.get? p = some ob ∧ IsDict p ob es ∧ EntK G ks us es := by
  obtain ⟨vs, h1, ob, es, ep, g1, g2, g3, g4, g5, g6⟩ := d.ex
  have e := pairs_entK d.ln h1 g5 fun x hx => g4 x (by simpa using hx)
  refine ⟨ob, es.toList, g1, ⟨d.low, g2, ⟨ep, by rw [g3]⟩, ?_⟩, e⟩
  rw [e.len.2]; exact d.le
theorem kvL_val : ∀ {ks : List Ky} {us : List V} {k : Ky}, us.length = ks.length → (valV (kvL ks us) (kyK k)) = (ks.findIdx? fun q => decide (q = k)).bind fun i => us[i]?
  | [], [], _, _ => rfl
  | q :: ks, u :: us, k, h => by
    by_cases e : q = k
    · rw [show kvL (q :: ks) (u :: us) = (kyK q, u) :: kvL ks us from rfl, valV_pos (by rw [e])]
      simp [List.findIdx?_cons, e]
    · rw [show kvL (q :: ks) (u :: us) = (kyK q, u) :: kvL ks us from rfl, valV_neg (fun z => e (kyK_inj z)), kvL_val (by simpa using h)]
      simp only [List.findIdx?_cons, e, decide_false, Bool.false_eq_true, if_false]
      cases (ks.findIdx? fun q => decide (q = k)) <;> simp
theorem kvL_some {ks : List Ky} {us : List V} {k : Ky} (h : us.length = ks.length) : (valV (kvL ks us) (kyK k)).isSome = decide (k ∈ ks) := by
  rw [kvL_val h]
  cases hf : ks.findIdx? fun q => decide (q = k) with
  | none =>
    have : k ∉ ks := fun hk => by
      have := List.findIdx?_eq_none_iff.mp hf k hk
      simp at this
    simp [this]
  | some i =>
    obtain ⟨l1, l2, _⟩ := List.findIdx?_eq_some_iff_getElem.mp hf
    have hk : k ∈ ks := by rw [← of_decide_eq_true l2]; exact List.getElem_mem l1
    have hl : i < us.length := by omega
    simp [hk, hl]
section
variable {X : Cx} {G : Gm}
def DatK (G : Gm) (H : Hp) (a : Addr) (ks : List Ky) (us : List V) : Prop := ∃ ob es, H a = some (dO a ob) ∧ IsDict a ob es ∧ EntK G ks us es ∧ ks.Nodup
theorem DatK.at {pins : List (Addr × Obj)} {σ : L2.St} {H : Hp} {s : Shared} {a : Addr} {ks : List Ky} {us : List V} (I : Inv X pins σ H s) (d : DatK G H a ks us) : DictK G s.heap a ks us := by
  obtain ⟨ob, es, h1, h2, h3, h4⟩ := d
  have x : ObjOk X.prog X.w H s.heap a (dO a ob) := I.hok a _ h1
  exact dictK_of x.1 h2 h3 h4
def rInK (G : Gm) (neg : Bool) : R2 := fun x y H Q => ∃ a ks us k, y = .ref a ∧ DatK G H a ks us ∧ x = keyV k ∧ Q (.bl (decide (k ∈ ks) != neg)) H
theorem op_notInK (hP : X.prog = G.P) (hW : X.w = G.w) : OpR X (compareOp .NotIn) (rInK G true) := by
  intro pins s σ H x y v u Q I rx ry h
  obtain ⟨a, ks, us, k, rfl, d, rfl, q⟩ := h
  cases ry
  have dk := d.at I
  obtain ⟨vs, r, dd⟩ := dk.ex
  rw [← hP, ← hW] at dd
  refine wpAny_notIn_of (kV_is (by rw [← keyV_kV]; exact rx)) dk.low dd.mapOf ?_
  rw [← (r.val (kyK k)).isSome_eq, kvL_some dk.ln]
  exact ⟨.bl _, H, I.tok _, rfl, by simpa using q⟩
def rIxK (G : Gm) : R2 := fun x y H Q => ∃ a ks us k i u, x = .ref a ∧ DatK G H a ks us ∧ y = keyV k ∧ (ks.findIdx? fun q => decide (q = k)) = some i ∧ us[i]? = some u ∧ Q u H
theorem ix_K (hP : X.prog = G.P) (hW : X.w = G.w) : IxR X (rIxK G) := by
  intro value slice pins s σ H x y v u Q I rx ry h hs
  obtain ⟨a, ks, us, k, i, z, rfl, d, rfl, h1, h2, q⟩ := h
  obtain rfl : v = Value.ref a := rx
  have dk := d.at I
  obtain ⟨vs, r, dd⟩ := dk.ex
  rw [← hP, ← hW] at dd
  have hv : valV (kvL ks us) (kyK k) = some z := by rw [kvL_val dk.ln, h1]; exact h2
  obtain ⟨w', hw, rw'⟩ := RelO.some_of (v := z) (o := valueAt vs (kyK k)) (by rw [← hv]; exact r.val _)
  exact tail_any dd.typeIs PySem.slot_dict_getitem.lookup (wpAny_getItem_of (kV_is (by rw [← keyV_kV]; exact ry)) dd.mapOf hw ⟨z, H, I.tok _, rw', q⟩) hs
theorem Inv.dict {pins : List (Addr × Obj)} {σ : L2.St} {H : Hp} {s : Shared} {a : Addr} {h' : Heap} {t' : Nat} {ks' : List Ky} {us' : List V} (I : Inv X pins σ H s) (mu : Mut (H a)) (hs : Heap.SameBut a s.heap h') (d : DictK G h' a ks' us') : ∃ ob es, IsDict a ob es ∧ EntK G ks' us' es ∧ Inv X pins σ (L2.upd H a (dO a ob)) { s with heap := h', toks := t' } := by
  obtain ⟨ob, es, h1, h2, h3⟩ := d.back
  exact ⟨ob, es, h2, h3, d_write I mu hs ⟨ob, h1⟩ ⟨h1, ⟨ob, h1⟩, fun _ _ p e => e _ p⟩⟩
end
def keyT : T → Option Ky
  | .im (.int n) => some (.i n)
  | .im (.str s) => some (.s s)
  | _ => none
def keyE : EV → Option Ky
  | .im (.int n) => some (.i n)
  | .im (.str s) => some (.s s)
  | _ => none
theorem keyT_rep {G : Gm} {Z : Addr → Prop} {H : Hp} {x : T} {k : Ky} {v : V} {d : D} (h : keyT x = some k) (r : RepT G Z H x v d) : v = keyV k := by
  unfold keyT at h
  split at h
  · cases h; exact r.2
  · cases h; exact r.2
  · cases h
theorem keyE_sim {G : Gm} {g : Gh} {env : Env3} {σ : L2.St} {H : Hp} {e : EV} {k : Ky} {v : V} (h : keyE e = some k) (r : SimE G g env σ H e v) : v = keyV k := by
  unfold keyE at h
  split at h
  · cases h; exact r.imR
  · cases h; exact r.imR
  · cases h
def kfind (k : Ky) (kvs : List (Ky × T)) : Option Nat := kvs.findIdx? fun q => decide (q.1 = k)
theorem kfind_keys (k : Ky) (kvs : List (Ky × T)) : ((kvs.map (·.1)).findIdx? fun q => decide (q = k)) = kfind k kvs := by
  unfold kfind; rw [List.findIdx?_map]; rfl
def khas (k : Ky) (kvs : List (Ky × T)) : Bool := decide (k ∈ kvs.map (·.1))
section
variable {X : Cx} {G : Gm} {Wx : WX} {g : Gh} {env env' : Env3} {σ : L2.St} {H : Hp}
theorem repMd {Z : Addr → Prop} {kvs : List (Ky × T)} {v : V} {d : D} (r : RepT G Z H (.md kvs) v d) : ∃ a us ds, v = .ref a ∧ d = .nd (some a) true ds ∧ DatK G H a (kvs.map (·.1)) us ∧ RepTL G Z H (kvs.map (·.2)) us ds := by
  obtain ⟨p, ob, es, us, ds, e1, e2, q, ⟨a1, a2, a3⟩, r⟩ := r
  exact ⟨p, us, ds, e1, e2, ⟨ob, es, q, a1, a2, a3⟩, repTK_iff.mp r⟩
def fInM (neg : Bool) : F2 := fun x y => match y with
  | .md kvs => (keyT x).map fun k => .im (.bl (khas k kvs != neg))
  | _ => none
theorem op_fNotInM (hP : X.prog = G.P) (hW : X.w = G.w) : OpR X (compareOp .NotIn) (liftR G (fInM true)) := by
  refine opR_imp (op_notInK hP hW) ?_
  rintro x y H Q ⟨g, env, σ, ds, tx, ty, dx, dy, ev, s, rx, ry, q, k⟩
  unfold fInM at q
  split at q
  · obtain ⟨ky, hk, rfl⟩ := Option.map_eq_some_iff.mp q
    obtain ⟨a, us, ds2, rfl, _, d, _⟩ := repMd ry
    exact ⟨a, _, us, ky, rfl, d, keyT_rep hk rx, k g _ H (Keep.refl g H) (s.im rfl)⟩
  · cases q
def ixM : EV → EV → Env3 → Option EV := fun ob iv env => match rd env ob with
  | some (.md kvs) => (keyE iv).bind fun k => ((T.md kvs).kid (.key k)).map (kidEV ob (.key k))
  | _ => none
end
section
variable {X : Cx} {G : Gm} {Wx : WX} {g : Gh} {env env' : Env3} {σ : L2.St} {H : Hp}
end
end VL
namespace VL
open PySem L2 PyProof.Rows
section
variable {X : Cx} {G : Gm} {Wx : WX} {g : Gh} {env env' : Env3} {σ : L2.St} {H : Hp}
theorem SimE.dat {ob : EV} {v : V} {kvs : List (Ky × T)} (s : SimE G g env σ H ob v) (hx : VL.rd env ob = some (.md kvs)) : ∃ a us, v = .ref a ∧ DatK G H a (kvs.map (·.1)) us := by
  obtain ⟨d, r⟩ := s.rd hx
  obtain ⟨a, us, ds, e, _, h, _⟩ := repMd r
  exact ⟨a, us, e, h⟩
theorem DatK.inj {a : Addr} {ks : List Ky} {us us' : List V} {ob : Obj} {es : List DictEntry} (h : H a = some (dO a ob)) (i : IsDict a ob es) (e : EntK G ks us es) (n : ks.Nodup) : DatK G H a ks us := ⟨ob, es, h, i, e, n⟩
theorem ix_M (hP : X.prog = G.P) (hW : X.w = G.w) : IxR X (lift2 G ixM) := by
  refine ixR_imp (ix_K hP hW) ?_
  rintro x y H Q ⟨g, env, σ, ob, iv, ev, s, q, k⟩
  unfold ixM at q
  split at q
  · rename_i kvs hx
    obtain ⟨ky, hk, q⟩ := Option.bind_eq_some_iff.mp q
    obtain ⟨c, h3, rfl⟩ := Option.map_eq_some_iff.mp q
    obtain ⟨n, a, ow, us, u, q1, q2, q3, q4, q5⟩ := s.hd.kid hx h3
    obtain ⟨p, ob', es, rfl, _, _, hp, i1, i2, i3⟩ := q2
    have hy : y = keyV ky := keyE_sim hk s.snd
    refine ⟨p, _, us, ky, n, u, rfl, ⟨ob', es, hp, i1, i2, i3⟩, hy, ?_, q3, k g u H (Keep.refl g H) q5⟩
    rw [kfind_keys]; exact q1
  · cases q
theorem kvL_drop : ∀ {ks : List Ky} {us : List V} {k : Ky} {i : Nat}, us.length = ks.length → ks.Nodup → (ks.findIdx? fun q => decide (q = k)) = some i → dropK (kvL ks us) (kyK k) = kvL (ks.eraseIdx i) (us.eraseIdx i) := by
  intro ks us k i hl hn hi
  induction ks generalizing us i with
  | nil => simp at hi
  | cons q ks ih => cases us with
    | nil => simp at hl
    | cons u us =>
      have hn2 := List.nodup_cons.mp hn
      have hl' : us.length = ks.length := by simpa using hl
      have step : dropK (kvL (q :: ks) (u :: us)) (kyK k) = if q = k then dropK (kvL ks us) (kyK k) else (kyK q, u) :: dropK (kvL ks us) (kyK k) := by
        show ((kyK q, u) :: kvL ks us).filter (fun kv => decide (kv.1 ≠ kyK k)) = _
        rw [List.filter_cons]
        by_cases e : q = k
        · subst e; simp [dropK]
        · have : kyK q ≠ kyK k := fun z => e (kyK_inj z)
          simp [e, this, dropK]
      rw [step]
      by_cases eq : q = k
      · subst eq
        have : i = 0 := by simpa [List.findIdx?_cons] using hi.symm
        subst this
        rw [if_pos rfl]
        show (kvL ks us).filter (fun kv => decide (kv.1 ≠ kyK q)) = kvL ks us
        rw [List.filter_eq_self]
        intro x hx
        refine decide_eq_true fun hx1 => ?_
        have : x.1 ∈ (kvL ks us).map (·.1) := List.mem_map_of_mem hx
        rw [kvL_keys hl', hx1] at this
        obtain ⟨q', h1, h2⟩ := List.mem_map.mp this
        exact hn2.1 (kyK_inj h2 ▸ h1)
      · rw [if_neg eq]
        have hi' : ∃ j, i = j + 1 ∧ (ks.findIdx? fun q => decide (q = k)) = some j := by
          simp only [List.findIdx?_cons, eq, decide_false, Bool.false_eq_true, if_false] at hi
          obtain ⟨j, hj, rfl⟩ := Option.map_eq_some_iff.mp hi
          exact ⟨j, rfl, hj⟩
        obtain ⟨j, rfl, hj⟩ := hi'
        rw [ih hl' hn2.2 hj]
        rfl
theorem erase_nodup {α : Type} {l : List α} (h : l.Nodup) (i : Nat) : (l.eraseIdx i).Nodup := h.sublist (List.eraseIdx_sublist ..)
theorem DictK.drop {h h' : Heap} {a : Addr} {ks : List Ky} {us : List V} {k : Ky} {i : Nat} (d : DictK G h a ks us) (hf : (ks.findIdx? fun q => decide (q = k)) = some i) (vs : List (L2.Key × Value)) (hr : KV (kvL ks us) vs) (dd : h'.DictOf (mixKind G.P G.w) a (without vs (kyK k))) : DictK G h' a (ks.eraseIdx i) (us.eraseIdx i) := by
  obtain ⟨l1, _, _⟩ := List.findIdx?_eq_some_iff_getElem.mp hf
  refine ⟨⟨_, by rw [← kvL_drop d.ln d.nd hf]; exact hr.drop _, dd⟩, ?_, erase_nodup d.nd i, d.low, ?_⟩
  · rw [List.length_eraseIdx, List.length_eraseIdx, d.ln]
  · rw [List.length_eraseIdx]; have := d.le; split <;> omega
def rLenK (G : Gm) : List V → Hp → VK → Prop := fun xs H Q => ∃ a ks us, xs = [.ref a] ∧ DatK G H a ks us ∧ ks.length ≤ 10000000 ∧ Q (.int ks.length) H
theorem call_lenK (hP : X.prog = G.P) (hW : X.w = G.w) : CallR X (.builtin "len") (rLenK G) := by
  intro pins s σ H xs us' Q I rxs h
  obtain ⟨a, ks, us, rfl, d, hl, q⟩ := h
  obtain ⟨u, rfl, rx⟩ := vals1 rxs
  obtain rfl : u = Value.ref a := rx
  have dk := d.at I
  obtain ⟨vs, r, dd⟩ := dk.ex
  rw [← hP, ← hW] at dd
  have hv : vs.length = ks.length := by rw [← r.length, kvL_len dk.ln]
  refine call_len_dict dk.low dd (by rw [hv]; omega) ?_
  rw [hv]
  exact ⟨.int ks.length, H, I.tok _, ⟨_, rfl⟩, q⟩
end
section
variable {X : Cx} {G : Gm} {Wx : WX} {g : Gh} {env env' : Env3} {σ : L2.St} {H : Hp}
end
end VL
namespace VL
open PySem L2 PyProof.Rows
def fInD : F2 := fun x y => match y with
  | .md kvs => fInM false x (.md kvs)
  | y => fIn x y
def fNotInD : F2 := fun x y => match y with
  | .md kvs => fInM true x (.md kvs)
  | y => fNotIn x y
def ixD : EV → EV → Env3 → Option EV := fun ob iv env => match rd env ob with
  | some (.md _) => ixM ob iv env
  | _ => ixE ob iv env
def eIxD (fo fi : M3 EV) : M3 EV := fun env => match ePair fo fi env with
  | .ok (x, y) e1 => (match ixD x y e1 with
    | some ev => .ok ev e1
    | none => .stuck)
  | .exc c e1 => .exc c e1
  | .stuck => .stuck
def lenD (x : T) : Option Nat := match x with
  | .md kvs => if kvs.length ≤ 10000000 then some kvs.length else none
  | x => lenT x
def rLenD : FC := fun evs env => match evs with
  | [ev] => (rd env ev).bind fun x => (lenD x).map fun n : Nat => .im (.int (n : Int))
  | _ => none
section
variable {X : Cx} {G : Gm} {Wx : WX} {g g' : Gh} {env env' : Env3} {σ : L2.St} {H H' : Hp} {p pos pos' apos cpos : Pos} {e o a b i value : Expr} {es : List Expr} {fa fb fe fo fi fv : M3 EV} {t : M3 (List EV)}
theorem md_or (y : T) : (∃ kvs, y = .md kvs) ∨ ∀ kvs, y ≠ .md kvs := by
  cases y with
  | md kvs => exact .inl ⟨kvs, rfl⟩
  | _ => exact .inr fun _ h => nomatch h
theorem fInD_ne {x y : T} (h : ∀ kvs, y ≠ .md kvs) : fInD x y = fIn x y ∧ fNotInD x y = fNotIn x y := by
  unfold fInD fNotInD
  cases y with
  | md kvs => exact (h kvs rfl).elim
  | _ => exact ⟨rfl, rfl⟩
theorem op_fNotInD (hu : X.A.units + 65 < cLine) (hK : X.K = G.K) (hP : X.prog = G.P) (hW : X.w = G.w) : OpR X (compareOp .NotIn) (liftR G fNotInD) := by
  refine opR_imp (opR_or (op_fNotInM hP hW) (op_fNotIn hK hu)) ?_
  rintro x y H Q ⟨g, env, σ, ds, tx, ty, dx, dy, ev, s, rx, ry, q, k⟩
  rcases md_or ty with ⟨kvs, rfl⟩ | hn
  · exact .inl ⟨g, env, σ, ds, tx, _, dx, dy, ev, s, rx, ry, q, k⟩
  · exact .inr ⟨g, env, σ, ds, tx, _, dx, dy, ev, s, rx, ry, by rw [← (fInD_ne hn).2]; exact q, k⟩
theorem sb_notinD (hu : X.A.units + 65 < cLine) (ha : SE G X Wx a fa) (hb : SE G X Wx b fb) (hm : behindInMarks .NotIn b = false := by rfl) (hK : X.K = G.K := by rfl) (hP : X.prog = G.P := by rfl) (hW : X.w = G.w := by rfl) : SB G X Wx (.Compare a [.NotIn] [b] pos) (bVal (eOp fNotInD fa fb)) := sb_cmp (op_fNotInD hu hK hP hW) ha hb hm
theorem ix_D (hK : X.K = G.K) (hP : X.prog = G.P) (hW : X.w = G.w) : IxR X (lift2 G ixD) := by
  refine ixR_imp (ixR_or (ix_M hP hW) (ix_all hK)) ?_
  rintro x y H Q ⟨g, env, σ, ob, iv, ev, s, q, k⟩
  unfold ixD at q
  split at q
  · exact .inl ⟨g, env, σ, ob, iv, ev, s, q, k⟩
  · exact .inr ⟨g, env, σ, ob, iv, ev, s, q, k⟩
theorem se_ixD (hu : X.A.units + 65 < cLine) (ha : SE G X Wx a fa) (hb : SE G X Wx b fb) (hs : PlainIx b := by exact fun _ _ => rfl) (hK : X.K = G.K := by rfl) (hP : X.prog = G.P := by rfl) (hW : X.w = G.w := by rfl) : SE G X Wx (.Subscript a b pos) (eIxD fa fb) := pe_imp (pe_ix (ix_D hK hP hW) ha hb hs) fun σ H Q h => eIx_mid h
theorem call_rLenM (hP : X.prog = G.P) (hW : X.w = G.w) (hK : X.K = G.K) : CallR X (.builtin "len") (liftC G rLenD) := by
  refine callR_imp (callR_or (call_lenK hP hW) (call_rLen hK)) ?_
  rintro xs H Q ⟨g, env, σ, evs, ev, s, q, k⟩
  unfold rLenD at q
  split at q
  · rename_i ev1
    obtain ⟨x, hx, q⟩ := Option.bind_eq_some_iff.mp q
    rcases md_or x with ⟨kvs, rfl⟩ | hn
    · obtain ⟨n, hl, rfl⟩ := Option.map_eq_some_iff.mp q
      unfold lenD at hl
      dsimp only at hl
      split at hl
      · rename_i hz
        cases hl
        obtain ⟨v, d, rfl, r⟩ := s.tree1 hx
        obtain ⟨a, us, ds2, rfl, _, dat, _⟩ := repMd r
        obtain ⟨ds, _, sm, _⟩ := id s
        refine .inl ⟨a, _, us, rfl, dat, by simpa using hz, ?_⟩
        rw [List.length_map]
        exact k g _ H (Keep.refl g H) (sm.im rfl)
      · cases hl
    · refine .inr ⟨g, env, σ, [ev1], ev, s, ?_, k⟩
      have e : lenD x = lenT x := by
        unfold lenD
        cases x with
        | md kvs => exact (hn kvs rfl).elim
        | _ => rfl
      rw [e] at q
      show ((rd env ev1).bind fun x => (lenT x).map fun n : Nat => EV.im (.int (n : Int))) = some ev
      rw [hx]; exact q
  · cases q
theorem se_lenD (hg : Gl X "len") (hm : X.mg "len" = none) (ha : SA G X Wx (e :: es) t) (hK : X.K = G.K := by rfl) (hP : X.prog = G.P := by rfl) (hW : X.w = G.w := by rfl) (he : starEach (e :: es) X.env = (false, eval e X.env) :: starEach es X.env := by rfl) (hpl : (backTo pos (starEach es X.env)).any (·.1) = false := by rfl) :
    SE G X Wx (.Call (.Name "len" p) (e :: es) [] pos) (eCB rLenD t) := se_callB (call_rLenM hP hW hK) hg hm PySem.boot_len ha (by decide) (by decide) he hpl
end
end VL
namespace VL
open PySem L2 PyProof.Rows
section
variable {X : Cx} {G : Gm} {Wx : WX} {g g' : Gh} {env env' : Env3} {σ : L2.St} {H H' : Hp} {p pos pos' apos cpos : Pos} {e o a b i value : Expr} {es : List Expr} {fa fb fe fo fi fv : M3 EV} {t : M3 (List EV)} {Z : Addr → Prop}
end
end VL
namespace VL
open PySem PySem.Spec L2 PyProof.Rows
def cpsS (s : String) : List Nat := s.toList.map Char.toNat
section
variable {X : Cx} {G : Gm} {Wx : WX} {g g' : Gh} {env env' : Env3} {σ : L2.St} {H H' : Hp} {p pos pos' apos cpos : Pos} {e o a b i value : Expr} {es : List Expr} {t : M3 (List EV)} {Z : Addr → Prop}
end
end VL
namespace VL
open PySem L2 PyProof.Rows
section
variable {X : Cx} {G : Gm} {Wx : WX} {g g' : Gh} {env env' : Env3} {σ : L2.St} {H H' : Hp} {Z : Addr → Prop}
mutual
theorem nestedIs_of {pins : List (Addr × Obj)} {s : Shared} (I : Inv X pins σ H s) (hK : X.K = G.K) : ∀ {w : W} {v : V} {u : Value}, w.kp = true → Rep G Z H w v → RelV v u → NestedIs s.heap (W.nk w) u
  | .non, v, u, _, r, q => by cases r; obtain rfl : u = Value.none := q; exact .none
  | .bl b, v, u, _, r, q => by cases r; obtain rfl : u = Value.bool b := q; exact .bool rfl
  | .int i, v, u, _, r, q => by cases r; obtain ⟨t, rfl⟩ : ∃ t, u = Value.int i t := q; exact .int i t
  | .str x, v, u, _, r, q => by cases r; obtain ⟨t, rfl⟩ : ∃ t, u = Value.str (Str.ofString x) t := q; exact .text _ t
  | .tup xs, v, u, h, r, q => by
    obtain ⟨p, vs, rfl, hp, rl⟩ := r
    obtain rfl : u = Value.ref p := q
    have x := I.hok p _ hp
    obtain ⟨_, its, hv, o, ho, hc, n, hd⟩ := x
    exact .tup ho hc hd (nestedAll_of I hK h rl (by simpa using hv))
  | .lst _, _, _, h, _, _ => by cases h
  | .scr _, _, _, h, _, _ => by cases h
  | .ktp _, _, _, h, _, _ => by cases h
  | .ins _ _, _, _, h, _, _ => by cases h
theorem nestedAll_of {pins : List (Addr × Obj)} {s : Shared} (I : Inv X pins σ H s) (hK : X.K = G.K) : ∀ {ws : List W} {vs : List V} {us : List Value}, W.kps ws = true → RepL G Z H ws vs → Vals vs us → NestedAll s.heap (W.nks ws) us
  | [], vs, us, _, r, q => by cases r; cases q; exact .nil
  | w :: ws, vs, us, h, r, q => by
    obtain ⟨v, r', rfl, ra, rb⟩ := r
    cases q with
    | cons q1 q2 =>
      have h2 : (w.kp && W.kps ws) = true := h
      simp only [Bool.and_eq_true] at h2
      exact .cons (nestedIs_of I hK h2.1 ra q1) (nestedAll_of I hK h2.2 rb q2)
end
theorem hkW_is {pins : List (Addr × Obj)} {s : Shared} (I : Inv X pins σ H s) (hK : X.K = G.K) {k : W} {b : Addr} (h : hkW k = true) (r : Rep G Z H k (.ref b)) : (nestedKind X.prog X.w).is s.heap (W.nk k) b := by
  cases k with
  | tup xs =>
    have h2 : (W.kps xs && decide ((W.nk (.tup xs)).depth ≤ 8)) = true := h
    simp only [Bool.and_eq_true, decide_eq_true_eq] at h2
    exact ⟨nestedIs_of I hK h2.1 r rfl, h2.2⟩
  | _ => cases h
def XsT (G : Gm) (Z : Addr → Prop) (H : Hp) : List (W × W) → List (NestedKey × Addr × Value) → Prop
  | [], ys => ys = []
  | (k, x) :: r, ys => ∃ b val u yr, ys = (W.nk k, b, val) :: yr ∧ Rep G Z H k (.ref b) ∧ hkW k = true ∧ RelV u val ∧ Rep G Z H x u ∧ XsT G Z H r yr
theorem entT_xs {P : Program} {w : World} (hP : P = G.P) (hW : w = G.w) : ∀ {kvs : List (W × W)} {es : List DictEntry}, EntT G Z H kvs es → ∃ ys, XsT G Z H kvs ys ∧ es = ys.map (entryOfKey (nestedKind P w))
  | [], es, h => ⟨[], rfl, h⟩
  | (k, x) :: r, es, ⟨b, u, e, er, h1, h2, h3, h4, h5, h6, h7, h8⟩ => by
    obtain ⟨ys, q1, q2⟩ := entT_xs hP hW h8
    refine ⟨(W.nk k, b, e.val) :: ys, ⟨b, e.val, u, ys, rfl, h3, h4, h6, h7, q1⟩, ?_⟩
    rw [h1, q2, List.map_cons]
    congr 1
    obtain ⟨eh, ek, ev⟩ := e
    subst hP hW
    simp only at h2 h5
    subst h2 h5
    rfl
theorem xs_entT {P : Program} {w : World} (hP : P = G.P) (hW : w = G.w) : ∀ {kvs : List (W × W)} {ys : List (NestedKey × Addr × Value)}, XsT G Z H kvs ys → EntT G Z H kvs (ys.map (entryOfKey (nestedKind P w)))
  | [], ys, h => by cases h; rfl
  | (k, x) :: r, ys, ⟨b, val, u, yr, h1, h2, h3, h4, h5, h6⟩ => by
    subst h1 hP hW
    exact ⟨b, u, _, _, rfl, rfl, h2, h3, rfl, h4, h5, xs_entT rfl rfl h6⟩
theorem XsT.keys : ∀ {kvs : List (W × W)} {ys : List (NestedKey × Addr × Value)}, XsT G Z H kvs ys → ys.map (·.1) = kvs.map fun q => W.nk q.1
  | [], ys, h => by cases h; rfl
  | (k, x) :: r, ys, ⟨b, val, u, yr, h1, h2, h3, h4, h5, h6⟩ => by subst h1; simp [XsT.keys h6]
theorem XsT.len {kvs : List (W × W)} {ys : List (NestedKey × Addr × Value)} (h : XsT G Z H kvs ys) : ys.length = kvs.length := by
  have := congrArg List.length h.keys; simpa using this
theorem XsT.is {pins : List (Addr × Obj)} {s : Shared} (I : Inv X pins σ H s) (hK : X.K = G.K) : ∀ {kvs : List (W × W)} {ys : List (NestedKey × Addr × Value)}, XsT G Z H kvs ys → ∀ y ∈ ys, (nestedKind X.prog X.w).is s.heap y.1 y.2.1
  | [], ys, h, y, hy => by cases h; cases hy
  | (k, x) :: r, ys, ⟨b, val, u, yr, h1, h2, h3, h4, h5, h6⟩, y, hy => by
    subst h1
    rcases List.mem_cons.mp hy with rfl | hy
    · exact hkW_is I hK h3 h2
    · exact XsT.is I hK h6 y hy
def tfind (k : W) (kvs : List (W × W)) : Option Nat := kvs.findIdx? fun q => decide (W.nk q.1 = W.nk k)
def tput (k x : W) (kvs : List (W × W)) : List (W × W) := match tfind k kvs with
  | some i => setV i x kvs
  | none => kvs ++ [(k, x)]
theorem tfind_cons (k : W) (q : W × W) (r : List (W × W)) : tfind k (q :: r) = if W.nk q.1 = W.nk k then some 0 else (tfind k r).map (· + 1) := by
  unfold tfind
  rw [List.findIdx?_cons]
  by_cases h : W.nk q.1 = W.nk k <;> simp [h]
theorem XsT.at {k : W} : ∀ {kvs : List (W × W)} {ys : List (NestedKey × Addr × Value)}, XsT G Z H kvs ys → match tfind k kvs with
    | some i => ∃ q b val u, kvs[i]? = some q ∧ atKey ys (W.nk k) = some (b, val) ∧ RelV u val ∧ Rep G Z H q.2 u
    | none => atKey ys (W.nk k) = none
  | [], ys, h => by cases h; rfl
  | (k0, x0) :: r, ys, ⟨b, val, u, yr, h1, h2, h3, h4, h5, h6⟩ => by
    subst h1
    rw [tfind_cons]
    by_cases e : W.nk k0 = W.nk k
    · rw [if_pos e]
      exact ⟨(k0, x0), b, val, u, rfl, by simp [atKey, e], h4, h5⟩
    · rw [if_neg e]
      have ih := XsT.at (k := k) h6
      have ea : atKey ((W.nk k0, b, val) :: yr) (W.nk k) = atKey yr (W.nk k) := by simp [atKey, e]
      rw [ea]
      cases hf : tfind k r with
      | none => rw [hf] at ih; exact ih
      | some i => rw [hf] at ih; obtain ⟨q, b', v', u', i1, i2, i3, i4⟩ := ih; exact ⟨q, b', v', u', i1, i2, i3, i4⟩
theorem putAt_ne {k : NestedKey} {v : Value} : ∀ {ys : List (NestedKey × Addr × Value)}, k ∉ ys.map (·.1) → ys.map (putAt k v) = ys
  | [], _ => rfl
  | y :: r, h => by
    simp only [List.map_cons, List.mem_cons, not_or] at h
    rw [List.map_cons, putAt_ne h.2]
    unfold putAt
    rw [if_neg fun e => h.1 e.symm]
theorem XsT.set {k x : W} {u : V} {val : Value} (hu : RelV u val) (hx : Rep G Z H x u) : ∀ {kvs : List (W × W)} {ys : List (NestedKey × Addr × Value)} {i : Nat}, (kvs.map fun q => W.nk q.1).Nodup → XsT G Z H kvs ys → tfind k kvs = some i → XsT G Z H (setV i x kvs) (ys.map (putAt (W.nk k) val))
  | [], ys, i, _, h, hi => by simp [tfind] at hi
  | (k0, x0) :: r, ys, i, hn, ⟨b, val0, u0, yr, h1, h2, h3, h4, h5, h6⟩, hi => by
    subst h1
    have hn2 := List.nodup_cons.mp hn
    rw [tfind_cons] at hi
    by_cases e : W.nk k0 = W.nk k
    · rw [if_pos e] at hi; cases hi
      have : W.nk k ∉ yr.map (·.1) := by rw [h6.keys, ← e]; exact hn2.1
      rw [List.map_cons, putAt_ne this]
      refine ⟨b, val, u, yr, ?_, h2, h3, hu, hx, h6⟩
      unfold putAt; rw [if_pos e]
    · rw [if_neg e] at hi
      obtain ⟨j, hj, rfl⟩ := Option.map_eq_some_iff.mp hi
      refine ⟨b, val0, u0, yr.map (putAt (W.nk k) val), ?_, h2, h3, h4, h5, XsT.set hu hx hn2.2 h6 hj⟩
      rw [List.map_cons]; unfold putAt; rw [if_neg e]
theorem withoutH_ne {k : NestedKey} : ∀ {ys : List (NestedKey × Addr × Value)}, k ∉ ys.map (·.1) → withoutH ys k = ys := fun {ys} h => withoutH_of_not_mem ys k h
theorem XsT.drop {k : W} : ∀ {kvs : List (W × W)} {ys : List (NestedKey × Addr × Value)} {i : Nat}, (kvs.map fun q => W.nk q.1).Nodup → XsT G Z H kvs ys → tfind k kvs = some i → XsT G Z H (kvs.eraseIdx i) (withoutH ys (W.nk k))
  | [], ys, i, _, h, hi => by simp [tfind] at hi
  | (k0, x0) :: r, ys, i, hn, ⟨b, val0, u0, yr, h1, h2, h3, h4, h5, h6⟩, hi => by
    subst h1
    have hn2 := List.nodup_cons.mp hn
    rw [tfind_cons] at hi
    by_cases e : W.nk k0 = W.nk k
    · rw [if_pos e] at hi; cases hi
      have hm : W.nk k ∉ yr.map (·.1) := by rw [h6.keys, ← e]; exact hn2.1
      have : withoutH ((W.nk k0, b, val0) :: yr) (W.nk k) = yr := by
        have := withoutH_ne hm
        unfold withoutH at this ⊢
        rw [List.filter_cons, if_neg (by simp [e]), this]
      rw [this]
      exact h6
    · rw [if_neg e] at hi
      obtain ⟨j, hj, rfl⟩ := Option.map_eq_some_iff.mp hi
      have : withoutH ((W.nk k0, b, val0) :: yr) (W.nk k) = (W.nk k0, b, val0) :: withoutH yr (W.nk k) := by
        unfold withoutH
        rw [List.filter_cons, if_pos (by simpa using e)]
      rw [this]
      exact ⟨b, val0, u0, _, rfl, h2, h3, h4, h5, XsT.drop hn2.2 h6 hj⟩
end
end VL
namespace VL
open PySem L2 PyProof.Rows
section
variable {X : Cx} {G : Gm} {Wx : WX} {g g' : Gh} {env env' : Env3} {σ : L2.St} {H H' : Hp}
def DatT (G : Gm) (Z : Addr → Prop) (H : Hp) (a : Addr) (kvs : List (W × W)) : Prop := ∃ ob es, H a = some (dO a ob) ∧ IsDict a ob es ∧ EntT G Z H kvs es ∧ (kvs.map fun q => W.nk q.1).Nodup
structure DictT (X : Cx) (G : Gm) (Z : Addr → Prop) (H : Hp) (h : Heap) (a : Addr) (kvs : List (W × W)) (ys : List (NestedKey × Addr × Value)) : Prop where
  of : h.DictOfH (nestedKind X.prog X.w) a ys
  xs : XsT G Z H kvs ys
  nd : (kvs.map fun q => W.nk q.1).Nodup
  low : (a == sysModules) = false
  le : kvs.length ≤ sizeLine
theorem DatT.at {Z : Addr → Prop} {pins : List (Addr × Obj)} {s : Shared} {a : Addr} {kvs : List (W × W)} (I : Inv X pins σ H s) (hK : X.K = G.K) (hP : X.prog = G.P) (hW : X.w = G.w) (d : DatT G Z H a kvs) : ∃ ys, DictT X G Z H s.heap a kvs ys := by
  obtain ⟨ob, es, h1, h2, h3, h4⟩ := d
  have x : ObjOk X.prog X.w H s.heap a (dO a ob) := I.hok a _ h1
  obtain ⟨ys, q1, q2⟩ := entT_xs hP hW h3
  obtain ⟨ep, hd⟩ := h2.da
  refine ⟨ys, ⟨ob, es.toArray, ep, x.1, h2.ex, hd, by simpa using q2, q1.is I hK, by rw [q1.keys]; exact h4⟩, q1, h4, h2.low, ?_⟩
  have := h2.le
  rw [q2, List.length_map, q1.len] at this
  exact this
end
end VL
namespace PySem
open PyProof.Rows
end PySem
namespace VL
open PySem L2 PyProof.Rows
section
variable {X : Cx} {G : Gm} {Wx : WX} {g g' : Gh} {env env' : Env3} {σ : L2.St} {H H' : Hp} {p pos pos' apos cpos : Pos} {e o a b i value : Expr} {es : List Expr} {fa fb fe fo fi fv : M3 EV} {t : M3 (List EV)}
end
end VL
namespace VL
open PySem L2 PyProof.Rows
section
variable {P : Program} {w : World} {K : PySem.W.Frag} {X : Cx} {G : Gm} {Wx : WX} {g g' : Gh} {env env' : Env3} {σ : L2.St} {H H' : Hp} {d : Addr} {ob : Obj} {es : List DictEntry} {ks : List Ky} {us : List V}
structure ObK (G : Gm) (d : Addr) (ob : Obj) (ks : List Ky) (us : List V) : Prop where
  ex : ∃ es, IsDict d ob es ∧ EntK G ks us es
  nd : ks.Nodup
theorem ObK.at {pins : List (Addr × Obj)} {s : Shared} (o : ObK G d ob ks us) (hP : X.prog = G.P) (hW : X.w = G.w) (I : Inv X pins σ H s) (h : H d = some (dO d ob)) :
    (d == sysModules) = false ∧ s.heap.get? d = some ob ∧ ob.ExactDict ∧ us.length = ks.length ∧ ∃ (es : Array DictEntry) (ep : Nat) (vs : List (L2.Key × Value)), ob.data = .dict es ep ∧ es.size = ks.length ∧ KV (kvL ks us) vs ∧ s.heap.DictAt (mixKind X.prog X.w) d vs ep := by
  obtain ⟨es, i, e⟩ := o.ex
  have x : ObjOk X.prog X.w H s.heap d (dO d ob) := I.hok d _ h
  have hp : s.heap.get? d = some ob := x.1
  obtain ⟨vs, h1, h2, h3, h4⟩ := entK_pairs e
  obtain ⟨ep, hd⟩ := i.da
  refine ⟨i.low, hp, i.ex, e.len.1, es.toArray, ep, vs, hd, by simp [e.len.2], h1, ob, es.toArray, hp, i.ex, hd, ?_, ?_, ?_⟩
  · rw [hP, hW]; exact fun x hx => h4 x (by simpa using hx)
  · rw [hP, hW]; simpa using h2
  · rw [h3]; exact o.nd.map (f := kyK) fun a b hab hk => hab (kyK_inj hk)
variable {tg : Expr}
variable {e : Expr} {td : TE} {apos cpos : Pos}
end
end VL
namespace VL
open PySem L2 PyProof.Rows
section
variable {prog : Program} {w : World} {A : Around} {E : Value → Shared → Prop} {s : Shared} {r : Addr} {a c : Int} {n : Nat}
end
section
variable {X : Cx} {G : Gm} {Wx : WX} {g g' : Gh} {env env' : Env3} {σ : L2.St} {H H' : Hp} {ds : Nat → D} {p p2 p3 pos pos2 pos3 : Pos} {e : Expr} {fe : M3 EV} {te : L2.St → Hp → (Int → Int → Hp → Prop) → Prop}
end
end VL
namespace VL
open PySem L2 PyProof.Rows
section
variable {X : Cx} {G : Gm} {Wx : WX} {g g' : Gh} {env env' : Env3} {σ : L2.St} {H H' : Hp} {ds : Nat → D} {p pos : Pos} {ek ev : Expr} {fk fv : M3 EV}
theorem Keep.wr (s : Sim G g env σ H ds) {a : Addr} {ob ob' : Obj} (hp : H a = some (dO a ob)) (nz : ¬ g.Z a) (np : ¬ g.P a) (nf : ∀ i, a ∉ fp (ds i)) : Keep g H g (L2.upd H a (dO a ob')) := by
  have ne : ∀ q, q ≠ a → L2.upd H a (dO a ob') q = H q := fun q h => upd_ne h
  refine ⟨fun q z => ⟨z, ne q fun e => nz (e ▸ z)⟩, fun q z => ⟨z, ne q fun e => np (e ▸ z)⟩, fun q z => z, fun b xs h => ?_, FK.mut hp trivial, rfl, rfl, rfl, fun i q hq => ne q.2 fun e => ?_⟩
  · rw [ne b fun e => ?_]; exact h
    subst e; rw [hp] at h; unfold dO at h; cases h
  · by_cases ho : ∃ p L t, env[i]? = some (some (SV.own p L t))
    · obtain ⟨p, L, t, ho⟩ := ho
      obtain ⟨v, _, r, _, _, _, r6⟩ := s.own i p L t ho
      rcases r.adr_in (r6 q hq) with z | ⟨vs, z⟩
      · exact nf i (e ▸ z)
      · rw [e, hp] at z; unfold dO at z; cases z
    · have := (s.non i fun p L t z => ho ⟨p, L, t, z⟩).2
      rw [this] at hq; cases hq
theorem Sim.wr (s : Sim G g env σ H ds) {a : Addr} {ob ob' : Obj} (hp : H a = some (dO a ob)) (nz : ¬ g.Z a) (np : ¬ g.P a) (nf : ∀ i, a ∉ fp (ds i)) : Sim G g env σ (L2.upd H a (dO a ob')) ds := by
  refine s.grow (Keep.wr s hp nz np nf) (fun i q hq => ⟨upd_ne fun e => nf i (e ▸ hq), (s.no i q hq).1⟩) (fun q z => ⟨(s.zt q z).1, upd_st (s.zt q z).2 fun e => nz (e ▸ z)⟩) (fun q z => upd_st (s.pt.1 q z) fun e => np (e ▸ z))
end
end VL
namespace VL
open PySem L2 PyProof.Rows
section
variable {X : Cx} {G : Gm} {Wx : WX} {g g' : Gh} {env env' : Env3} {σ : L2.St} {H H' : Hp} {ds : Nat → D} {p p2 pos pos2 apos cpos : Pos} {e : Expr} {fe : M3 EV} {td : TE}
end
end VL
namespace VL
open PySem L2 PyProof.Rows
section
variable {X : Cx} {G : Gm} {Wx : WX} {g g' : Gh} {env env' : Env3} {σ : L2.St} {H H' : Hp} {ds : Nat → D} {p pos : Pos} {e : Expr} {es : List Expr} {t : M3 (List EV)}
end
end VL
namespace VL
open PySem L2 PyProof.Rows
section
variable {X : Cx} {G : Gm} {Wx : WX} {g g' : Gh} {env env' : Env3} {σ : L2.St} {H H' : Hp} {apos cpos pos : Pos} {e o : Expr} {fe fo : M3 EV} {Z : Addr → Prop}
end
end VL
namespace L2
open PySem VL
end L2
namespace VL
open PySem L2
section
variable {X : Cx} {G : Gm} {Wx : WX} {p pos : Pos} {e : Expr} {es : List Expr} {t : M3 (List EV)}
end
end VL
namespace VL
open PySem L2 PyProof.Rows PySem.W
section
variable {prog : Program} {w : World} {A : Around} {E : Value → Shared → Prop} {s : Shared}
variable {X : Cx} {pins : List (Addr × Obj)} {σ : List (Option V)} {H : Hp}
end
end VL
namespace VL
open PySem L2 PyProof.Rows PySem.W
section
variable {X : Cx} {pins : List (Addr × Obj)} {σ : List (Option V)} {H : Hp} {s : Shared}
end
end VL
namespace VL
open PySem L2 PyProof.Rows PySem.W
section
variable {X : Cx} {G : Gm} {Wx : WX} {g g' : Gh} {env env' : Env3} {σ σ' : L2.St} {H H' : Hp} {ds : Nat → D} {pins : List (Addr × Obj)} {s : Shared} {k : Nat} {Z : Addr → Prop}
end
end VL
namespace VL
open PySem L2 PyProof.Rows PySem.W
section
variable {X : Cx} {G : Gm} {Wx : WX} {g g' : Gh} {env env' : Env3} {σ σ' : L2.St} {H H' : Hp} {ds : Nat → D} {pins : List (Addr × Obj)} {s : Shared} {k : Nat} {p p2 pos kpos : Pos} {e : Expr} {t : M3 (List EV)}
end
end VL
namespace VL
open PySem L2 PyProof.Rows PySem.W
section
variable {X : Cx} {G : Gm} {Wx : WX} {g g' : Gh} {env env' : Env3} {σ σ' : L2.St} {H H' H2 : Hp} {ds : Nat → D} {pins : List (Addr × Obj)} {s : Shared} {k : Nat} {P c : Addr}
def CodeF (H : Hp) (c : Addr) : Prop := ∃ (oc : Obj) (vs : Array Value) (t : Tok), H c = some (.frz oc (.own c)) ∧ oc.data = .fields vs ∧ vs[1]? = some (.str lamQ t)
theorem CodeF.keep (h : CodeF H c) (k : FK H H') : CodeF H' c := let ⟨oc, vs, t, a, b, d⟩ := h; ⟨oc, vs, t, k.f _ _ _ a, b, d⟩
end
end VL
namespace VL
open PySem L2 PyProof.Rows PySem.W
section
variable {X : Cx} {G : Gm} {Wx : WX} {g g' : Gh} {env env' : Env3} {σ σ' : L2.St} {H H' H2 : Hp} {ds : Nat → D} {pins : List (Addr × Obj)} {s : Shared} {k : Nat} {P c : Addr} {p pos kpos lpos : Pos} {e : Expr} {t : M3 (List EV)}
end
end VL
namespace VL
open PySem L2 PyProof.Rows
def codeF (K : PySem.W.Frag) (f : Addr) : Option Addr := match K.lookup f with
  | some o => (match o.data with
    | .func fd => (match fd.code with
      | .ref c => some c
      | _ => none)
    | _ => none)
  | none => none
structure TabK (K : PySem.W.Frag) (h : Heap) (f c P : Addr) : Prop where
  code : codeF K f = some c
  hd : PySem.W.CodeHd h c P
  emp : h.get? P = some { cls := .none, data := .fields #[] }
  out : K.lookup P = none
end VL
namespace L2
open PySem VL
end L2
namespace VL
open PySem L2 PyProof.Rows
section
variable {P : Program} {w : World} {K : PySem.W.Frag} {mg mb : Str → Option Value} {k : Nat} {fa a f c tp : Addr} {fd : FuncData} {x : Str} {sp : Sp} {s : Shared} {vs : List Value} {ns : List Int}
def H0 (K : PySem.W.Frag) (a tp : Addr) (vs : List Value) (ns : List Int) : Hp := fun b =>
  if b = tp then some (.tbl #[]) else if b = a then (match K.lookup a with
    | some _ => none
    | none => some (.frz { cls := .type "list", data := .seq vs.toArray } (.lst (ns.map V.int)))) else none
end
end VL
namespace VL
open PySem L2 PyProof.Rows
theorem mo {j k : Nat} {A : Around} (h : Room k A) (hjk : j ≤ k := by decide) : Room j A := h.mono hjk
theorem u65 {k : Nat} {A : Around} (h : Room k A) : A.units + 65 < cLine := VL.Room.units65 h
section
variable {P : Program} {w : World} {K : PySem.W.Frag} {mg : Str → Option Value} {base : Heap} {x qual : Str} {params : Arguments} {body : List Stmt} {scope : Scope} {dvs : List V} {kws : List (Str × V)} {f c : Addr} {fd : FuncData} {N ps : List Str} {k : Nat} {m : S3} {G : Gm}
theorem fn_ok2 (F : FunD K x qual params body scope dvs kws f fd) (S : FnScope N ps scope) (hps : ps.length ≤ N.length)
    (h : ∀ (cdv : Value) (A : Around) (outer : List PySem.Env) (s : Shared) (H : Hp) (E : XK), Room k (A.deeper (envOfC qual scope s.heap.objs.size f cdv)) → Takes (cxOf (L2.CX P w) P w K mg base N qual scope f cdv A outer s H E) (fun cls d _ H => E cls d H) →
      PassesOwn (model P w) (cxOf (L2.CX P w) P w K mg base N qual scope f cdv A outer s H E).A (cxOf (L2.CX P w) P w K mg base N qual scope f cdv A outer s H E).env (cxOf (L2.CX P w) P w K mg base N qual scope f cdv A outer s H E).xe →
      SSs G (cxOf (L2.CX P w) P w K mg base N qual scope f cdv A outer s H E) (fun cls d _ H => E cls d H) body m) :
    FnOk P w K mg base (L2.CX P w) (k + 1) f fd ps (spOf G ps.length (bodyF N.length m)) := fn_ok F S hps fun cdv A outer s H E hr => h cdv A outer s H E hr (takes_of rfl rfl rfl rfl) (passes_of rfl)
theorem fn_okP2 (F : FunD K x qual params body scope dvs kws f fd) (S : FnScope N ps scope) (hps : ps.length ≤ N.length)
    (h : ∀ (cdv : Value) (A : Around) (outer : List PySem.Env) (s : Shared) (H : Hp) (E : XK), Room k (A.deeper (envOfC qual scope s.heap.objs.size f cdv)) → Takes (cxOf (L2.CX P w) P w K mg base N qual scope f cdv A outer s H E) (fun cls d _ H => E cls d H) →
      PassesOwn (model P w) (cxOf (L2.CX P w) P w K mg base N qual scope f cdv A outer s H E).A (cxOf (L2.CX P w) P w K mg base N qual scope f cdv A outer s H E).env (cxOf (L2.CX P w) P w K mg base N qual scope f cdv A outer s H E).xe →
      SSs G (cxOf (L2.CX P w) P w K mg base N qual scope f cdv A outer s H E) (fun cls d _ H => E cls d H) body m) :
    FnOk P w K mg base (L2.CX P w) (k + 1) f fd ps (spP G ps.length (bodyP N.length m)) := fn_okP F S hps fun cdv A outer s H E hr => h cdv A outer s H E hr (takes_of rfl rfl rfl rfl) (passes_of rfl)
theorem sv {X : Cx} {Wx : WX} {x : Str} {pos : Pos} (i : Nat) (hN : X.N[i]? = some x := by rfl) (hv : Vis X.env.scope x := by first | exact Or.inl rfl | exact Or.inr (Or.inl rfl) | exact Or.inr (Or.inr rfl)) (hd : (x == ("__debug__" : Str)) = false := by decide) (hcd : (x == ("__classdict__" : Str)) = false := by decide) :
    SE G X Wx (.Name x pos) (eVar i) := se_var hN hv hd hcd
end
end VL
namespace VL
open PySem L2 PyProof.Rows PySem.W
section
variable {P : Program} {w : World} {K : Frag} {mg : Str → Option Value} {base : Heap} {x qual : Str} {params : Arguments} {body : List Stmt} {scope : Scope} {kws : List (Str × V)} {f : Addr} {fd : FuncData} {ps : List Str} {j k n : Nat} {G : Gm} {g : Fn}
end
section
variable {fa : List He.Fa} {fn : List He.DefD} {ex : Frag → Bool} {K : Frag} {h : Heap} {mg : Str → Option Value} {x m : Str}
end
end VL
namespace VL
open PySem L2 PyProof.Rows PySem.W
section
variable {X : Cx} {G : Gm} {Wx : WX} {p pos : Pos} {e : Expr} {es : List Expr} {t : M3 (List EV)}
end
end VL
namespace VL
end VL
namespace VL
open PySem PySem.Calls L2 PyProof.Rows PySem.W
section
variable {X : Cx} {G : Gm} {Wx : WX} {g g' : Gh} {env env' : Env3} {σ : L2.St} {H H' : Hp} {ds : Nat → D} {p p2 pos pos2 apos cpos : Pos} {e : Expr} {fe : M3 EV} {td : TE}
end
end VL
namespace VL
open PySem L2 PyProof.Rows
section
variable {X : Cx} {G : Gm} {Wx : WX} {p pos : Pos} {e : Expr} {es : List Expr} {t : M3 (List EV)}
def rStr3 : FC := fun evs _ => match evs with
  | [.im (.int i)] => if i.natAbs.log2 < 1920 then some (.im (.str (toString i))) else none
  | _ => none
theorem call_rStr : CallR X (.type "str") (liftC G rStr3) := by
  refine callR_imp call_str_int ?_
  rintro xs H Q ⟨g, env, σ, evs, ev, s, q, k⟩
  unfold rStr3 at q
  split at q
  · split at q
    · rename_i h
      cases q
      obtain ⟨ds, _, sm, _⟩ := id s
      rw [s.int1]
      exact ⟨_, rfl, h, k g _ H (Keep.refl g H) (sm.im rfl)⟩
    · cases q
  · cases q
theorem se_stri (hg : Gl X "str") (hm : X.mg "str" = none) (ha : SA G X Wx (e :: es) t) (he : starEach (e :: es) X.env = (false, eval e X.env) :: starEach es X.env := by rfl) (hpl : (backTo pos (starEach es X.env)).any (·.1) = false := by rfl) :
    SE G X Wx (.Call (.Name "str" p) (e :: es) [] pos) (eCB rStr3 t) := se_callTy call_rStr hg hm (by decide +kernel) ha (by decide) (by decide) he hpl
def rIntT3 : FC := fun evs env => match evs with
  | [.im (.str x)] => (PySem.intText? (Str.ofString x)).bind fun n => if (Str.ofString x).length ≤ 640 then some (.im (.int n)) else none
  | evs => rIntB3 evs env
theorem call_rIntT : CallR X (.type "int") (liftC G rIntT3) := by
  refine callR_imp (callR_or call_int_str (call_rInt (G := G))) ?_
  rintro xs H Q ⟨g, env, σ, evs, ev, s, q, k⟩
  unfold rIntT3 at q
  split at q
  · rename_i x
    obtain ⟨n, hn, q⟩ := Option.bind_eq_some_iff.mp q
    split at q
    · rename_i hl
      cases q
      obtain ⟨ds, _, sm, _⟩ := id s
      obtain ⟨v, rfl⟩ := len1 (xs := xs) (by have := s.len; simp only [List.length_cons, List.length_nil] at this; omega)
      rw [show v = V.str (Str.ofString x) from s.hd.imR]
      exact .inl ⟨_, _, rfl, hn, hl, k g _ H (Keep.refl g H) (sm.im rfl)⟩
    · cases q
  · exact .inr ⟨g, env, σ, _, ev, s, q, k⟩
theorem se_intT (hg : Gl X "int") (hm : X.mg "int" = none) (ha : SA G X Wx (e :: es) t) (he : starEach (e :: es) X.env = (false, eval e X.env) :: starEach es X.env := by rfl) (hpl : (backTo pos (starEach es X.env)).any (·.1) = false := by rfl) :
    SE G X Wx (.Call (.Name "int" p) (e :: es) [] pos) (eCB rIntT3 t) := se_callTy call_rIntT hg hm (by decide +kernel) ha (by decide) (by decide) he hpl
end
end VL
namespace VL
open PySem L2 PyProof.Rows
def repS (s : String) (n : Nat) : String := String.ofList ((List.replicate n s.toList).flatten)
theorem fold_app (x : Array Nat) : ∀ (n : Nat) (a : Array Nat), (List.replicate n x).foldl (· ++ ·) a = a ++ ((List.replicate n x.toList).flatten).toArray
  | 0, a => by simp
  | n + 1, a => by
    rw [List.replicate_succ, List.foldl_cons, fold_app x n, List.replicate_succ, List.flatten_cons]
    apply Array.ext'
    simp
theorem repS_cps (s : String) (n : Nat) : Str.ofString (repS s n) = ⟨(List.replicate n (Str.ofString s).cps).foldl (· ++ ·) #[]⟩ := by
  rw [fold_app, Str.ofString_eq_toList, Str.ofString_eq_toList]
  unfold repS
  congr 1
  apply Array.ext'
  simp [List.map_flatten]
section
variable {X : Cx} {G : Gm} {Wx : WX} {pos : Pos} {a b : Expr} {fa fb : M3 EV}
theorem op_repS : OpR X (binaryOp .Mult) (fun x y H Q => ∃ (s : String) (n : Nat), x = .str (Str.ofString s) ∧ y = .int (n : Int) ∧ 2 ≤ n ∧ n ≤ 1000 ∧ 1 ≤ (Str.ofString s).length ∧ (Str.ofString s).length ≤ 1000 ∧ Q (.str (Str.ofString (repS s n))) H) := by
  intro pins s σ H x y v u Q I rx ry h
  obtain ⟨z, n, rfl, rfl, h2, h3, h4, h5, q⟩ := h
  obtain ⟨t, rfl⟩ := rx
  obtain ⟨t', rfl⟩ := ry
  have e1 : ((n : Int) == 1 || (Str.ofString z).length == 0) = false := by
    rw [Bool.or_eq_false_iff]
    exact ⟨beq_eq_false_iff_ne.mpr (by omega), beq_eq_false_iff_ne.mpr (by omega)⟩
  have hm : (Str.ofString z).length * n ≤ 1000 * 1000 := Nat.mul_le_mul h5 h3
  refine PySem.P.mul_str (by rw [decide_eq_false (by omega), decide_eq_false (by omega)]; rfl) (fun _ _ => ?_) (fun _ _ => ?_) ?_
  · have : (1000 : Int) ≤ (2 ^ 63 - 1) / (n : Int) := by
      rw [Int.le_ediv_iff_mul_le (by omega)]
      omega
    omega
  · unfold PySem.Builtin.Str.tooLong
    rw [Int.toNat_natCast, decide_eq_false_iff_not, sizeLine_eq]
    omega
  · rw [if_neg (by omega), if_neg (by rw [e1]; decide), Int.toNat_natCast, ← repS_cps]
    have hlen : (Str.ofString (repS z n)).length = n * (Str.ofString z).length := by
      rw [Str.ofString_eq_toList, Str.ofString_eq_toList]
      unfold repS Str.length
      simp [List.length_flatten]
    refine ⟨?_, .str _, H, I.tok _, ⟨_, rfl⟩, q⟩
    rw [hlen, sizeLine_eq, Nat.mul_comm]
    omega
def fMulT : F2 := fun x y => match x, y with
  | .im (.str s), .im (.int n) => if 2 ≤ n ∧ n ≤ 1000 ∧ 1 ≤ (Str.ofString s).length ∧ (Str.ofString s).length ≤ 1000 then some (.im (.str (repS s n.toNat))) else none
  | x, y => fMul x y
theorem op_fMulT : OpR X (binaryOp .Mult) (liftR G fMulT) := by
  refine opR_imp (opR_or op_repS (opR_imp op_mulA (fInt_lift (G := G)))) ?_
  rintro x y H Q ⟨g, env, σ, ds, tx, ty, dx, dy, ev, s, rx, ry, q, k⟩
  unfold fMulT at q
  split at q
  · rename_i z n
    split at q
    · rename_i h
      obtain ⟨h1, h2, h3, h4⟩ := h
      cases q
      refine .inl ⟨z, n.toNat, rx.2, ?_, by omega, by omega, h3, h4, k g _ H (Keep.refl g H) (s.im rfl)⟩
      have e : y = V.int n := ry.2
      rw [e, Int.toNat_of_nonneg (by omega)]
    · cases q
  · exact .inr ⟨g, env, σ, ds, _, _, dx, dy, ev, s, rx, ry, q, k⟩
theorem se_mulT (ha : SE G X Wx a fa) (hb : SE G X Wx b fb) : SE G X Wx (.BinOp a .Mult b pos) (eOp fMulT fa fb) := se_bin op_fMulT ha hb
end
end VL
namespace VL
open PySem L2
section
variable {α β γ : Type}
def Out.bind (o : Out α) (k : α → Env3 → Out β) : Out β := match o with
  | .ok a e => k a e
  | .exc c e => .exc c e
  | .stuck => .stuck
def Out.toS (o : Out α) (k : α → Env3 → SO3) : SO3 := match o with
  | .ok a e => k a e
  | .exc c e => .ex c e
  | .stuck => .stuck
def SO3.bind (o : SO3) (k : S3) : SO3 := match o with
  | .nx e => k e
  | o => o
@[simp] theorem Out.bind_ok (a : α) (e : Env3) (k : α → Env3 → Out β) : (Out.ok a e).bind k = k a e := id rfl
@[simp] theorem Out.toS_ok (a : α) (e : Env3) (k : α → Env3 → SO3) : (Out.ok a e).toS k = k a e := id rfl
@[simp] theorem Out.toS_exc (c : String) (e : Env3) (k : α → Env3 → SO3) : (Out.exc c e : Out α).toS k = .ex c e := id rfl
@[simp] theorem SO3.bind_nx (e : Env3) (k : S3) : (SO3.nx e).bind k = k e := id rfl
@[simp] theorem SO3.bind_rt (v : EV) (e : Env3) (k : S3) : (SO3.rt v e).bind k = .rt v e := id rfl
@[simp] theorem SO3.bind_ex (c : String) (e : Env3) (k : S3) : (SO3.ex c e).bind k = .ex c e := id rfl
def oOk (o : Option α) (e : Env3) : Out α := match o with
  | some a => .ok a e
  | none => .stuck
@[simp] theorem oOk_some (a : α) (e : Env3) : oOk (some a) e = .ok a e := id rfl
def oNx (o : Option Env3) : SO3 := match o with
  | some e => .nx e
  | none => .stuck
@[simp] theorem oNx_some (e : Env3) : oNx (some e) = .nx e := id rfl
end
def ob {α β : Type} (o : Option α) (k : α → Option β) : Option β := match o with
  | some a => k a
  | none => none
def jk (j : Option W) : Option SV := j.map SV.val
@[simp] theorem jk_some (w : W) : jk (some w) = some (SV.val w) := id rfl
@[simp] theorem jk_none : jk none = none := id rfl
def ims (ws : List W) : List T := ws.map T.im
def ime (ws : List W) : List EV := ws.map EV.im
@[simp] theorem ims_nil : ims [] = [] := id rfl
@[simp] theorem ims_cons (w : W) (r : List W) : ims (w :: r) = .im w :: ims r := id rfl
@[simp] theorem ims_append (a b : List W) : ims (a ++ b) = ims a ++ ims b := by simp [ims]
theorem map_im (a : List W) : a.map T.im = ims a := rfl
@[simp] theorem ime_nil : ime [] = [] := id rfl
@[simp] theorem ime_cons (w : W) (r : List W) : ime (w :: r) = .im w :: ime r := id rfl
section
variable {f : M3 EV} {k : S3} {env e : Env3}
@[simp] theorem sNx_ev : sNx env = .nx env := id rfl
@[simp] theorem sSeq_ev (a b : S3) (env : Env3) : sSeq a b env = (a env).bind b := by unfold sSeq SO3.bind; cases a env <;> first | rfl | (dsimp only; split <;> simp_all)
def kNx : EV → Env3 → SO3 := fun _ e => .nx e
@[simp] theorem sExpr_ev (f : M3 EV) (env : Env3) : sExpr f env = (f env).toS kNx := by unfold sExpr Out.toS; cases f env <;> first | rfl | (dsimp only; split <;> simp_all)
@[simp] theorem sRet_ev (f : M3 EV) (env : Env3) : sRet f env = (f env).toS SO3.rt := by unfold sRet Out.toS; cases f env <;> first | rfl | (dsimp only; split <;> simp_all)
@[simp] theorem sRaise_ev (c : String) (env : Env3) : sRaise c env = .ex c env := id rfl
def kIf (t u : S3) (b : Bool) (e : Env3) : SO3 := if b = true then t e else u e
@[simp] theorem kIf_true (t u : S3) (e : Env3) : kIf t u true e = t e := id rfl
@[simp] theorem kIf_false (t u : S3) (e : Env3) : kIf t u false e = u e := id rfl
@[simp] theorem sIf_ev (c : M3 Bool) (t u : S3) (env : Env3) : sIf c t u env = (c env).toS (kIf t u) := by unfold sIf Out.toS; cases c env <;> first | rfl | (dsimp only; split <;> simp_all)
def kAsg (tg : TG3) (v : EV) (e : Env3) : SO3 := oNx (tg v e)
@[simp] theorem kAsg_ev (tg : TG3) (v : EV) (e : Env3) : kAsg tg v e = oNx (tg v e) := id rfl
@[simp] theorem sAsg_ev (f : M3 EV) (tg : TG3) (env : Env3) : sAsg f tg env = (f env).toS (kAsg tg) := by
  unfold sAsg Out.toS kAsg oNx; cases f env <;> first | rfl | (dsimp only; split <;> simp_all)
def kSet (i : Nat) (ev : EV) (s : Option (Option SV)) (env : Env3) : Option Env3 := match s with
  | some (some (SV.own false [] _)) => (match ev with
    | .ptr k π => if k = i then none else some (((env.map (killS i)).set i none).set i (some (.ptr k π)))
    | ev => some (((env.map (killS i)).set i none).set i (some (svOf ev))))
  | some (some (SV.own _ _ _)) => none
  | some _ => some (env.set i (some (svOf ev)))
  | none => none
@[simp] theorem gName_ev (i : Nat) (ev : EV) (env : Env3) : gName i ev env = kSet i ev env[i]? env := id rfl
@[simp] theorem kSet_val (i : Nat) (ev : EV) (w : W) : kSet i ev (some (some (SV.val w))) env = some (env.set i (some (svOf ev))) := id rfl
@[simp] theorem kSet_none (i : Nat) (ev : EV) : kSet i ev (some none) env = some (env.set i (some (svOf ev))) := id rfl
@[simp] theorem kSet_jk (i : Nat) (ev : EV) (j : Option W) : kSet i ev (some (jk j)) env = some (env.set i (some (svOf ev))) := by cases j <;> rfl
@[simp] theorem svOf_im (w : W) : svOf (.im w) = .val w := id rfl
def kAugI (i : Nat) (x : Int) (v : EV) (e : Env3) : SO3 := match v with
  | .im (.int y) => oNx (setS i (.im (.int (x + y))) e)
  | _ => .stuck
end
section
variable {env e : Env3}
def kVar (i : Nat) (s : Option (Option SV)) (env : Env3) : Out EV := match s with
  | some (some (SV.val w)) => .ok (.im w) env
  | some (some (SV.own _ _ _)) => .ok (.ptr i []) env
  | some (some (SV.ptr k π)) => .ok (.ptr k π) env
  | _ => .stuck
@[simp] theorem eVar_ev (i : Nat) (env : Env3) : eVar i env = kVar i env[i]? env := by unfold eVar kVar; rfl
@[simp] theorem kVar_val (i : Nat) (w : W) : kVar i (some (some (.val w))) env = .ok (.im w) env := id rfl
@[simp] theorem eC_ev (w : W) (env : Env3) : eC w env = .ok (.im w) env := id rfl
@[simp] theorem pendB_im {β : Type} (w : W) (m : M3 β) (env : Env3) : pendB (.im w) m env = m env := by
  unfold pendB
  show (match m env with | .ok b env2 => _ | .exc c env2 => _ | .stuck => _) = m env
  cases m env <;> simp [okE, unlE]
@[simp] theorem eNil_ev (env : Env3) : eNil env = .ok [] env := id rfl
def kCons2 (ev : EV) (evs : List EV) (e : Env3) : Out (List EV) := .ok (ev :: evs) e
@[simp] theorem kCons2_ev (ev : EV) (evs : List EV) (e : Env3) : kCons2 ev evs e = .ok (ev :: evs) e := id rfl
def kCons (es : M3 (List EV)) (ev : EV) (e : Env3) : Out (List EV) := (pendB ev es e).bind (kCons2 ev)
@[simp] theorem kCons_ev (es : M3 (List EV)) (ev : EV) (e : Env3) : kCons es ev e = (pendB ev es e).bind (kCons2 ev) := id rfl
@[simp] theorem eCons_ev (f : M3 EV) (es : M3 (List EV)) (env : Env3) : eCons f es env = (f env).bind (kCons es) := by
  unfold eCons Out.bind kCons kCons2 Out.bind; cases f env with
  | ok a e => dsimp only; cases pendB a es e <;> rfl
  | exc c e => rfl
  | stuck => rfl
@[simp] theorem rd_im (w : W) (env : Env3) : rd env (.im w) = some (.im w) := id rfl
@[simp] theorem rd_tmp (t : T) (env : Env3) : rd env (.tmp t) = some t := id rfl
def kPair2 (x : EV) (y : EV) (e : Env3) : Out (EV × EV) := .ok (x, y) e
@[simp] theorem kPair2_ev (x y : EV) (e : Env3) : kPair2 x y e = .ok (x, y) e := id rfl
def kPair (b : M3 EV) (x : EV) (e : Env3) : Out (EV × EV) := (pendB x b e).bind (kPair2 x)
@[simp] theorem kPair_ev (b : M3 EV) (x : EV) (e : Env3) : kPair b x e = (pendB x b e).bind (kPair2 x) := id rfl
@[simp] theorem ePair_ev (a b : M3 EV) (env : Env3) : ePair a b env = (a env).bind (kPair b) := by
  unfold ePair Out.bind kPair kPair2 Out.bind; cases a env with
  | ok x e => dsimp only; cases pendB x b e <;> rfl
  | exc c e => rfl
  | stuck => rfl
def kOp (r : F2) (p : EV × EV) (e : Env3) : Out EV := op2 r p.1 p.2 e
def kOp2 (r : F2) (x y : Option T) (e : Env3) : Out EV := match x, y with
  | some t, some u => oOk (r t u) e
  | _, _ => .stuck
@[simp] theorem kOp2_some (r : F2) (t u : T) (e : Env3) : kOp2 r (some t) (some u) e = oOk (r t u) e := id rfl
@[simp] theorem kOp_ev (r : F2) (x y : EV) (e : Env3) : kOp r (x, y) e = kOp2 r (rd e x) (rd e y) e := by
  unfold kOp op2 kOp2 oOk; dsimp only; cases rd e x with
  | none => rfl
  | some t => cases rd e y with
    | none => rfl
    | some u => dsimp only; cases r t u <;> rfl
@[simp] theorem eOp_ev (r : F2) (a b : M3 EV) (env : Env3) : eOp r a b env = (ePair a b env).bind (kOp r) := by
  unfold eOp Out.bind kOp; cases ePair a b env <;> rfl
def kUn (r : F1) (x : EV) (e : Env3) : Out EV := op1 r x e
def kUn2 (r : F1) (x : Option T) (e : Env3) : Out EV := match x with
  | some t => oOk (r t) e
  | _ => .stuck
@[simp] theorem kUn2_some (r : F1) (t : T) (e : Env3) : kUn2 r (some t) e = oOk (r t) e := id rfl
@[simp] theorem kUn_ev (r : F1) (x : EV) (e : Env3) : kUn r x e = kUn2 r (rd e x) e := by
  unfold kUn op1 kUn2 oOk; cases rd e x with
  | none => rfl
  | some t => dsimp only; cases r t <;> rfl
@[simp] theorem eUn_ev (r : F1) (a : M3 EV) (env : Env3) : eUn r a env = (a env).bind (kUn r) := by unfold eUn Out.bind kUn; cases a env <;> first | rfl | (dsimp only; split <;> simp_all)
end
section
variable {i j : Int}
@[simp] theorem fSub_ev : fSub (.im (.int i)) (.im (.int j)) = some (.im (.int (i - j))) := id rfl
@[simp] theorem fDiv_ev (h : CDivW i j) : fDiv (.im (.int i)) (.im (.int j)) = some (.im (.int (i / j))) := if_pos h
@[simp] theorem fMod_ev (h : 0 < j) : fMod (.im (.int i)) (.im (.int j)) = some (.im (.int (i % j))) := if_pos h
@[simp] theorem fPow_ev (h : CPow i j) : fPow (.im (.int i)) (.im (.int j)) = some (.im (.int (i ^ j.toNat))) := if_pos h
@[simp] theorem fNeg_ev : fNeg (.im (.int i)) = some (.im (.int (-i))) := id rfl
@[simp] theorem fLt_ev : fLt (.im (.int i)) (.im (.int j)) = some (.im (.bl (decide (i < j)))) := id rfl
@[simp] theorem fGt_ev : fGt (.im (.int i)) (.im (.int j)) = some (.im (.bl (decide (j < i)))) := id rfl
@[simp] theorem fAdd_str {s t : String} (h : s.length + t.length ≤ 10000000) : fAdd (.im (.str s)) (.im (.str t)) = some (.im (.str (s ++ t))) := if_pos h
theorem pow64 : (2 : Int) ^ 64 = 18446744073709551616 := by decide
theorem CDivW_of (h : 0 < j) (h2 : j < 2 ^ 64) : CDivW i j := by
  refine ⟨h, ?_⟩
  have : j.natAbs < 2 ^ 64 := by omega
  have := (Nat.log2_lt (by omega)).mpr this
  omega
@[simp] theorem CDivW_lit (h : 0 < j ∧ j < 18446744073709551616) : CDivW i j := CDivW_of h.1 (by rw [pow64]; exact h.2)
@[simp] theorem CPow_lit (h : 0 ≤ j ∧ j ≤ 1000000 ∧ i.natAbs < 18446744073709551616) : CPow i j := h
theorem eqT_im {a b : W} (ha : okW 64 a = true) (hb : okW 64 b = true) : eqT (.im a) (.im b) = some (W.eqv a b) := if_pos ⟨ha, hb⟩
@[simp] theorem fEq_ev (x y : T) : fEq x y = (eqT x y).map fun b => .im (.bl b) := id rfl
@[simp] theorem fNe_ev (x y : T) : fNe x y = (eqT x y).map fun b => .im (.bl (!b)) := id rfl
@[simp] theorem eqT_int : eqT (.im (.int i)) (.im (.int j)) = some (decide (i = j)) := id rfl
@[simp] theorem eqT_str {s t : String} : eqT (.im (.str s)) (.im (.str t)) = some (decide (s = t)) := id rfl
end
section
variable {env e : Env3}
def kBl (v : EV) (e : Env3) : Out Bool := match v with
  | .im (.bl b) => .ok b e
  | _ => .stuck
@[simp] theorem kBl_ev (b : Bool) (e : Env3) : kBl (.im (.bl b)) e = .ok b e := id rfl
@[simp] theorem bVal_ev (f : M3 EV) (env : Env3) : bVal f env = (f env).bind kBl := by
  unfold bVal Out.bind kBl
  rcases f env with ⟨a, e⟩ | ⟨c, e⟩ | _
  · rcases a with w | t | ⟨k, π⟩
    · cases w <;> rfl
    · rfl
    · rfl
  · rfl
  · rfl
def kNot (b : Bool) (e : Env3) : Out Bool := .ok (!b) e
@[simp] theorem kNot_ev (b : Bool) (e : Env3) : kNot b e = .ok (!b) e := id rfl
@[simp] theorem bNot_ev (f : M3 Bool) (env : Env3) : bNot f env = (f env).bind kNot := by unfold bNot Out.bind kNot; cases f env <;> first | rfl | (dsimp only; split <;> simp_all)
def kAndB (k : M3 Bool) (b : Bool) (e : Env3) : Out Bool := if b = true then k e else .ok false e
@[simp] theorem kAndB_t (k : M3 Bool) (e : Env3) : kAndB k true e = k e := id rfl
@[simp] theorem kAndB_f (k : M3 Bool) (e : Env3) : kAndB k false e = .ok false e := id rfl
@[simp] theorem bAnd_ev (f k : M3 Bool) (env : Env3) : bAnd f k env = (f env).bind (kAndB k) := by unfold bAnd Out.bind kAndB; cases f env <;> first | rfl | (dsimp only; split <;> simp_all)
def kOrB (k : M3 Bool) (b : Bool) (e : Env3) : Out Bool := if b = true then .ok true e else k e
@[simp] theorem kOrB_t (k : M3 Bool) (e : Env3) : kOrB k true e = .ok true e := id rfl
@[simp] theorem kOrB_f (k : M3 Bool) (e : Env3) : kOrB k false e = k e := id rfl
@[simp] theorem bOr_ev (f k : M3 Bool) (env : Env3) : bOr f k env = (f env).bind (kOrB k) := by unfold bOr Out.bind kOrB; cases f env <;> first | rfl | (dsimp only; split <;> simp_all)
def kAndE (k : M3 EV) (v : EV) (e : Env3) : Out EV := match v with
  | .im (.bl b) => if b = true then k e else .ok (.im (.bl false)) e
  | _ => .stuck
@[simp] theorem kAndE_t (k : M3 EV) (e : Env3) : kAndE k (.im (.bl true)) e = k e := id rfl
@[simp] theorem eAnd_ev (f k : M3 EV) (env : Env3) : eAnd f k env = (f env).bind (kAndE k) := by
  unfold eAnd Out.bind kAndE
  rcases f env with ⟨a, e⟩ | ⟨c, e⟩ | _
  · rcases a with w | t | ⟨k, π⟩
    · cases w <;> rfl
    · rfl
    · rfl
  · rfl
  · rfl
def kNotE (v : EV) (e : Env3) : Out EV := match v with
  | .im (.bl b) => .ok (.im (.bl (!b))) e
  | _ => .stuck
@[simp] theorem kNotE_ev (b : Bool) (e : Env3) : kNotE (.im (.bl b)) e = .ok (.im (.bl (!b))) e := id rfl
@[simp] theorem eNot_ev (f : M3 EV) (env : Env3) : eNot f env = (f env).bind kNotE := by
  unfold eNot Out.bind kNotE
  rcases f env with ⟨a, e⟩ | ⟨c, e⟩ | _
  · rcases a with w | t | ⟨k, π⟩
    · cases w <;> rfl
    · rfl
    · rfl
  · rfl
  · rfl
def kIsi (r : T → Option Bool) (v : EV) (e : Env3) : Out EV := oOk (((rd e v).bind r).map fun b => .im (.bl b)) e
@[simp] theorem kIsi_ev (r : T → Option Bool) (v : EV) (e : Env3) : kIsi r v e = oOk (((rd e v).bind r).map fun b => .im (.bl b)) e := id rfl
@[simp] theorem isiE_ev (r : T → Option Bool) (f : M3 EV) (env : Env3) : isiE r f env = (f env).bind (kIsi r) := by
  unfold isiE Out.bind kIsi
  rcases f env with ⟨a, e⟩ | ⟨c, e⟩ | _
  · show (match (rd e a).bind r with | some b => _ | none => _) = oOk (((rd e a).bind r).map _) e
    cases (rd e a).bind r <;> rfl
  · rfl
  · rfl
@[simp] theorem tyT_int {b : Int} : tyT (.im (.int b)) = some "int" := id rfl
@[simp] theorem tyT_str {b : String} : tyT (.im (.str b)) = some "str" := id rfl
end
end VL
namespace VL
open PySem L2
section
variable {env e : Env3}
@[simp] theorem rds_nil (env : Env3) : rds env [] = some [] := id rfl
@[simp] theorem rds_cons (v : EV) (r : List EV) (env : Env3) : rds env (v :: r) = (rd env v).bind fun t => (rds env r).map (t :: ·) := id rfl
@[simp] theorem disjE_nil : disjE [] = true := id rfl
@[simp] theorem disjE_im (w : W) (r : List EV) : disjE (.im w :: r) = disjE r := id rfl
@[simp] theorem outE_im (evs : List EV) (ts : List T) (w : W) : outE evs ts (.im w) = some (.im w) := id rfl
def kOut (ts : List T) (j : Nat) (π : Path) (o : Option EV) : Option EV := match o with
  | some (.ptr k ρ) => some (.ptr k (ρ ++ π))
  | some (.tmp _) => (ts[j]?).bind fun t => (t.getP π).map evOf
  | _ => none
def kRet2 (ev : Option EV) (env : Option Env3) : Out EV := match env, ev with
  | some e, some v => .ok v e
  | _, _ => .stuck
@[simp] theorem kRet2_some (v : EV) (e : Env3) : kRet2 (some v) (some e) = .ok v e := id rfl
def kExc2 (c : String) (env : Option Env3) : Out EV := match env with
  | some e => .exc c e
  | _ => .stuck
def kRet (evs : List EV) (env : Env3) (o : FO) : Out EV := match o with
  | .ok ev ts' => kRet2 (outE evs ts' ev) (putL evs ts' env)
  | .exc c ts' => kExc2 c (putL evs ts' env)
  | .stuck => .stuck
def kCal (f : Fn) (evs : List EV) (env : Env3) (o : Option (List T)) : Out EV := match o with
  | none => .stuck
  | some ts => if disjE evs = true then kRet evs env (f ts) else .stuck
def kRetP (evs : List EV) (ts : List T) (env : Env3) (o : FO) : Out EV := match o with
  | .ok ev _ => kRet2 (outE evs ts ev) (some env)
  | .exc c _ => .exc c env
  | .stuck => .stuck
@[simp] theorem kRetP_ok (evs : List EV) (ts : List T) (env : Env3) (ev : EV) (ts' : List T) : kRetP evs ts env (.ok ev ts') = kRet2 (outE evs ts ev) (some env) := id rfl
@[simp] theorem kRetP_exc (evs : List EV) (ts : List T) (env : Env3) (c : String) (ts' : List T) : kRetP evs ts env (.exc c ts') = .exc c env := id rfl
def kCalP (f : Fn) (evs : List EV) (env : Env3) (o : Option (List T)) : Out EV := match o with
  | none => .stuck
  | some ts => if disjE evs = true then kRetP evs ts env (f ts) else .stuck
@[simp] theorem kCalP_some (f : Fn) (evs : List EV) (ts : List T) (h : disjE evs = true) : kCalP f evs env (some ts) = kRetP evs ts env (f ts) := if_pos h
@[simp] theorem callP_ev (f : Fn) (evs : List EV) (env : Env3) : callP f evs env = kCalP f evs env (rds env evs) := by
  unfold callP kCalP kRetP kRet2
  cases rds env evs with
  | none => rfl
  | some ts =>
    simp only
    congr 1
    cases f ts with
    | ok ev ts' =>
      simp only
      cases outE evs ts ev <;> rfl
    | exc c ts' => rfl
    | stuck => rfl
def kCallP (n : Nat) (dws : List W) (f : Fn) (evs : List EV) (e : Env3) : Out EV := if evs.length + dws.length = n then callP f (evs ++ ime dws) e else .stuck
@[simp] theorem kCallP_ev (n : Nat) (dws : List W) (f : Fn) (evs : List EV) (h : evs.length + dws.length = n) : kCallP n dws f evs e = callP f (evs ++ ime dws) e := if_pos h
@[simp] theorem eCallP_ev (n : Nat) (dws : List W) (f : Fn) (t : M3 (List EV)) (env : Env3) : eCallP n dws f t env = (t env).bind (kCallP n dws f) := by unfold eCallP Out.bind kCallP; cases t env <;> first | rfl | (dsimp only; split <;> simp_all)
def kMk (o : FO) : FO := match o with
  | .ok (.im .non) ts' => .ok (.ptr 0 []) ts'
  | .ok _ _ => .stuck
  | .exc c ts' => .exc c ts'
  | .stuck => .stuck
def kFrzL (v : EV) (e : Env3) : Out EV := match v with
  | .tmp (.ml xs) => .ok (match allI xs with
    | some ws => .im (.lst ws)
    | none => .tmp (.ml xs)) e
  | v => .ok v e
@[simp] theorem kFrzL_im (w : W) (e : Env3) : kFrzL (.im w) e = .ok (.im w) e := id rfl
@[simp] theorem eFrzL_ev (f : M3 EV) (env : Env3) : eFrzL f env = (f env).bind kFrzL := by
  unfold eFrzL Out.bind kFrzL
  rcases f env with ⟨a, e⟩ | ⟨c, e⟩ | _
  · rcases a with w | t | ⟨k, π⟩
    · rfl
    · cases t with
      | ml xs =>
        dsimp only [frzL]
        cases allI xs <;> rfl
      | _ => rfl
    · rfl
  · rfl
  · rfl
@[simp] theorem allI_nil : allI [] = some [] := id rfl
@[simp] theorem allI_cons (w : W) (r : List T) : allI (.im w :: r) = (allI r).map (w :: ·) := id rfl
@[simp] theorem allI_ims (ws : List W) : allI (ims ws) = some ws := by
  induction ws with
  | nil => rfl
  | cons w r ih => simp [ih]
def kFz (xs : List T) (o : Option (List W)) : EV := match o with
  | some ws => .im (.lst ws)
  | none => .tmp (.ml xs)
@[simp] theorem kFz_some (xs : List T) (ws : List W) : kFz xs (some ws) = .im (.lst ws) := id rfl
@[simp] theorem kFrzL_ml (xs : List T) (e : Env3) : kFrzL (.tmp (.ml xs)) e = .ok (kFz xs (allI xs)) e := by
  rcases h : allI xs with _ | ws <;> simp [kFrzL, kFz, h]
@[simp] theorem startS_im (w : W) : startS (.im w) = some (.val w) := id rfl
@[simp] theorem startSP_im (w : W) : startSP (.im w) = some (.val w) := id rfl
@[simp] theorem startE_ev (N : Nat) (ts : List T) : startE N ts = ts.map startS ++ List.replicate (N - ts.length) none := id rfl
@[simp] theorem startP_ev (N : Nat) (ts : List T) : startP N ts = ts.map startSP ++ List.replicate (N - ts.length) none := id rfl
@[simp] theorem argsO_nil (env : Env3) (i : Nat) : argsO env i [] = some [] := by unfold argsO; rfl
@[simp] theorem argsO_im (env : Env3) (i : Nat) (w : W) (ts : List T) : argsO env i (.im w :: ts) = (argsO env (i + 1) ts).map (T.im w :: ·) := by conv => lhs; unfold argsO
@[simp] theorem retE_im (env : Env3) (w : W) : retE env (.im w) = some (.im w) := id rfl
def kFin (a : Option (List T)) (v : Option EV) : FO := match a, v with
  | some ts, some v => .ok v ts
  | _, _ => .stuck
@[simp] theorem kFin_some (ts : List T) (v : EV) : kFin (some ts) (some v) = .ok v ts := id rfl
@[simp] theorem finF_ev (v : EV) (e : Env3) (ts : List T) : finF v e ts = kFin (argsO e 0 ts) (retE e v) := by
  unfold finF kFin
  cases argsO e 0 ts with
  | none => rfl
  | some a => cases retE e v <;> rfl
def kFinX (a : Option (List T)) (c : String) : FO := match a with
  | some ts => .exc c ts
  | _ => .stuck
def kBody (ts : List T) (o : SO3) : FO := match o with
  | .nx e => finF (.im .non) e ts
  | .rt v e => finF v e ts
  | .ex c e => kFinX (argsO e 0 ts) c
  | _ => .stuck
@[simp] theorem kBody_rt (ts : List T) (v : EV) (e : Env3) : kBody ts (.rt v e) = finF v e ts := id rfl
theorem bodyF_ev (N : Nat) (m : S3) (ts : List T) : bodyF N m ts = kBody ts (m (startE N ts)) := by
  unfold bodyF kBody kFinX
  cases m (startE N ts) with
  | ex c e => dsimp only; cases argsO e 0 ts <;> rfl
  | _ => rfl
@[simp] theorem retP_im (env : Env3) (ts : List T) (w : W) : retP env ts (.im w) = some (.im w) := id rfl
def kFinP (ts : List T) (v : Option EV) : FO := match v with
  | some v => .ok v ts
  | _ => .stuck
@[simp] theorem kFinP_some (ts : List T) (v : EV) : kFinP ts (some v) = .ok v ts := id rfl
noncomputable def kBodyP (ts : List T) (o : SO3) : FO := match o with
  | .nx e => .ok (.im .non) ts
  | .rt v e => kFinP ts (retP e ts v)
  | .ex c e => .exc c ts
  | _ => .stuck
@[simp] theorem kBodyP_rt (ts : List T) (v : EV) (e : Env3) : kBodyP ts (.rt v e) = kFinP ts (retP e ts v) := id rfl
@[simp] theorem kBodyP_ex (ts : List T) (c : String) (e : Env3) : kBodyP ts (.ex c e) = .exc c ts := id rfl
theorem bodyP_ev (N : Nat) (m : S3) (ts : List T) : bodyP N m ts = kBodyP ts (m (startP N ts)) := by
  unfold bodyP kBodyP finP kFinP
  cases m (startP N ts) with
  | rt v e => dsimp only; cases retP e ts v <;> rfl
  | nx e => rfl
  | _ => rfl
end
section
variable {env e : Env3}
@[simp] theorem toT_im (w : W) : toT (.im w) = some (.im w) := id rfl
@[simp] theorem toTs_nil : toTs [] = some [] := id rfl
@[simp] theorem toTs_cons (v : EV) (r : List EV) : toTs (v :: r) = (toT v).bind fun t => (toTs r).map (t :: ·) := id rfl
@[simp] theorem allW_nil : allW [] = some [] := id rfl
@[simp] theorem allW_im (w : W) (r : List EV) : allW (.im w :: r) = (allW r).map (w :: ·) := id rfl
def kTupE (evs : List EV) (o : Option (List W)) : Option EV := match o with
  | some ws => some (.im (.tup ws))
  | none => (toTs evs).map fun ts => .tmp (.tp ts)
@[simp] theorem tupE_ev (evs : List EV) : tupE evs = kTupE evs (allW evs) := by unfold tupE kTupE; rfl
@[simp] theorem kTupE_some (evs : List EV) (ws : List W) : kTupE evs (some ws) = some (.im (.tup ws)) := id rfl
def kTupX (evs : List EV) (e : Env3) : Out EV := if evs.length ≤ 10000000 then oOk (tupE evs) e else .stuck
@[simp] theorem kTupX_ev (evs : List EV) (h : evs.length ≤ 10000000) : kTupX evs e = oOk (tupE evs) e := if_pos h
@[simp] theorem eTup_ev (t : M3 (List EV)) (env : Env3) : eTup t env = (t env).bind kTupX := by unfold eTup Out.bind kTupX oOk; cases t env with
  | ok a e => dsimp only; congr 1; cases tupE a <;> rfl
  | exc c e => rfl
  | stuck => rfl
def kLst (evs : List EV) (e : Env3) : Out EV := if evs.length ≤ 10000000 then oOk ((toTs evs).map fun ts => .tmp (.ml ts)) e else .stuck
@[simp] theorem kLst_ev (evs : List EV) (h : evs.length ≤ 10000000) : kLst evs e = oOk ((toTs evs).map fun ts => .tmp (.ml ts)) e := if_pos h
@[simp] theorem eLst_ev (t : M3 (List EV)) (env : Env3) : eLst t env = (t env).bind kLst := by
  unfold eLst Out.bind kLst
  rcases t env with ⟨a, e⟩ | ⟨c, e⟩ | _
  · simp only
    congr 1
    cases toTs a <;> rfl
  · rfl
  · rfl
@[simp] theorem ixN_nat (n k : Nat) (h : k < n) : ixN n (k : Int) = some k := by
  unfold ixN; rw [if_pos (by omega), if_pos (by omega)]; simp
theorem ixN_int (n : Nat) (i : Int) (h0 : 0 ≤ i) (h : i < n) : ixN n i = some i.toNat := by
  unfold ixN; rw [if_pos h0, if_pos h]
theorem atI_int {α : Type} {xs : List α} {i : Int} (h0 : 0 ≤ i) (h : i < xs.length) : atI xs i = xs[i.toNat]? := by
  unfold atI; rw [ixN_int _ _ h0 h]; rfl
@[simp] theorem seqW_lst (ws : List W) : seqW (.lst ws) = some ws := id rfl
@[simp] theorem ixI_lst (ob : EV) (ws : List W) (i : Int) : ixI ob (.im (.lst ws)) i = (atI ws i).map EV.im := id rfl
@[simp] theorem ixE_int (ob : EV) (i : Int) (env : Env3) : ixE ob (.im (.int i)) env = (rd env ob).bind fun x => ixI ob x i := id rfl
def kCB (r : FC) (evs : List EV) (e : Env3) : Out EV := oOk (r evs e) e
@[simp] theorem kCB_ev (r : FC) (evs : List EV) (e : Env3) : kCB r evs e = oOk (r evs e) e := id rfl
@[simp] theorem eCB_ev (r : FC) (t : M3 (List EV)) (env : Env3) : eCB r t env = (t env).bind (kCB r) := by unfold eCB Out.bind kCB oOk; cases t env <;> first | rfl | (dsimp only; split <;> simp_all)
@[simp] theorem seqT_im (w : W) : seqT (.im w) = (seqW w).map fun ws => ims ws := id rfl
@[simp] theorem rI1_ev (f : Int → W) (i : Int) (env : Env3) : rI1 f [.im (.int i)] env = some (.im (f i)) := id rfl
@[simp] theorem oNo_ev (env : Env3) : oNo env = .ok none env := id rfl
def kPart (v : EV) (e : Env3) : Out (Option Int) := match v with
  | .im (.int i) => .ok (some i) e
  | _ => .stuck
@[simp] theorem kPart_ev (i : Int) (e : Env3) : kPart (.im (.int i)) e = .ok (some i) e := id rfl
@[simp] theorem oPart_ev (f : M3 EV) (env : Env3) : oPart f env = (f env).bind kPart := by
  unfold oPart Out.bind kPart
  rcases f env with ⟨a, e⟩ | ⟨c, e⟩ | _
  · rcases a with w | t | ⟨k, π⟩
    · cases w <;> rfl
    · rfl
    · rfl
  · rfl
  · rfl
def kSl2 (l : Option Int) (h : Option Int) (e : Env3) : Out (Option Int × Option Int) := .ok (l, h) e
@[simp] theorem kSl2_ev (l h : Option Int) (e : Env3) : kSl2 l h e = .ok (l, h) e := id rfl
def kSl1 (fh : MO) (l : Option Int) (e : Env3) : Out (Option Int × Option Int) := (fh e).bind (kSl2 l)
@[simp] theorem kSl1_ev (fh : MO) (l : Option Int) (e : Env3) : kSl1 fh l e = (fh e).bind (kSl2 l) := id rfl
def mSl (fl fh : MO) : M3 (Option Int × Option Int) := fun e => (fl e).bind (kSl1 fh)
@[simp] theorem mSl_ev (fl fh : MO) (e : Env3) : mSl fl fh e = (fl e).bind (kSl1 fh) := id rfl
def kSl3 (o : EV) (p : Option Int × Option Int) (e : Env3) : Out EV := oOk ((rd e o).bind fun x => cutX x p.1 p.2) e
@[simp] theorem kSl3_ev (o : EV) (l h : Option Int) (e : Env3) : kSl3 o (l, h) e = oOk ((rd e o).bind fun x => cutX x l h) e := id rfl
def kSl (fl fh : MO) (o : EV) (e1 : Env3) : Out EV := (pendB o (mSl fl fh) e1).bind (kSl3 o)
@[simp] theorem kSl_ev (fl fh : MO) (o : EV) (e1 : Env3) : kSl fl fh o e1 = (pendB o (mSl fl fh) e1).bind (kSl3 o) := id rfl
@[simp] theorem eSl_ev (fo : M3 EV) (fl fh : MO) (env : Env3) : eSl fo fl fh env = (fo env).bind (kSl fl fh) := by
  unfold eSl Out.bind kSl
  rcases fo env with ⟨a, e⟩ | ⟨c, e⟩ | _
  · show _ = (pendB a (mSl fl fh) e).bind (kSl3 a)
    have : (fun e => match fl e with
      | .ok l e' => (match fh e' with
        | .ok h e'' => Out.ok (l, h) e''
        | .exc c e'' => .exc c e''
        | .stuck => .stuck)
      | .exc c e' => .exc c e'
      | .stuck => .stuck) = mSl fl fh := by
      funext e; unfold mSl kSl1 kSl2 Out.bind; cases fl e with
      | ok l e1 => dsimp only; cases fh e1 <;> rfl
      | exc c e1 => rfl
      | stuck => rfl
    have aux : ∀ m, m = mSl fl fh → (match pendB a m e with
      | .ok (l, h) e2 => (match (rd e2 a).bind fun x => cutX x l h with
        | some ev => Out.ok ev e2
        | none => .stuck)
      | .exc c e2 => .exc c e2
      | .stuck => .stuck) = (pendB a (mSl fl fh) e).bind (kSl3 a) := by
      intro m hm
      subst hm
      unfold Out.bind kSl3 oOk
      cases pendB a (mSl fl fh) e with
      | ok p e2 =>
        obtain ⟨l, h⟩ := p
        dsimp only
        cases (rd e2 a).bind fun x => cutX x l h <;> rfl
      | exc c e2 => rfl
      | stuck => rfl
    exact aux _ this
  · rfl
  · rfl
@[simp] theorem cutX_scr (ws : List W) (l h : Option Int) : cutX (.im (.scr ws)) l h = some (.tmp (.ml (ims (cutA ws l h)))) := id rfl
theorem cutA_take {α : Type} (xs : List α) (k : Nat) : cutA xs none (some (k : Int)) = xs.take k := by
  unfold cutA
  have e : ∀ n d k : Nat, HT.sIx n d (some (k : Int)) = min k n := fun n d k => by
    show (if (k : Int) < 0 then ((k : Int) + (n : Int)).toNat else min (k : Int).toNat n) = min k n
    rw [if_neg (by omega), Int.toNat_natCast]
  rw [e]
  show ((xs.drop 0).take (min k xs.length - 0)) = _
  simp [List.take_eq_take_iff]
theorem cutA_drop {α : Type} (xs : List α) (k : Nat) : cutA xs (some (k : Int)) none = xs.drop k := by
  unfold cutA
  have e : ∀ n d k : Nat, HT.sIx n d (some (k : Int)) = min k n := fun n d k => by
    show (if (k : Int) < 0 then ((k : Int) + (n : Int)).toNat else min (k : Int).toNat n) = min k n
    rw [if_neg (by omega), Int.toNat_natCast]
  rw [e]
  show ((xs.drop (min k xs.length)).take (xs.length - min k xs.length)) = _
  rw [List.take_of_length_le (by simp)]
  by_cases h : k ≤ xs.length
  · rw [Nat.min_eq_left h]
  · rw [Nat.min_eq_right (by omega), List.drop_eq_nil_of_le (Nat.le_refl _), List.drop_eq_nil_of_le (by omega)]
end
section
variable {env e : Env3}
@[simp] theorem itemsE_im (w : W) (xs : List T) : itemsE (.im w) xs = (allI xs).map fun ws => ime ws := id rfl
def kRow (o : EV) (e : Env3) : Out IV := oOk (rowI o e) e
@[simp] theorem kRow_ev (o : EV) (e : Env3) : kRow o e = oOk (rowI o e) e := id rfl
@[simp] theorem iRow_ev (fo : M3 EV) (env : Env3) : iRow fo env = (fo env).bind kRow := by unfold iRow Out.bind kRow oOk; cases fo env <;> first | rfl | (dsimp only; split <;> simp_all)
def kRowI (o : EV) (x : Option T) : Option IV := x.bind fun x => match x with
  | .im (.str z) => some ⟨z.toList.map fun c => EV.im (.str (String.singleton c)), []⟩
  | x => (seqT x).bind fun xs => (itemsE o xs).map fun is => ⟨is, [o]⟩
@[simp] theorem rowI_ev (o : EV) (env : Env3) : rowI o env = kRowI o (rd env o) := id rfl
@[simp] theorem kRowI_str (o : EV) (z : String) : kRowI o (some (.im (.str z))) = some ⟨z.toList.map fun c => EV.im (.str (String.singleton c)), []⟩ := id rfl
@[simp] theorem kRowI_lst (o : EV) (xs : List W) : kRowI o (some (.im (.lst xs))) = (itemsE o (ims xs)).map fun is => ⟨is, [o]⟩ := by simp [kRowI, map_im]
def kFor (tg : TG3) (b : S3) (iv : IV) (e : Env3) : SO3 := holdsS iv.hold (forF tg b iv.items) e
@[simp] theorem kFor_ev (tg : TG3) (b : S3) (is hs : List EV) (e : Env3) : kFor tg b ⟨is, hs⟩ e = holdsS hs (forF tg b is) e := id rfl
@[simp] theorem sFor_ev (it : M3 IV) (tg : TG3) (b : S3) (env : Env3) : sFor it tg b env = (it env).toS (kFor tg b) := by
  unfold sFor Out.toS kFor
  cases it env <;> rfl
@[simp] theorem mapE_id (o : SO3) : o.mapE (fun e => e) = o := by cases o <;> rfl
@[simp] theorem holdsS_nil (f : S3) (env : Env3) : holdsS [] f env = f env := by
  unfold holdsS
  show (f env).mapE (fun e => e) = f env
  simp
@[simp] theorem holdsS_im (w : W) (f : S3) (env : Env3) : holdsS [.im w] f env = f env := by
  unfold holdsS
  show (f env).mapE (fun e => e) = f env
  simp
def Turn (tg : TG3) (b : S3) (x : EV) (env env' : Env3) : Prop := okI x env = true ∧ ∃ e1, tg x env = some e1 ∧ (b e1 = .nx env' ∨ b e1 = .ct env')
theorem Turn.go {tg : TG3} {b : S3} {x : EV} {env env' : Env3} (h : Turn tg b x env env') (r : List EV) : forF tg b (x :: r) env = forF tg b r env' := by
  obtain ⟨h1, e1, h2, h3⟩ := h
  show (if okI x env = true then _ else _) = _
  rw [if_pos h1, h2]
  rcases h3 with h3 | h3 <;> simp only [h3]
theorem Turn.im {tg : TG3} {b : S3} {w : W} {env e1 env' : Env3} (h : tg (.im w) env = some e1) (h2 : b e1 = .nx env') : Turn tg b (.im w) env env' := ⟨rfl, e1, h, .inl h2⟩
theorem forF_map {α : Type} {tg : TG3} {b : S3} (f : α → W) (xs : List α) (Inv : List α → Env3 → Prop) (env : Env3) (st : ∀ pre x r env, xs = pre ++ x :: r → Inv pre env → ∃ env', Turn tg b (.im (f x)) env env' ∧ Inv (pre ++ [x]) env') (h0 : Inv [] env) :
    ∃ env', forF tg b (ime (xs.map f)) env = .nx env' ∧ Inv xs env' := by
  have go : ∀ (r pre : List α) (env : Env3), xs = pre ++ r → Inv pre env → ∃ env', forF tg b (ime (r.map f)) env = .nx env' ∧ Inv xs env' := by
    intro r
    induction r with
    | nil => intro pre env e h; exact ⟨env, rfl, by rw [e, List.append_nil]; exact h⟩
    | cons x r ih =>
      intro pre env e h
      obtain ⟨e1, t, h1⟩ := st pre x r env e h
      obtain ⟨e2, h2, h3⟩ := ih (pre ++ [x]) e1 (by rw [e]; simp) h1
      exact ⟨e2, by rw [List.map_cons, ime_cons, t.go]; exact h2, h3⟩
  exact go xs [] env rfl h0
def LcStep (tg : TG3) (tt : M3 Bool) (te : M3 EV) (vs : List Nat) (x : EV) (env : Env3) (o : Option T) : Prop :=
  okI x env = true ∧ ∃ e1, tg x env = some e1 ∧ ((∃ e2, o = none ∧ tt e1 = .ok false e2 ∧ wipeE vs e2 = some env) ∨ ∃ t e2 ev e3, o = some t ∧ tt e1 = .ok true e2 ∧ te e2 = .ok ev e3 ∧ toT ev = some t ∧ wipeE vs e3 = some env)
theorem LcStep.go {tg : TG3} {tt : M3 Bool} {te : M3 EV} {vs : List Nat} {x : EV} {env : Env3} {o : Option T} (h : LcStep tg tt te vs x env o) (r : List EV) (acc : List T) (ha : acc.length < 10000000) :
    lcF tg tt te vs (x :: r) acc env = lcF tg tt te vs r (acc ++ o.toList) env := by
  obtain ⟨h1, e1, h2, h3⟩ := h
  conv => lhs; unfold lcF
  rw [if_pos h1, h2]
  rcases h3 with ⟨e2, rfl, h3, h4⟩ | ⟨t, e2, ev, e3, rfl, h3, h4, h5, h6⟩
  · simp [h3, h4]
  · simp [h3, h4, h5, h6, ha]
theorem LcStep.no {tg : TG3} {tt : M3 Bool} {te : M3 EV} {vs : List Nat} {w : W} {env e1 e2 : Env3} (h1 : tg (.im w) env = some e1) (h2 : tt e1 = .ok false e2) (h5 : wipeE vs e2 = some env) : LcStep tg tt te vs (.im w) env none :=
  ⟨rfl, e1, h1, .inl ⟨e2, rfl, h2, h5⟩⟩
end
end VL
namespace VL
open PySem L2
section
variable {env e : Env3} {i j : Int} {s t : String} {a b : Bool} {xs ys : List W}
@[simp] theorem eqv_non : W.eqv .non .non = true := by simp [W.eqv]
@[simp] theorem eqv_int : W.eqv (.int i) (.int j) = decide (i = j) := by simp [W.eqv]
@[simp] theorem eqv_bl : W.eqv (.bl a) (.bl b) = (a == b) := by simp [W.eqv]
@[simp] theorem eqv_str : W.eqv (.str s) (.str t) = decide (s = t) := by simp [W.eqv]
@[simp] theorem eqv_non_int : W.eqv .non (.int i) = false := by simp [W.eqv]
@[simp] theorem eqv_non_bl : W.eqv .non (.bl b) = false := by simp [W.eqv]
@[simp] theorem eqv_non_str : W.eqv .non (.str s) = false := by simp [W.eqv]
@[simp] theorem eqv_int_non : W.eqv (.int i) .non = false := by simp [W.eqv]
@[simp] theorem eqv_bl_non : W.eqv (.bl b) .non = false := by simp [W.eqv]
@[simp] theorem eqv_str_non : W.eqv (.str s) .non = false := by simp [W.eqv]
@[simp] theorem eqv_tup : W.eqv (.tup xs) (.tup ys) = W.eqvs xs ys := by simp [W.eqv]
@[simp] theorem eqv_lst : W.eqv (.lst xs) (.lst ys) = W.eqvs xs ys := by simp [W.eqv]
@[simp] theorem eqv_tup_non : W.eqv (.tup xs) .non = false := by simp [W.eqv]
@[simp] theorem eqv_non_tup : W.eqv .non (.tup xs) = false := by simp [W.eqv]
@[simp] theorem eqv_lst_non : W.eqv (.lst xs) .non = false := by simp [W.eqv]
@[simp] theorem eqv_non_lst : W.eqv .non (.lst xs) = false := by simp [W.eqv]
@[simp] theorem eqvs_nil : W.eqvs [] [] = true := by simp [W.eqvs]
@[simp] theorem eqvs_cons (x y : W) : W.eqvs (x :: xs) (y :: ys) = (W.eqv x y && W.eqvs xs ys) := by simp [W.eqvs]
@[simp] theorem eqvs_nil_cons (y : W) : W.eqvs [] (y :: ys) = false := by simp [W.eqvs]
@[simp] theorem eqvs_cons_nil (y : W) : W.eqvs (y :: ys) [] = false := by simp [W.eqvs]
@[simp] theorem okW_non (n : Nat) : okW n .non = true := by cases n <;> simp [okW]
@[simp] theorem okW_bl (n : Nat) : okW n (.bl b) = true := by cases n <;> simp [okW]
@[simp] theorem okW_int (n : Nat) : okW n (.int i) = true := by cases n <;> simp [okW]
@[simp] theorem okW_str (n : Nat) : okW n (.str s) = true := by cases n <;> simp [okW]
@[simp] theorem okW_tup (n : Nat) : okW (n + 1) (.tup xs) = okWs n xs := by simp [okW]
@[simp] theorem okW_lst (n : Nat) : okW (n + 1) (.lst xs) = okWs n xs := by simp [okW]
@[simp] theorem okWs_nil (n : Nat) : okWs n [] = true := by simp [okWs]
@[simp] theorem okWs_cons (n : Nat) (x : W) : okWs n (x :: xs) = (okW n x && okWs n xs) := by simp [okWs]
@[simp] theorem eqT_lst (h1 : okWs 63 xs = true) (h2 : okWs 63 ys = true) : eqT (.im (.lst xs)) (.im (.lst ys)) = some (W.eqvs xs ys) := by
  rw [eqT_im (by simpa using h1) (by simpa using h2), eqv_lst]
@[simp] theorem isx_ev (c D : String) : isx c D = (c == D || D == "WardenError") := id rfl
def kTry3 (i : Nat) (ts : String → S3) (c : String) (o : Option Env3) : SO3 := match o with
  | some e1 => mapEnd (unX i) (ts c e1)
  | none => .stuck
@[simp] theorem kTry3_some (i : Nat) (ts : String → S3) (c : String) (e1 : Env3) : kTry3 i ts c (some e1) = mapEnd (unX i) (ts c e1) := id rfl
def kTry (i : Nat) (D0 : String) (ns : List String) (ts : String → S3) (o : SO3) : SO3 := match o with
  | .ex c e => if c ∈ ns then (if isx c D0 = true then kTry3 i ts c (setX i c e) else .ex c e) else .stuck
  | o => o
@[simp] theorem sTry_ev (i : Nat) (D0 : String) (ns : List String) (tb : S3) (ts : String → S3) (env : Env3) : sTry i D0 ns tb ts env = kTry i D0 ns ts (tb env) := by
  unfold sTry kTry kTry3
  cases tb env with
  | ex c e =>
    first
    | rfl
    | (dsimp only
       by_cases h1 : c ∈ ns
       · by_cases h2 : isx c D0 = true
         · simp only [h1, h2, if_true]; cases setX i c e <;> rfl
         · simp only [h1, h2, if_true, if_false]; rfl
       · simp only [h1, if_false])
  | _ => rfl
@[simp] theorem kTry_ex (i : Nat) (D0 : String) (ns : List String) (ts : String → S3) (c : String) (e : Env3) (h : c ∈ ns) : kTry i D0 ns ts (.ex c e) = if isx c D0 = true then kTry3 i ts c (setX i c e) else .ex c e := if_pos h
def kSetX (i : Nat) (c : String) (s : Option (Option SV)) (env : Env3) : Option Env3 := match s with
  | some (some (SV.own _ _ _)) => none
  | some _ => if noExc i env = true then some (env.set i (some (SV.exc c))) else none
  | none => none
@[simp] theorem setX_ev (i : Nat) (c : String) (env : Env3) : setX i c env = kSetX i c env[i]? env := by unfold setX kSetX; rfl
@[simp] theorem kSetX_none (i : Nat) (c : String) (h : noExc i env = true) : kSetX i c (some none) env = some (env.set i (some (SV.exc c))) := if_pos h
def noX (i : Nat) : Nat → Env3 → Bool
  | _, [] => true
  | k, some (SV.exc _) :: r => k == i && noX i (k + 1) r
  | k, _ :: r => noX i (k + 1) r
theorem noX_iff (i : Nat) : ∀ (env : Env3) (k : Nat), noX i k env = (List.range env.length).all fun j => (k + j) == i || (match env[j]? with
  | some (some (SV.exc _)) => false
  | _ => true)
  | [], k => rfl
  | x :: r, k => by
    rw [List.length_cons, List.range_succ_eq_map, List.all_cons, List.all_map]
    have ih := noX_iff i r (k + 1)
    have e : ((fun j => (k + j) == i || (match (x :: r)[j]? with
      | some (some (SV.exc _)) => false
      | _ => true)) ∘ Nat.succ) = fun j => (k + 1 + j) == i || (match r[j]? with
      | some (some (SV.exc _)) => false
      | _ => true) := by
      funext j
      simp only [Function.comp, Nat.succ_eq_add_one, List.getElem?_cons_succ]
      rw [show k + (j + 1) = k + 1 + j by omega]
    rw [e, ← ih]
    simp only [List.getElem?_cons_zero, Nat.add_zero]
    rcases x with _ | x
    · simp [noX]
    · cases x <;> simp [noX]
@[simp] theorem noExc_ev (i : Nat) (env : Env3) : noExc i env = noX i 0 env := by
  rw [noX_iff]; unfold noExc; simp only [Nat.zero_add] <;> congr 1 <;> (funext j; rcases env[j]? with _ | _ | x <;> first | rfl | (cases x <;> rfl))
@[simp] theorem noX_nil (i k : Nat) : noX i k [] = true := id rfl
@[simp] theorem noX_val (i k : Nat) (w : W) (r : Env3) : noX i k (some (.val w) :: r) = noX i (k + 1) r := id rfl
@[simp] theorem noX_none (i k : Nat) (r : Env3) : noX i k (none :: r) = noX i (k + 1) r := id rfl
@[simp] theorem noX_exc (i k : Nat) (c : String) (r : Env3) : noX i k (some (.exc c) :: r) = (k == i && noX i (k + 1) r) := id rfl
def oEnd (k : Env3 → SO3) (o : Option Env3) : SO3 := match o with
  | some e => k e
  | none => .stuck
@[simp] theorem oEnd_some (k : Env3 → SO3) (e : Env3) : oEnd k (some e) = k e := id rfl
@[simp] theorem mapEnd_nx (u : Env3 → Option Env3) (e : Env3) : mapEnd u (.nx e) = oEnd .nx (u e) := by
  show (match u e with | some e => SO3.nx e | none => .stuck) = _
  cases u e <;> rfl
def kUnX (i : Nat) (s : Option (Option SV)) (env : Env3) : Option Env3 := match s with
  | some (some (SV.exc _)) => if noExc i env = true then some (env.set i none) else none
  | _ => none
@[simp] theorem unX_ev (i : Nat) (env : Env3) : unX i env = kUnX i env[i]? env := by unfold unX kUnX; rfl
@[simp] theorem kUnX_exc (i : Nat) (c : String) (h : noExc i env = true) : kUnX i (some (some (.exc c))) env = some (env.set i none) := if_pos h
def kXIs (c : String) (b : Bool) (s : Option (Option SV)) (env : Env3) : Out EV := match s with
  | some (some (SV.exc c')) => if c' = c then .ok (.im (.bl b)) env else .stuck
  | _ => .stuck
@[simp] theorem eXIs_ev (i : Nat) (c : String) (b : Bool) (env : Env3) : eXIs i c b env = kXIs c b env[i]? env := by unfold eXIs kXIs; rfl
@[simp] theorem kXIs_exc (c : String) (b : Bool) : kXIs c b (some (some (.exc c))) env = .ok (.im (.bl b)) env := if_pos rfl
@[simp] theorem lstOf_ml (ts : List T) : lstOf (.ml ts) = allI ts := id rfl
@[simp] theorem lstOf_lst (ws : List W) : lstOf (.im (.lst ws)) = some ws := id rfl
@[simp] theorem fCat_ev (x y : T) : fCat x y = (lstOf x).bind fun xs => (lstOf y).bind fun ys => if xs.length + ys.length ≤ 10000000 then some (.tmp (.ml (ims (xs ++ ys)))) else none := id rfl
end
end VL
namespace VL
open PySem L2
end VL
namespace VL
open PySem L2
theorem forF_ex {tg : TG3} {b : S3} {x : EV} {env e1 : Env3} {c : String} {e2 : Env3} (r : List EV) (h : okI x env = true) (h1 : tg x env = some e1) (h2 : b e1 = .ex c e2) : forF tg b (x :: r) env = .ex c e2 := by
  show (if okI x env = true then _ else _) = _
  rw [if_pos h, h1]
  simp only [h2]
end VL
namespace VL
open PySem L2
@[simp] theorem atI_0 {α : Type} (a : α) (r : List α) : atI (a :: r) 0 = some a := by
  rw [atI_int (by omega) (by simp only [List.length_cons]; omega)]; simp
end VL
namespace VL
open PySem L2
inductive Hd where
  | away | rd (w : W) | wr (w : W) | wantR | wantW (w : W) | lvW (w : W) | lvR | lvE
namespace Hd
def cls : Hd → String
  | away => "Away" | rd _ => "Reader" | wr _ => "Writer" | wantR => "WantsRead" | wantW _ => "WantsWrite" | lvW _ => "LeavingWriter" | lvR => "LeavingReader" | lvE => "LeavingEmpty"
def flds : Hd → List (String × W)
  | rd w => [("own_words", w)] | wr w => [("own_words", w)] | wantW w => [("own_words", w)] | lvW w => [("own_words", w)] | _ => []
def w (s : Hd) : W := .ins s.cls s.flds
def kind : Hd → String
  | away => "away" | rd _ => "reader" | wr _ => "writer" | wantR => "wants read" | wantW _ => "wants write" | lvW _ => "leaving writer" | lvR => "leaving reader" | lvE => "leaving empty"
def words : Hd → W
  | rd w => w | wr w => w | wantW w => w | lvW w => w | _ => .non
def isN : W → Bool
  | .non => true
  | _ => false
def may : Hd → String
  | rd _ => "read" | wr _ => "write" | wantW w => if isN w = true then "none" else "read" | _ => "none"
def met (s : Hd) (x : String) (g : W) : Option (Hd × W) := match s with
  | away => none
  | rd _ => if x = "yield" then some (away, .tup [.str "yielded", .non]) else none
  | wr w => if x = "lower" then some (rd w, .tup [.str "lowered", w]) else if x = "yield" then some (away, .tup [.str "yielded", w]) else none
  | wantR => if x = "share" then some (rd g, .tup [.str "took", .non]) else none
  | wantW w => if x = "own" then some (wr g, .tup [.str "took", .non]) else if x = "yield" ∧ isN w = false then some (wantW .non, .tup [.str "yielded", .non]) else none
  | lvW w => if x = "lower" then some (lvR, .tup [.str "lowered", w]) else if x = "yield" then some (lvE, .tup [.str "yielded", w]) else if x = "gone" then some (away, .non) else none
  | lvR => if x = "yield" then some (lvE, .tup [.str "yielded", .non]) else if x = "gone" then some (away, .non) else none
  | lvE => if x = "gone" then some (away, .non) else none
end Hd
inductive Dd where
  | rd (a : Int) | wr (a v : Int) | add (a v : Int) | sw (a o n : Int)
  deriving DecidableEq
namespace Dd
def cls : Dd → String
  | rd _ => "ReadDeed" | wr _ _ => "WriteDeed" | add _ _ => "AddDeed" | sw _ _ _ => "SwapDeed"
def flds : Dd → List (String × W)
  | rd a => [("address", .int a)] | wr a v => [("address", .int a), ("value", .int v)] | add a v => [("address", .int a), ("value", .int v)] | sw a o n => [("address", .int a), ("old", .int o), ("new", .int n)]
def w (d : Dd) : W := .ins d.cls d.flds
def plain : Dd → List W
  | rd a => [.str "read", .int a] | wr a v => [.str "write", .int a, .int v] | add a v => [.str "add", .int a, .int v] | sw a o n => [.str "swap", .int a, .int o, .int n]
def addr : Dd → Int
  | rd a => a | wr a _ => a | add a _ => a | sw a _ _ => a
def wants : Dd → String
  | rd _ => "read" | _ => "write"
def behind : Dd → Int → Int
  | rd _, x => x | wr _ v, _ => v | add _ v, x => x + v | sw _ o n, x => if x = o then n else x
def name : Dd → String
  | rd _ => "read" | wr _ _ => "write" | add _ _ => "add" | sw _ _ _ => "swap"
def rest : Dd → List Int
  | rd a => [a] | wr a v => [a, v] | add a v => [a, v] | sw a o n => [a, o, n]
@[simp] theorem plain_ok (n : Nat) (d : Dd) : okWs n d.plain = true := by cases d <;> simp [plain]
@[simp] theorem plain_eqvs (d e : Dd) : W.eqvs d.plain e.plain = decide (d = e) := by
  cases d <;> cases e <;> simp [plain]
end Dd
structure NP where
  lines : List (Int × String × W)
  used : W
  wait : W
def lineW (l : Int × String × W) : W := .tup [.int l.1, .str l.2.1, l.2.2]
def NP.w (n : NP) : W := .tup [.tup (n.lines.map lineW), n.used, n.wait]
def natW (n : Nat) : W := .int n
def nw (ns : List Nat) : List W := ns.map natW
end VL
namespace VL
open PySem L2
def mget {κ α : Type} [DecidableEq κ] (k : κ) : List (κ × α) → Option α
  | [] => none
  | (j, x) :: r => if j = k then some x else mget k r
section
variable {κ α β : Type} [DecidableEq κ]
end
theorem kfind_get (k : Ky) : ∀ kvs : List (Ky × T), ((kfind k kvs).bind fun i => (kvs.map (·.2))[i]?) = mget k kvs
  | [] => rfl
  | (j, x) :: r => by
    unfold kfind
    rw [List.findIdx?_cons]
    by_cases h : j = k
    · simp [h, mget]
    · simp only [h, decide_false, Bool.false_eq_true, if_false, mget]
      rw [← kfind_get k r]
      unfold kfind
      cases (r.findIdx? fun q => decide (q.1 = k)) <;> simp
theorem kid_md (k : Ky) (kvs : List (Ky × T)) : (T.md kvs).kid (.key k) = mget k kvs := kfind_get k kvs
@[simp] theorem fNotInD_im (x : T) (w : W) : fNotInD x (.im w) = fNotIn x (.im w) := id rfl
def kIxM (ob iv : EV) (x : Option T) (env : Env3) : Option EV := match x with
  | some (.md kvs) => (keyE iv).bind fun k => (mget k kvs).map (kidEV ob (.key k))
  | _ => ixE ob iv env
@[simp] theorem kIxM_im (ob iv : EV) (w : W) (env : Env3) : kIxM ob iv (some (.im w)) env = ixE ob iv env := id rfl
theorem ixD_ev (ob iv : EV) (env : Env3) : ixD ob iv env = kIxM ob iv (rd env ob) env := by
  unfold ixD kIxM
  cases h : rd env ob with
  | none => rfl
  | some x => cases x with
    | md kvs => simp only [ixM, h, kid_md]
    | _ => rfl
def kIxD (p : EV × EV) (e : Env3) : Out EV := oOk (ixD p.1 p.2 e) e
@[simp] theorem kIxD_ev (x y : EV) (e : Env3) : kIxD (x, y) e = oOk (kIxM x y (rd e x) e) e := by rw [← ixD_ev]; rfl
@[simp] theorem eIxD_ev (a b : M3 EV) (env : Env3) : eIxD a b env = (ePair a b env).bind kIxD := by
  unfold eIxD Out.bind kIxD oOk; cases ePair a b env <;> first | rfl | (dsimp only; split <;> simp_all)
@[simp] theorem lenD_im (w : W) : lenD (.im w) = lenT (.im w) := id rfl
@[simp] theorem rLenD_ev (v : EV) (env : Env3) : rLenD [v] env = (rd env v).bind fun x => (lenD x).map fun n : Nat => .im (.int (n : Int)) := id rfl
section
variable {α : Type} {f : α → T}
end
end VL
namespace VL
open PySem L2
end VL
namespace VL
open PySem L2
def sw (ss : List String) : List W := ss.map W.str
end VL
namespace VL
open PySem L2
section
variable {env e e1 e2 e3 : Env3} {α β γ : Type}
abbrev eI : Int → W := W.int
abbrev eB : Bool → W := W.bl
abbrev eS : String → W := W.str
abbrev eN : Unit → W := fun _ => W.non
@[reducible] def eO (f : α → W) : Option α → W
  | none => .non
  | some x => f x
abbrev eL (f : α → W) (xs : List α) : W := .lst (xs.map f)
abbrev eU (f : α → W) (xs : List α) : W := .tup (xs.map f)
abbrev eP1 (a : α → W) (p : α) : W := .tup [a p]
abbrev eP2 (a : α → W) (b : β → W) (p : α × β) : W := .tup [a p.1, b p.2]
abbrev eP3 {γ : Type} (a : α → W) (b : β → W) (c : γ → W) (p : α × β × γ) : W := .tup [a p.1, b p.2.1, c p.2.2]
abbrev eP4 {γ δ : Type} (a : α → W) (b : β → W) (c : γ → W) (d : δ → W) (p : α × β × γ × δ) : W := .tup [a p.1, b p.2.1, c p.2.2.1, d p.2.2.2]
abbrev eP5 {γ δ ε : Type} (a : α → W) (b : β → W) (c : γ → W) (d : δ → W) (f : ε → W) (p : α × β × γ × δ × ε) : W := .tup [a p.1, b p.2.1, c p.2.2.1, d p.2.2.2.1, f p.2.2.2.2]
structure EqE [DecidableEq α] (f : α → W) (n : Nat) : Prop where
  ok : ∀ x m, n ≤ m → okW m (f x) = true
  eq : ∀ x y, W.eqv (f x) (f y) = decide (x = y)
theorem EqE.I : EqE eI 0 := ⟨fun _ _ _ => okW_int _, fun _ _ => by simp⟩
theorem EqE.S : EqE eS 0 := ⟨fun _ _ _ => okW_str _, fun _ _ => by simp⟩
theorem EqE.N : EqE eN 0 := ⟨fun _ _ _ => okW_non _, fun _ _ => by simp⟩
class NN (f : α → W) : Prop where
  l : ∀ x, W.eqv (f x) .non = false
  r : ∀ x, W.eqv .non (f x) = false
instance : NN eI := ⟨fun _ => by simp, fun _ => by simp⟩
instance : NN eB := ⟨fun _ => by simp, fun _ => by simp⟩
instance : NN eS := ⟨fun _ => by simp, fun _ => by simp⟩
instance (f : α → W) : NN (eL f) := ⟨fun _ => by simp, fun _ => by simp⟩
instance (f : α → W) : NN (eU f) := ⟨fun _ => by simp, fun _ => by simp⟩
instance (f : α → W) : NN (eP1 f) := ⟨fun _ => by simp, fun _ => by simp⟩
instance (f : α → W) (g : β → W) : NN (eP2 f g) := ⟨fun _ => by simp, fun _ => by simp⟩
instance {γ : Type} (f : α → W) (g : β → W) (h : γ → W) : NN (eP3 f g h) := ⟨fun _ => by simp, fun _ => by simp⟩
instance {γ δ : Type} (f : α → W) (g : β → W) (h : γ → W) (i : δ → W) : NN (eP4 f g h i) := ⟨fun _ => by simp, fun _ => by simp⟩
instance {γ δ ε : Type} (f : α → W) (g : β → W) (h : γ → W) (i : δ → W) (j : ε → W) : NN (eP5 f g h i j) := ⟨fun _ => by simp, fun _ => by simp⟩
theorem okWs_all {f : α → W} {m : Nat} (h : ∀ x, okW m (f x) = true) : ∀ xs : List α, okWs m (xs.map f) = true
  | [] => by simp
  | x :: r => by simp [h, okWs_all h r]
theorem eqvs_map [DecidableEq α] {f : α → W} (h : ∀ x y, W.eqv (f x) (f y) = decide (x = y)) : ∀ xs ys : List α, W.eqvs (xs.map f) (ys.map f) = decide (xs = ys)
  | [], [] => by simp
  | [], _ :: _ => by simp
  | _ :: _, [] => by simp
  | x :: r, y :: s => by simp [h, eqvs_map h r s]
theorem EqE.L [DecidableEq α] {f : α → W} {n : Nat} (h : EqE f n) : EqE (eL f) (n + 1) := ⟨fun x m l => by
  obtain ⟨k, rfl⟩ : ∃ k, m = k + 1 := ⟨m - 1, by omega⟩
  rw [okW_lst]; exact okWs_all (fun y => h.ok y k (by omega)) x, fun x y => by rw [eqv_lst]; exact eqvs_map h.eq x y⟩
def getI {α : Type} (xs : List α) (k : Int) : Option α := atI xs k
class NI (f : α → W) : Prop where
  n : ∀ x, (T.im (f x)).isNon = false
instance : NI eI := ⟨fun _ => rfl⟩
instance : NI eB := ⟨fun _ => rfl⟩
instance : NI eS := ⟨fun _ => rfl⟩
instance (f : α → W) : NI (eL f) := ⟨fun _ => rfl⟩
instance (f : α → W) : NI (eU f) := ⟨fun _ => rfl⟩
instance (f : α → W) : NI (eP1 f) := ⟨fun _ => rfl⟩
instance (f : α → W) (g : β → W) : NI (eP2 f g) := ⟨fun _ => rfl⟩
instance {γ : Type} (f : α → W) (g : β → W) (h : γ → W) : NI (eP3 f g h) := ⟨fun _ => rfl⟩
instance {γ δ : Type} (f : α → W) (g : β → W) (h : γ → W) (i : δ → W) : NI (eP4 f g h i) := ⟨fun _ => rfl⟩
instance {γ δ ε : Type} (f : α → W) (g : β → W) (h : γ → W) (i : δ → W) (j : ε → W) : NI (eP5 f g h i j) := ⟨fun _ => rfl⟩
variable {Φ : SO3 → Prop} {k : S3}
inductive Lo (V ρ : Type) where
  | nx (v : V) | bk (v : V) | rt (r : ρ)
def loopM {V ρ : Type} (body : V → α → Option (Lo V ρ)) : List α → V → Option (V ⊕ ρ)
  | [], v => some (.inl v)
  | x :: r, v => (body v x).bind fun o => match o with
    | .nx v' => loopM body r v'
    | .bk v' => some (.inl v')
    | .rt y => some (.inr y)
def rng (lo : Int) (n : Nat) : List Int := (List.range n).map fun i : Nat => lo + i
def lcM (t : α → Option Bool) (f : α → Option β) : List α → Option (List β)
  | [] => some []
  | x :: r => (t x).bind fun b => if b = true then (f x).bind fun y => (lcM t f r).map (y :: ·) else lcM t f r
end
end VL
namespace VL
open PySem L2
section
variable {env e e1 e2 e3 : Env3} {α β γ : Type}
def addU (a b : List α) : Option (List α) := if a.length + b.length ≤ 10000000 then some (a ++ b) else none
def divI (a b : Int) : Option Int := if CDivW a b then some (a / b) else none
def modI (a b : Int) : Option Int := if 0 < b then some (a % b) else none
def ckL (xs : List α) (ys : List β) : Option (List β) := if xs.length < 10000000 then some ys else none
variable {Φ : SO3 → Prop} {k : S3} {o : SO3} {V J ρ : Type}
def appL (xs : List α) (x : α) : Option (List α) := if xs.length < 10000000 then some (xs ++ [x]) else none
end
end VL
namespace VL
open PySem L2
section
variable {env e e1 e2 e3 : Env3} {α β γ : Type}
abbrev eD (d : Dd) : W := .tup d.plain
theorem EqE.D : EqE eD 1 := ⟨fun d m l => by
  obtain ⟨k, rfl⟩ : ∃ k, m = k + 1 := ⟨m - 1, by omega⟩
  rw [okW_tup]; exact Dd.plain_ok k d, fun x y => by rw [eqv_tup, Dd.plain_eqvs]⟩
instance : NN eD := ⟨fun _ => by simp, fun _ => by simp⟩
instance : NI eD := ⟨fun _ => rfl⟩
end
end VL
namespace VL
open PySem L2
section
variable {env e e1 e2 e3 : Env3} {α β γ : Type}
def setI (xs : List α) (k : Int) (x : α) : Option (List α) := (ixN xs.length k).map fun j => xs.set j x
end
end VL
namespace VL
open PySem L2
section
variable {env e e1 e2 e3 : Env3} {α β γ ρ σ : Type} {k : Nat} {π : Path} {p : Bool} {L : List Path} {T0 T1 x y : T}
def popI (xs : List α) : Option (α × List α) := match xs with
  | [] => none
  | x :: r => some (x, r)
variable {Φ : SO3 → Prop} {kk : S3}
def whileM {V ρ : Type} (c : V → Option Bool) (b : V → Option (Lo V ρ)) : Nat → V → Option (V ⊕ ρ)
  | 0, _ => none
  | n + 1, s => (c s).bind fun t => if t = true then (b s).bind fun o => match o with
    | .nx s' => whileM c b n s'
    | .bk s' => some (.inl s')
    | .rt r => some (.inr r) else some (.inl s)
end
end VL
namespace VL
open PySem L2
section
variable {env e e1 e2 e3 : Env3} {α β γ ρ σ : Type} {k : Nat} {π : Path} {p : Bool} {L : List Path} {T0 T1 x y : T}
structure KeyE (f : α → W) : Prop where
  hk : ∀ x, hkW (f x) = true
  inj : ∀ x y, W.nk (f x) = W.nk (f y) → x = y
variable [DecidableEq α]
def mIdx (a : α) (m : List (α × β)) : Option Nat := m.findIdx? fun q => decide (q.1 = a)
def mHas (a : α) (m : List (α × β)) : Bool := (mIdx a m).isSome
def mPut (a : α) (b : β) (m : List (α × β)) : List (α × β) := match mIdx a m with
  | some i => m.set i (a, b)
  | none => m ++ [(a, b)]
end
section
variable {env e : Env3}
variable {Φ : SO3 → Prop} {kk : S3} {e1 : Env3}
end
end VL
namespace VL
open PySem L2
section
variable {env e e1 e2 e3 : Env3} {α β γ : Type} {k : Nat} {π : Path} {p : Bool} {L : List Path}
end
end VL
namespace VL
open PySem L2
section
variable {env e e1 : Env3} {i : Nat} {t : T}
end
end VL
namespace VL
open PySem L2 PyProof.Rows
end VL
namespace VL
open PySem L2
abbrev WD := Option (List Int)
abbrev eWD : WD → W := eO (eU eI)
inductive Hs where
  | away | rd (w : WD) | wr (w : WD) | wantR | wantW (w : WD) | lvW (w : WD) | lvR | lvE
  deriving DecidableEq
namespace Hs
def h : Hs → Hd
  | away => .away | rd w => .rd (eWD w) | wr w => .wr (eWD w) | wantR => .wantR | wantW w => .wantW (eWD w) | lvW w => .lvW (eWD w) | lvR => .lvR | lvE => .lvE
def kind : Hs → String
  | away => "away" | rd _ => "reader" | wr _ => "writer" | wantR => "wants read" | wantW _ => "wants write" | lvW _ => "leaving writer" | lvR => "leaving reader" | lvE => "leaving empty"
def words : Hs → WD
  | rd w => w | wr w => w | wantW w => w | lvW w => w | _ => none
def may : Hs → String
  | rd _ => "read" | wr _ => "write" | wantW none => "none" | wantW _ => "read" | _ => "none"
def met (s : Hs) (x : String) (g : WD) : Option (Hs × Option (String × WD)) := match s with
  | away => none
  | rd _ => if x = "yield" then some (away, some ("yielded", none)) else none
  | wr w => if x = "lower" then some (rd w, some ("lowered", w)) else if x = "yield" then some (away, some ("yielded", w)) else none
  | wantR => if x = "share" then some (rd g, some ("took", none)) else none
  | wantW w => if x = "own" then some (wr g, some ("took", none)) else if x = "yield" ∧ w.isSome = true then some (wantW none, some ("yielded", none)) else none
  | lvW w => if x = "lower" then some (lvR, some ("lowered", w)) else if x = "yield" then some (lvE, some ("yielded", w)) else if x = "gone" then some (away, none) else none
  | lvR => if x = "yield" then some (lvE, some ("yielded", none)) else if x = "gone" then some (away, none) else none
  | lvE => if x = "gone" then some (away, none) else none
end Hs
def hs_kind (s : Hs) : Option String := some s.kind
def hs_may (s : Hs) : Option String := some s.may
def hs_words (s : Hs) : Option WD := some s.words
def dd_of (d : Dd) : Option Dd := if 0 ≤ d.addr then some d else none
def dd_place (d : Dd) : Option Int := some d.addr
def dd_wants (d : Dd) : Option String := some d.wants
def dd_behind (d : Dd) (v : Int) : Option Int := some (d.behind v)
def dd_plain (d : Dd) : Option Dd := some d
section
variable {env e1 e2 : Env3}
section
variable {α β : Type} [DecidableEq α]
def mGet (a : α) : List (α × β) → Option β
  | [] => none
  | q :: r => if q.1 = a then some q.2 else mGet a r
end
section
variable {β : Type} {k : Nat} {π : Path}
end
end
end VL
namespace VL
open PySem L2
section
variable {env e e0 e1 e2 e3 : Env3} {α β γ ρ σ : Type} {k : Nat} {π : Path} {p : Bool} {L : List Path} {T0 T1 : T}
end
end VL
namespace L2
open PySem VL
end L2
namespace VL
open PySem L2 PySem.W PyProof.Rows
abbrev tWD := Option (List Int)
abbrev tLT := String × Int × Int × tWD
section
variable {env : Env3} {α κ : Type}
structure KyE (ek : κ → W) (lt : κ → κ → Bool) : Prop where
  ok : ∀ k, okW 60 (ek k) = true
  al : ∀ k k', alike (ek k).dat (ek k').dat = true
  so : (∀ k, ∃ x r, (ek k).dat = .tuple (x :: r)) ∨ ∀ k, (ek k).dat ≠ .none ∧ ∀ xs, (ek k).dat ≠ .tuple xs
  lt : ∀ k k', dataLt (ek k).dat (ek k').dat = lt k k'
def ltS (s t : String) : Bool := decide (cpsS s < cpsS t)
theorem cps_of (s : String) : (Str.ofString s).cps.toList = cpsS s := ofString_cps s
theorem KyE.S : KyE eS ltS := by
  refine ⟨fun k => by simp, fun k k' => by simp [W.dat, alike], .inr fun k => ⟨fun h => by simp [W.dat] at h, fun xs h => by simp [W.dat] at h⟩, fun k k' => ?_⟩
  simp only [W.dat]
  rw [dataLt_str, cps_of, cps_of]; rfl
end
end VL
namespace VL
open PySem L2 PySem.W PyProof.Rows
abbrev tRD := Int × Int × Bool
abbrev tKD := tRD × (Int × String) × Int
section
variable {α β : Type} [DecidableEq α]
end
end VL
namespace VL
open PySem L2
section
variable {α β γ σ ρ : Type}
def Ok (o : Option α) (Q : α → Prop) : Prop := ∃ a, o = some a ∧ Q a
theorem Ok.bind {o : Option α} {f : α → Option β} {R : α → Prop} {Q : β → Prop} (h : Ok o R) (k : ∀ a, R a → Ok (f a) Q) : Ok (o.bind f) Q := by
  obtain ⟨a, rfl, ha⟩ := h; exact k a ha
theorem Ok.imp {o : Option α} {R Q : α → Prop} (h : Ok o R) (k : ∀ a, R a → Q a) : Ok o Q := by
  obtain ⟨a, h1, ha⟩ := h; exact ⟨a, h1, k a ha⟩
theorem Ok.of {o : Option α} {a : α} (h : o = some a) : Ok o (fun x => x = a) := ⟨a, h, rfl⟩
theorem Ok.eq {o : Option α} {a : α} (h : Ok o (fun x => x = a)) : o = some a := by obtain ⟨b, h1, rfl⟩ := h; exact h1
theorem getI_nat {xs : List α} {k : Nat} : getI xs (k : Int) = xs[k]? := by
  unfold getI
  by_cases h : k < xs.length
  · rw [atI_int (by omega) (by omega)]; simp
  · unfold atI ixN
    rw [if_pos (by omega), if_neg (by omega)]
    simp only [Option.bind_none]
    rw [List.getElem?_eq_none (by omega)]
theorem modI_of {a b : Int} (h : 0 < b) : modI a b = some (a % b) := if_pos h
theorem divI_of {a b : Int} (h : 0 < b ∧ b < 2 ^ 64) : divI a b = some (a / b) := if_pos (CDivW_of h.1 h.2)
theorem ckL_of {xs : List α} {ys : List β} (h : xs.length < 10000000) : ckL xs ys = some ys := if_pos h
theorem appL_of {xs : List α} {x : α} (h : xs.length < 10000000) : appL xs x = some (xs ++ [x]) := if_pos h
theorem addU_of {xs ys : List α} (h : xs.length + ys.length ≤ 10000000) : addU xs ys = some (xs ++ ys) := if_pos h
theorem lcM_tot {t : α → Bool} {f : α → β} : ∀ xs : List α, lcM (fun x => some (t x)) (fun x => some (f x)) xs = some ((xs.filter t).map f)
  | [] => rfl
  | x :: r => by
    show ((Option.some (t x)).bind fun b => if b = true then ((Option.some (f x)).bind fun y => (lcM _ _ r).map (y :: ·)) else lcM _ _ r) = _
    rw [lcM_tot r]
    cases h : t x <;> simp [h]
theorem lcM_map {f : α → β} (xs : List α) : lcM (fun _ => some true) (fun x => some (f x)) xs = some (xs.map f) := by
  rw [lcM_tot (t := fun _ => true), List.filter_eq_self.mpr (fun _ _ => rfl)]
theorem lcM_filter {t : α → Bool} (xs : List α) : lcM (fun x => some (t x)) (fun x => some x) xs = some (xs.filter t) := by
  rw [lcM_tot (f := fun x => x)]; simp
end
end VL
namespace VL
open PySem L2
def bitsOf : List Bool → Nat
  | [] => 0
  | h :: r => (if h then 1 else 0) + 2 * bitsOf r
def trues : List Bool → Nat → List Nat
  | [], _ => []
  | h :: r, k => (if h then [k] else []) ++ trues r (k + 1)
theorem mem_trues : ∀ (hs : List Bool) (k i : Nat), i ∈ trues hs k ↔ k ≤ i ∧ hs[i - k]? = some true
  | [], k, i => by simp [trues]
  | h :: r, k, i => by
    rw [trues, List.mem_append, mem_trues r (k + 1) i]
    by_cases hi : i = k
    · subst hi
      cases h <;> simp <;> omega
    · by_cases hk : k ≤ i
      · rw [show i - k = (i - (k + 1)) + 1 by omega, List.getElem?_cons_succ]
        have : i ∉ (if h = true then [k] else []) := by split <;> simp [hi]
        simp only [this, false_or]
        exact ⟨fun q => ⟨hk, q.2⟩, fun q => ⟨by omega, q.2⟩⟩
      · have : i ∉ (if h = true then [k] else []) := by split <;> simp [hi]
        simp only [this, false_or]
        exact ⟨fun q => by omega, fun q => by omega⟩
theorem trues_up : ∀ (hs : List Bool) (k : Nat), (trues hs k).Pairwise (· < ·)
  | [], k => .nil
  | h :: r, k => by
    rw [trues]
    have ih := trues_up r (k + 1)
    split
    · refine List.pairwise_cons.mpr ⟨fun x hx => ?_, ih⟩
      have := (mem_trues r (k + 1) x).mp hx; omega
    · exact ih
def tru (hs : List Bool) : List Int := (trues hs 0).map Int.ofNat
theorem mem_tru (hs : List Bool) (i : Nat) : (i : Int) ∈ tru hs ↔ hs[i]? = some true := by
  unfold tru
  rw [List.mem_map]
  constructor
  · rintro ⟨j, h1, h2⟩
    have : j = i := by have : (j : Int) = (i : Int) := h2; omega
    subst this
    simpa using (mem_trues hs 0 j).mp h1
  · intro h
    exact ⟨i, (mem_trues hs 0 i).mpr ⟨by omega, by simpa using h⟩, rfl⟩
theorem tru_nat {hs : List Bool} {x : Int} (h : x ∈ tru hs) : ∃ i : Nat, x = i ∧ hs[i]? = some true := by
  unfold tru at h
  obtain ⟨j, h1, h2⟩ := List.mem_map.mp h
  exact ⟨j, h2.symm, by simpa using (mem_trues hs 0 j).mp h1⟩
theorem tru_up (hs : List Bool) : (tru hs).Pairwise (· < ·) := by
  unfold tru
  refine List.pairwise_map.mpr ((trues_up hs 0).imp ?_)
  intro a b h
  exact Int.ofNat_lt.mpr h
end VL
namespace PG
open PySem L2 VL
abbrev Ty_Near := Int × Int × Int × (List (Int × Hs)) × (List Int) × (List Dd) × (List (Dd × Int))
abbrev Ty_Book := (Option Int) × Int
abbrev Ty_Home := Int × Int × tWD × Ty_Book × (List tLT) × (Option tLT) × (List ((String × Int) × Bool))
abbrev Ty_Roads := Bool × Int × (List (Int × tLT))
abbrev Ty_House := Int × Int × Bool × (List Ty_Near) × (List Ty_Home) × Ty_Roads × (List (Int × Dd × Int)) × (List Int)
def g_to_home (p0_word : String) : Option Bool :=
  Option.bind (α := (Unit) ⊕ Bool) (if true = true then if (decide (p0_word ∈ ["read", "write", "back", "lowered", "yielded", "took"])) = true then some (Sum.inr true) else if (decide (p0_word ∈ ["lower", "yield", "share", "own", "gone"])) = true then some (Sum.inr false) else some (Sum.inl ()) else some (Sum.inl ())) (Sum.elim (fun s2 => none) (fun y7 => some y7))
def g_make_letter (p0_word : String) (p1_line : Int) (p2_near : Int) (p3_words : tWD) : Option tLT :=
  (g_to_home p0_word).bind fun r1 => some (p0_word, p1_line, p2_near, p3_words)
def g_line_of (p0_address : Int) (p1_width : Int) : Option Int :=
  (divI p0_address p1_width).bind fun v1 => some v1
def g_Near_state (p0_self : Ty_Near) (p1_line : Int) : Option Hs :=
  if (mHas p1_line p0_self.2.2.2.1) = true then (mGet p1_line p0_self.2.2.2.1).bind fun v2 => some v2 else some Hs.away
def g_spot_of (p0_address : Int) (p1_width : Int) : Option Int :=
  (modI p0_address p1_width).bind fun v1 => some v1
def g_put_in (p0_words : (List Int)) (p1_spot : Int) (p2_value : Int) : Option (List Int) :=
  (addU (cutA p0_words none (some p1_spot)) ([p2_value])).bind fun v1 => (addU v1 (cutA p0_words (some (p1_spot + (1 : Int))) none)).bind fun v2 => some v2
def g_Near_do_first (p0_self : Ty_Near) (p1_deed : Dd) (p2_line : Int) (p3_state : Hs) : Option (Unit × Ty_Near) :=
  (dd_place p1_deed).bind fun r1 => (g_spot_of r1 p0_self.2.1).bind fun r2 => (some r2).bind fun spot3 => (hs_words p3_state).bind fun r4 => (r4).bind fun w5 => (getI w5 spot3).bind fun v6 => (some v6).bind fun found7 => (dd_wants p1_deed).bind fun r8 => Option.bind (α := Ty_Near) (if (decide (r8 = "write")) = true then (hs_words p3_state).bind fun r12 => (dd_behind p1_deed found7).bind fun r13 => (r12).bind fun w14 => (g_put_in w14 spot3 r13).bind fun r15 => (if p0_self.2.2.2.1.length < 10000000 then some () else none).bind fun m16 => some (p0_self.1, p0_self.2.1, p0_self.2.2.1, (mPut p2_line (Hs.wr (some r15)) p0_self.2.2.2.1), p0_self.2.2.2.2.1, p0_self.2.2.2.2.2.1, p0_self.2.2.2.2.2.2) else some p0_self) fun s10 => (lcM (fun x18 => some (!decide (x18 = p2_line))) (fun x18 => some x18) s10.2.2.2.2.1).bind fun l19 => (ckL s10.2.2.2.2.1 l19).bind fun l20 => (appL l20 p2_line).bind fun l21 => (dd_plain p1_deed).bind fun r22 => (appL s10.2.2.2.2.2.2 (r22, found7)).bind fun l23 => (popI s10.2.2.2.2.2.1).bind fun q24 => some ((), (s10.1, s10.2.1, s10.2.2.1, s10.2.2.2.1, l21, q24.2, l23))
def g_Near_give_back (p0_self : Ty_Near) : Option ((List tLT) × Ty_Near) :=
  Option.bind (α := (Unit) ⊕ ((List tLT) × Ty_Near)) (loopM (fun (s1 : Unit) x2 => (mGet x2 p0_self.2.2.2.1).bind fun v5 => (mGet x2 p0_self.2.2.2.1).bind fun v6 => (hs_kind v6).bind fun r7 => if (decide (r7 ∈ ["leaving writer", "leaving reader", "leaving empty"])) = true then some (Lo.rt (([] : (List tLT)), p0_self)) else some (Lo.nx ())) (p0_self.2.2.2.1.map (·.1)) ()) (Sum.elim (fun s9 => (popI p0_self.2.2.2.2.1).bind fun q13 => (some q13.1).bind fun line14 => (mGet line14 p0_self.2.2.2.1).bind fun v15 => (some v15).bind fun state16 => (hs_kind state16).bind fun r17 => if (decide (r17 = "writer")) = true then (hs_words state16).bind fun r19 => (if p0_self.2.2.2.1.length < 10000000 then some () else none).bind fun m20 => (hs_words state16).bind fun r21 => (g_make_letter ("back") line14 p0_self.1 r21).bind fun r22 => some ([r22], (p0_self.1, p0_self.2.1, p0_self.2.2.1, (mPut line14 (Hs.lvW r19) p0_self.2.2.2.1), q13.2, p0_self.2.2.2.2.2.1, p0_self.2.2.2.2.2.2)) else (if p0_self.2.2.2.1.length < 10000000 then some () else none).bind fun m23 => (g_make_letter ("back") line14 p0_self.1 none).bind fun r24 => some ([r24], (p0_self.1, p0_self.2.1, p0_self.2.2.1, (mPut line14 Hs.lvR p0_self.2.2.2.1), q13.2, p0_self.2.2.2.2.2.1, p0_self.2.2.2.2.2.2))) (fun y12 => some y12))
def g_Near_send_for (p0_self : Ty_Near) (p1_deed : Dd) (p2_line : Int) (p3_state : Hs) : Option ((List tLT) × Ty_Near) :=
  (hs_kind p3_state).bind fun r1 => if (decide (r1 = "reader")) = true then (hs_words p3_state).bind fun r3 => (if p0_self.2.2.2.1.length < 10000000 then some () else none).bind fun m4 => (g_make_letter ("write") p2_line p0_self.1 none).bind fun r5 => some ([r5], (p0_self.1, p0_self.2.1, p0_self.2.2.1, (mPut p2_line (Hs.wantW r3) p0_self.2.2.2.1), p0_self.2.2.2.2.1, p0_self.2.2.2.2.2.1, p0_self.2.2.2.2.2.2)) else (hs_kind p3_state).bind fun r6 => if (!decide (r6 = "away")) = true then some (([] : (List tLT)), p0_self) else (if p0_self.2.2.2.1.length ≤ 10000000 then some (p0_self.2.2.2.1.length : Int) else none).bind fun v8 => if (decide (p0_self.2.2.1 ≤ v8)) = true then (g_Near_give_back p0_self).bind fun r10 => some (r10.1, r10.2) else (dd_wants p1_deed).bind fun r11 => if (decide (r11 = "read")) = true then (if p0_self.2.2.2.1.length < 10000000 then some () else none).bind fun m13 => (g_make_letter ("read") p2_line p0_self.1 none).bind fun r14 => some ([r14], (p0_self.1, p0_self.2.1, p0_self.2.2.1, (mPut p2_line Hs.wantR p0_self.2.2.2.1), p0_self.2.2.2.2.1, p0_self.2.2.2.2.2.1, p0_self.2.2.2.2.2.2)) else (if p0_self.2.2.2.1.length < 10000000 then some () else none).bind fun m15 => (g_make_letter ("write") p2_line p0_self.1 none).bind fun r16 => some ([r16], (p0_self.1, p0_self.2.1, p0_self.2.2.1, (mPut p2_line (Hs.wantW none) p0_self.2.2.2.1), p0_self.2.2.2.2.1, p0_self.2.2.2.2.2.1, p0_self.2.2.2.2.2.2))
def g_Near_work_on (p0_self : Ty_Near) : Option ((List tLT) × Ty_Near) :=
  Option.bind (α := (Ty_Near) ⊕ ((List tLT) × Ty_Near)) (whileM (fun (s1 : Ty_Near) => some (decide ((0 : Int) < (s1.2.2.2.2.2.1.length : Int)))) (fun (s1 : Ty_Near) => (getI s1.2.2.2.2.2.1 (0 : Int)).bind fun v4 => (some v4).bind fun deed5 => (dd_place deed5).bind fun r6 => (g_line_of r6 s1.2.1).bind fun r7 => (some r7).bind fun line8 => (g_Near_state s1 line8).bind fun r9 => (some r9).bind fun state10 => (hs_may state10).bind fun r11 => (if (!decide (r11 = "write")) = true then (hs_may state10).bind fun r12 => (dd_wants deed5).bind fun r13 => some (!decide (r12 = r13)) else some false).bind fun b14 => if b14 = true then (g_Near_send_for s1 deed5 line8 state10).bind fun r17 => some (Lo.rt (r17.1, r17.2)) else (g_Near_do_first s1 deed5 line8 state10).bind fun r18 => some (Lo.nx r18.2)) fuelW p0_self) (Sum.elim (fun s19 => some (([] : (List tLT)), s19)) (fun y22 => some y22))
def g_Roads_send (p0_self : Ty_Roads) (p1_letter : tLT) : Option (Int × Ty_Roads) :=
  (if p0_self.2.2.length < 10000000 then some () else none).bind fun m1 => some ((p0_self.2.1 + (1 : Int)), (p0_self.1, (p0_self.2.1 + (1 : Int)), (mPut (p0_self.2.1 + (1 : Int)) p1_letter p0_self.2.2)))
def g_House_post (p0_self : Ty_House) (p1_sent : (List tLT)) : Option (Unit × Ty_House) :=
  Option.bind (α := Ty_House) (List.foldlM (m := Option) (fun (s1 : Ty_House) x2 => (g_Roads_send s1.2.2.2.2.2.1 x2).bind fun r5 => some (s1.1, s1.2.1, s1.2.2.1, s1.2.2.2.1, s1.2.2.2.2.1, r5.2, s1.2.2.2.2.2.2.1, s1.2.2.2.2.2.2.2)) p0_self p1_sent) fun s6 => some ((), s6)
def g_Near_told (p0_self : Ty_Near) : Option (List (Dd × Int)) :=
  some p0_self.2.2.2.2.2.2
def g_House_note (p0_self : Ty_House) (p1_near : Int) : Option (Unit × Ty_House) :=
  (ixN p0_self.2.2.2.1.length p1_near).bind fun n1 => (p0_self.2.2.2.1[n1]?).bind fun o2 => (g_Near_told o2).bind fun r3 => (some r3).bind fun rows4 => (getI p0_self.2.2.2.2.2.2.2 p1_near).bind fun v5 => Option.bind (α := Ty_House) (List.foldlM (m := Option) (fun (s6 : Ty_House) x7 => (appL s6.2.2.2.2.2.2.1 (p1_near, x7.1, x7.2)).bind fun l10 => some (s6.1, s6.2.1, s6.2.2.1, s6.2.2.2.1, s6.2.2.2.2.1, s6.2.2.2.2.2.1, l10, s6.2.2.2.2.2.2.2)) p0_self (cutA rows4 (some v5) none)) fun s11 => (setI s11.2.2.2.2.2.2.2 p1_near (rows4.length : Int)).bind fun m13 => some ((), (s11.1, s11.2.1, s11.2.2.1, s11.2.2.2.1, s11.2.2.2.2.1, s11.2.2.2.2.2.1, s11.2.2.2.2.2.2.1, m13))
def g_House_store (p0_self : Ty_House) (p1_near : Int) : Option Nat :=
  if ((decide (p1_near < (0 : Int))) || (decide ((p0_self.2.2.2.1.length : Int) ≤ p1_near))) = true then none else (ixN p0_self.2.2.2.1.length p1_near).bind fun n2 => (p0_self.2.2.2.1[n2]?).bind fun o3 => some n2
def g_House_home (p0_self : Ty_House) (p1_line : Int) : Option Nat :=
  if ((decide (p1_line < (0 : Int))) || (decide ((p0_self.2.2.2.2.1.length : Int) ≤ p1_line))) = true then none else (ixN p0_self.2.2.2.2.1.length p1_line).bind fun n2 => (p0_self.2.2.2.2.1[n2]?).bind fun o3 => some n2
def g_Near_ask (p0_self : Ty_Near) (p1_deed : Dd) : Option ((List tLT) × Ty_Near) :=
  (dd_of p1_deed).bind fun r1 => (appL p0_self.2.2.2.2.2.1 r1).bind fun l2 => (g_Near_work_on (p0_self.1, p0_self.2.1, p0_self.2.2.1, p0_self.2.2.2.1, p0_self.2.2.2.2.1, l2, p0_self.2.2.2.2.2.2)).bind fun r3 => some (r3.1, r3.2)
def g_Near_waiting (p0_self : Ty_Near) : Option (List Dd) :=
  (lcM (fun x1 => some true) (fun x1 => (dd_plain x1).bind fun r2 => some r2) p0_self.2.2.2.2.2.1).bind fun l3 => (ckL p0_self.2.2.2.2.2.1 l3).bind fun l4 => some l4
def g_House_ask (p0_self : Ty_House) (p1_near : Int) (p2_deed : Dd) : Option (Int × Ty_House) :=
  (g_House_store p0_self p1_near).bind fun r1 => (p0_self.2.2.2.1[r1]?).bind fun o2 => (dd_of p2_deed).bind fun r3 => (dd_of p2_deed).bind fun r4 => (dd_place r4).bind fun r5 => (g_line_of r5 p0_self.1).bind fun r6 => (g_House_home p0_self r6).bind fun r7 => (p0_self.2.2.2.2.1[r7]?).bind fun o8 => (g_Near_told o2).bind fun r9 => (g_Near_waiting o2).bind fun r10 => (some ((r9.length : Int) + (r10.length : Int))).bind fun ahead11 => (g_Near_ask o2 p2_deed).bind fun r12 => (g_House_post (p0_self.1, p0_self.2.1, p0_self.2.2.1, (p0_self.2.2.2.1.set r1 r12.2), p0_self.2.2.2.2.1, p0_self.2.2.2.2.2.1, p0_self.2.2.2.2.2.2.1, p0_self.2.2.2.2.2.2.2) r12.1).bind fun r13 => (g_House_note r13.2 p1_near).bind fun r14 => some (ahead11, r14.2)
end PG
namespace PG
open PySem L2 VL
abbrev Lt := String × Int × Int × (Option (List Int))
theorem make (w : String) (l n : Int) (x : Option (List Int)) (h : w ∈ ["read", "write", "back", "lowered", "yielded", "took", "lower", "yield", "share", "own", "gone"]) : g_make_letter w l n x = some (w, l, n, x) := by
  unfold g_make_letter g_to_home
  simp only [List.mem_cons, List.not_mem_nil, or_false] at h
  rcases h with rfl | rfl | rfl | rfl | rfl | rfl | rfl | rfl | rfl | rfl | rfl <;> simp
end PG
namespace PG
open PySem L2 VL
structure HM where
  line : Int
  n : Nat
  far : WD
  ow : Option Nat
  sh : List Bool
  q : List Lt
  task : Option Lt
  due : List (String × Int)
namespace HM
def enc (h : HM) : Ty_Home := (h.line, (h.n : Int), h.far, (h.ow.map Int.ofNat, (bitsOf h.sh : Int)), h.q, h.task, h.due.map fun x => (x, true))
def hasReq (h : HM) (k : Int) : Bool := h.q.any (fun l => decide (l.2.2.1 = k)) || match h.task with
  | none => false
  | some t => decide (t.2.2.1 = k) && !decide (("took", k) ∈ h.due)
def awaited (h : HM) (l : Lt) : Bool := decide (l.2.1 = h.line) && decide (0 ≤ l.2.2.1) && decide (l.2.2.1 < (h.n : Int)) && if l.1 ∈ ["read", "write", "back"] then !h.hasReq l.2.2.1 else decide ((l.1, l.2.2.1) ∈ h.due)
def strike (h : HM) (k : Nat) : HM := { h with ow := if h.ow = some k then none else h.ow, sh := h.sh.set k false }
def take (h : HM) (l : Lt) : HM :=
  let h1 := { h with far := if h.ow = some l.2.2.1.toNat then l.2.2.2 else h.far, due := h.due.erase (l.1, l.2.2.1) }
  if l.1 = "lowered" then { h1 with ow := none, sh := match h.ow with | some o => h.sh.set o true | none => h.sh } else h1.strike l.2.2.1.toNat
def grant (h : HM) (t : Lt) : Lt × HM :=
  if t.1 = "write" then (("own", h.line, t.2.2.1, h.far), { h with ow := some t.2.2.1.toNat, sh := List.replicate h.n false, due := [("took", t.2.2.1)] })
  else (("share", h.line, t.2.2.1, h.far), { h with sh := h.sh.set t.2.2.1.toNat true, due := [("took", t.2.2.1)] })
def held (h : HM) : List Bool := match h.ow with | some o => h.sh.set o true | none => h.sh
def others (h : HM) (k : Nat) : List Int := tru (h.held.set k false)
def start (h : HM) (l : Lt) : List Lt × HM :=
  if l.1 = "back" then ([("gone", h.line, l.2.2.1, none)], { h with far := if h.ow = some l.2.2.1.toNat then l.2.2.2 else h.far }.strike l.2.2.1.toNat)
  else
    let h1 := { h with task := some l }
    if l.1 = "write" then
      if h.others l.2.2.1.toNat = [] then ([(h1.grant l).1], (h1.grant l).2)
      else ((h.others l.2.2.1.toNat).map fun o => ("yield", h.line, o, none), { h1 with due := (h.others l.2.2.1.toNat).map fun o => ("yielded", o) })
    else match h.ow with
      | some o => ([("lower", h.line, (o : Int), none)], { h1 with due := [("lowered", (o : Int))] })
      | none => ([(h1.grant l).1], (h1.grant l).2)
def drain : List Lt → HM → List Lt × HM
  | [], h => ([], { h with q := [] })
  | l :: r, h => if h.task.isSome then ([], { h with q := l :: r }) else (((h.start l).1 ++ (drain r (h.start l).2).1), (drain r (h.start l).2).2)
def come (h : HM) (l : Lt) : List Lt × HM :=
  if l.1 ∈ ["read", "write", "back"] then drain (h.q ++ [l]) h
  else if l.1 = "took" then drain h.q { h with task := none, due := [] }
  else
    let h1 := h.take l
    if h1.due = [] then match h1.task with
      | some t => ((h1.grant t).1 :: (drain h1.q (h1.grant t).2).1, (drain h1.q (h1.grant t).2).2)
      | none => ([], h1)
    else ([], h1)
structure WF (h : HM) : Prop where
  len : h.sh.length = h.n
  le : h.n ≤ 64
  ow : ∀ o, h.ow = some o → o < h.n
end HM
theorem mPut_new {α β : Type} [DecidableEq α] {a : α} {b : β} {m : List (α × β)} (h : ∀ q ∈ m, q.1 ≠ a) : mPut a b m = m ++ [(a, b)] := by
  unfold mPut
  have : mIdx a m = none := by
    unfold mIdx
    rw [List.findIdx?_eq_none_iff]
    intro x hx
    simpa using h x hx
  rw [this]
section
variable {h : HM} {l : Lt}
theorem held_len : h.held.length = h.sh.length := by unfold HM.held; split <;> simp
end
end PG
namespace PG
open PySem L2 VL
def inR (n : Nat) (l : Lt) : Prop := 0 ≤ l.2.2.1 ∧ l.2.2.1 < (n : Int)
theorem strike_wf {h : HM} (wf : h.WF) (k : Nat) : (h.strike k).WF := by
  refine ⟨by simp [HM.strike, wf.len], wf.le, fun o ho => ?_⟩
  unfold HM.strike at ho
  dsimp only at ho
  split at ho
  · cases ho
  · exact wf.ow o ho
theorem grant_wf {h : HM} (wf : h.WF) {t : Lt} (ht : inR h.n t) : (h.grant t).2.WF := by
  unfold HM.grant
  split
  · refine ⟨by simp, wf.le, fun o ho => ?_⟩
    cases ho
    have := ht.1; have := ht.2
    show _ < h.n
    omega
  · exact ⟨by simp [wf.len], wf.le, wf.ow⟩
theorem grant_n {h : HM} (t : Lt) : (h.grant t).2.n = h.n := by unfold HM.grant; split <;> rfl
theorem grant_line {h : HM} (t : Lt) : (h.grant t).2.line = h.line := by unfold HM.grant; split <;> rfl
theorem grant_task {h : HM} (t : Lt) : (h.grant t).2.task = h.task := by unfold HM.grant; split <;> rfl
theorem start_n {h : HM} (l : Lt) : (h.start l).2.n = h.n := by
  unfold HM.start
  split
  · rfl
  · dsimp only
    split
    · split
      · exact grant_n _
      · rfl
    · split
      · rfl
      · exact grant_n _
theorem start_line {h : HM} (l : Lt) : (h.start l).2.line = h.line := by
  unfold HM.start
  split
  · rfl
  · dsimp only
    split
    · split
      · exact grant_line _
      · rfl
    · split
      · rfl
      · exact grant_line _
theorem start_wf {h : HM} (wf : h.WF) {l : Lt} (hl : inR h.n l) : (h.start l).2.WF := by
  have w1 : ({ h with task := some l } : HM).WF := ⟨wf.len, wf.le, wf.ow⟩
  unfold HM.start
  split
  · exact strike_wf (h := { h with far := if h.ow = some l.2.2.1.toNat then l.2.2.2 else h.far }) ⟨wf.len, wf.le, wf.ow⟩ _
  · dsimp only
    split
    · split
      · exact grant_wf w1 hl
      · exact ⟨wf.len, wf.le, wf.ow⟩
    · split
      · exact ⟨wf.len, wf.le, wf.ow⟩
      · exact grant_wf w1 hl
theorem whileM_succ {V ρ : Type} (c : V → Option Bool) (b : V → Option (Lo V ρ)) (n : Nat) (s : V) : whileM c b (n + 1) s = (c s).bind fun t => if t = true then (b s).bind fun o => match o with
    | .nx s' => whileM c b n s'
    | .bk s' => some (.inl s')
    | .rt r => some (.inr r) else some (.inl s) := rfl
structure HM.Ok (h : HM) : Prop where
  wf : h.WF
  idle : h.task = none → h.q = [] ∧ h.due = []
  qr : ∀ l ∈ h.q, l.1 ∈ ["read", "write", "back"] ∧ inR h.n l
  tr : ∀ t, h.task = some t → (t.1 = "read" ∨ t.1 = "write") ∧ inR h.n t
  ql : h.q.length < 1000
  dl : h.due.length < 1000
end PG
namespace PG
open PySem L2 VL
section
variable {α β : Type} [DecidableEq α]
def mDel (a : α) : List (α × β) → List (α × β)
  | [] => []
  | q :: r => if q.1 = a then r else q :: mDel a r
abbrev keys (m : List (α × β)) : List α := m.map (·.1)
theorem mGet_none {a : α} : ∀ {m : List (α × β)}, a ∉ keys m → mGet a m = none
  | [], _ => rfl
  | q :: r, h => by
    simp only [List.map_cons, List.mem_cons, not_or] at h
    unfold mGet
    rw [if_neg (fun e => h.1 e.symm), mGet_none h.2]
theorem mGet_mem {a : α} {v : β} : ∀ {m : List (α × β)}, mGet a m = some v → (a, v) ∈ m
  | [], h => by cases h
  | q :: r, h => by
    unfold mGet at h
    split at h
    · rename_i e; cases h; subst e; exact List.mem_cons_self
    · exact List.mem_cons_of_mem _ (mGet_mem h)
theorem mGet_of {a : α} {v : β} : ∀ {m : List (α × β)}, (keys m).Nodup → (a, v) ∈ m → mGet a m = some v
  | [], _, h => by cases h
  | q :: r, nd, h => by
    simp only [List.map_cons, List.nodup_cons] at nd
    unfold mGet
    rcases List.mem_cons.mp h with e | h
    · rw [← e]; simp
    · rw [if_neg, mGet_of nd.2 h]
      intro e
      exact nd.1 (e ▸ List.mem_map_of_mem (f := (·.1)) h)
theorem mem_keys {a : α} {m : List (α × β)} : a ∈ keys m ↔ ∃ v, mGet a m = some v := by
  constructor
  · intro h
    induction m with
    | nil => cases h
    | cons q r ih =>
      unfold mGet
      by_cases e : q.1 = a
      · exact ⟨q.2, if_pos e⟩
      · rw [if_neg e]
        simp only [List.map_cons, List.mem_cons] at h
        exact ih (h.resolve_left fun x => e x.symm)
  · rintro ⟨v, h⟩
    exact List.mem_map_of_mem (f := (·.1)) (mGet_mem h)
theorem mHas_keys {a : α} {m : List (α × β)} : mHas a m = decide (a ∈ keys m) := by
  unfold mHas mIdx
  rw [List.findIdx?_isSome]
  apply Bool.eq_iff_iff.mpr
  simp only [List.any_eq_true, decide_eq_true_eq, List.mem_map]
theorem mHas_get {a : α} {m : List (α × β)} : mHas a m = (mGet a m).isSome := by
  rw [mHas_keys]
  cases h : mGet a m with
  | none =>
    have : a ∉ keys m := fun q => by obtain ⟨v, e⟩ := mem_keys.mp q; rw [h] at e; cases e
    simp [this]
  | some v => simp [mem_keys.mpr ⟨v, h⟩]
theorem mPut_cons {a : α} {b : β} {q : α × β} {r : List (α × β)} : mPut a b (q :: r) = if q.1 = a then (a, b) :: r else q :: mPut a b r := by
  unfold mPut mIdx
  rw [List.findIdx?_cons]
  by_cases e : q.1 = a
  · simp [e]
  · simp only [e, decide_false, Bool.false_eq_true, if_false]
    cases List.findIdx? (fun q => decide (q.1 = a)) r with
    | none => rfl
    | some i => rfl
theorem mGet_put {a c : α} {b : β} : ∀ {m : List (α × β)}, mGet c (mPut a b m) = if a = c then some b else mGet c m
  | [] => by
    show mGet c [(a, b)] = _
    unfold mGet
    split <;> rfl
  | q :: r => by
    rw [mPut_cons]
    by_cases e : q.1 = a
    · rw [if_pos e]
      unfold mGet
      by_cases e2 : a = c
      · rw [if_pos e2, if_pos e2]
      · rw [if_neg e2, if_neg e2, if_neg (by rw [e]; exact e2)]
    · rw [if_neg e]
      unfold mGet
      rw [mGet_put]
      by_cases e2 : q.1 = c
      · have : a ≠ c := fun x => e (e2.trans x.symm)
        rw [if_pos e2, if_neg this, if_pos e2]
      · rw [if_neg e2, if_neg e2]
theorem keys_put {a : α} {b : β} : ∀ {m : List (α × β)}, keys (mPut a b m) = if a ∈ keys m then keys m else keys m ++ [a]
  | [] => rfl
  | q :: r => by
    rw [mPut_cons]
    by_cases e : q.1 = a
    · rw [if_pos e, if_pos (by simp [e])]
      simp [e]
    · have e' : ¬ a = q.1 := fun x => e x.symm
      rw [if_neg e]
      simp only [List.map_cons, List.mem_cons, e', false_or]
      have ih := keys_put (a := a) (b := b) (m := r)
      unfold keys at ih
      rw [ih]
      split <;> simp
theorem put_nodup {a : α} {b : β} {m : List (α × β)} (h : (keys m).Nodup) : (keys (mPut a b m)).Nodup := by
  rw [keys_put]
  split
  · exact h
  · rename_i hn
    rw [List.nodup_append]
    exact ⟨h, by simp, fun x hx y hy e => by rw [List.mem_singleton.mp hy] at e; exact hn (e ▸ hx)⟩
theorem put_len {a : α} {b : β} {m : List (α × β)} : (mPut a b m).length = if a ∈ keys m then m.length else m.length + 1 := by
  have h := congrArg List.length (keys_put (a := a) (b := b) (m := m))
  unfold keys at h
  rw [List.length_map] at h
  rw [h]
  split <;> simp
theorem mem_put {a : α} {b : β} {m : List (α × β)} {q : α × β} (h : q ∈ mPut a b m) : q = (a, b) ∨ q ∈ m := by
  induction m with
  | nil => exact .inl (List.mem_singleton.mp h)
  | cons p r ih =>
    rw [mPut_cons] at h
    split at h
    · rcases List.mem_cons.mp h with e | h
      · exact .inl e
      · exact .inr (List.mem_cons_of_mem _ h)
    · rcases List.mem_cons.mp h with e | h
      · exact .inr (e ▸ List.mem_cons_self)
      · exact (ih h).imp id (List.mem_cons_of_mem _)
theorem keys_del {a : α} : ∀ {m : List (α × β)}, keys (mDel a m) = (keys m).erase a
  | [] => rfl
  | q :: r => by
    unfold mDel
    by_cases e : q.1 = a
    · rw [if_pos e]; simp [e]
    · rw [if_neg e]
      simp only [List.map_cons]
      rw [List.erase_cons_tail (by simpa using e)]
      have ih := keys_del (a := a) (m := r)
      unfold keys at ih
      rw [ih]
theorem mem_del {a : α} {q : α × β} : ∀ {m : List (α × β)}, q ∈ mDel a m → q ∈ m
  | [], h => by cases h
  | p :: r, h => by
    unfold mDel at h
    split at h
    · exact List.mem_cons_of_mem _ h
    · rcases List.mem_cons.mp h with e | h
      · exact e ▸ List.mem_cons_self
      · exact List.mem_cons_of_mem _ (mem_del h)
theorem del_nodup {a : α} {m : List (α × β)} (h : (keys m).Nodup) : (keys (mDel a m)).Nodup := by
  rw [keys_del]; exact h.erase a
theorem mGet_del {a c : α} {m : List (α × β)} (h : (keys m).Nodup) : mGet c (mDel a m) = if a = c then none else mGet c m := by
  by_cases e : a = c
  · rw [if_pos e]
    refine mGet_none ?_
    rw [keys_del, e]
    exact fun q => (h.mem_erase_iff.mp q).1 rfl
  · rw [if_neg e]
    induction m with
    | nil => rfl
    | cons q r ih =>
      simp only [List.map_cons, List.nodup_cons] at h
      unfold mDel
      by_cases e2 : q.1 = a
      · rw [if_pos e2]
        show _ = mGet c (q :: r)
        unfold mGet
        rw [if_neg (by rw [e2]; exact e)]
        cases r <;> rfl
      · rw [if_neg e2]
        show mGet c (q :: mDel a r) = mGet c (q :: r)
        unfold mGet
        split
        · rfl
        · have := ih h.2
          cases r <;> exact this
theorem del_len {a : α} {m : List (α × β)} (h : a ∈ keys m) : (mDel a m).length + 1 = m.length := by
  have e := congrArg List.length (keys_del (a := a) (m := m))
  rw [List.length_erase_of_mem h] at e
  unfold keys at e h
  simp only [List.length_map] at e
  have : 0 < m.length := by
    cases m with
    | nil => cases h
    | cons _ _ => simp
  omega
end
end PG
namespace PG
open PySem L2 VL
structure NS where
  num : Int
  width : Int
  room : Int
  st : List (Int × Hs)
  use : List Int
  q : List Dd
  done : List (Dd × Int)
def leaving : Hs → Bool
  | .lvW _ => true | .lvR => true | .lvE => true | _ => false
def wanted : Hs → Bool
  | .wantR => true | .wantW _ => true | _ => false
namespace NS
def enc (n : NS) : Ty_Near := (n.num, n.width, n.room, n.st, n.use, n.q, n.done)
def «at» (n : NS) (l : Int) : Hs := (mGet l n.st).getD .away
def line (n : NS) (d : Dd) : Int := d.addr / n.width
def spot (n : NS) (d : Dd) : Nat := (d.addr % n.width).toNat
def put (n : NS) (l : Int) (s : Hs) : NS :=
  { n with use := if s.may = "none" then n.use.filter (fun x => !decide (x = l)) else n.use, st := if s.kind = "away" then mDel l n.st else mPut l s n.st }
def found (n : NS) (d : Dd) : Int := ((n.at (n.line d)).words.getD []).getD (n.spot d) 0
def first (n : NS) (d : Dd) : NS :=
  { n with
    st := if d.wants = "write" then mPut (n.line d) (.wr (some (((n.at (n.line d)).words.getD []).set (n.spot d) (d.behind (n.found d))))) n.st else n.st
    use := (n.use.filter fun x => !decide (x = n.line d)) ++ [n.line d]
    q := n.q.tail
    done := n.done ++ [(d, n.found d)] }
def giveBack (n : NS) : List Lt × NS :=
  if n.st.any (fun q => leaving q.2) = true then ([], n)
  else match n.use with
    | [] => ([], n)
    | l :: r => if (n.at l).kind = "writer" then ([("back", l, n.num, (n.at l).words)], { n with st := mPut l (.lvW (n.at l).words) n.st, use := r })
      else ([("back", l, n.num, none)], { n with st := mPut l .lvR n.st, use := r })
def sendFor (n : NS) (d : Dd) : List Lt × NS :=
  if (n.at (n.line d)).kind = "reader" then ([("write", n.line d, n.num, none)], { n with st := mPut (n.line d) (.wantW (n.at (n.line d)).words) n.st })
  else if (n.at (n.line d)).kind ≠ "away" then ([], n)
  else if n.room ≤ (n.st.length : Int) then n.giveBack
  else if d.wants = "read" then ([("read", n.line d, n.num, none)], { n with st := mPut (n.line d) .wantR n.st })
  else ([("write", n.line d, n.num, none)], { n with st := mPut (n.line d) (.wantW none) n.st })
def fit (n : NS) (d : Dd) : Bool := decide ((n.at (n.line d)).may = "write") || decide ((n.at (n.line d)).may = d.wants)
def work : List Dd → NS → List Lt × NS
  | [], n => ([], n)
  | d :: r, n => if n.fit d = true then work r (n.first d) else n.sendFor d
def met (n : NS) (l : Lt) : Option (List Lt × NS) := ((n.at l.2.1).met l.1 l.2.2.2).map fun q => ((match q.2 with | some a => [(a.1, l.2.1, n.num, a.2)] | none => []), n.put l.2.1 q.1)
def come (n : NS) (l : Lt) : Option (List Lt × NS) := (n.met l).map fun q => (q.1 ++ (work q.2.q q.2).1, (work q.2.q q.2).2)
def ask (n : NS) (d : Dd) : List Lt × NS := work (n.q ++ [d]) { n with q := n.q ++ [d] }
end NS
def okS (w : Int) : Hs → Prop
  | .away => False
  | .rd x => ∃ ws, x = some ws ∧ (ws.length : Int) = w
  | .wr x => ∃ ws, x = some ws ∧ (ws.length : Int) = w
  | .lvW x => ∃ ws, x = some ws ∧ (ws.length : Int) = w
  | .wantW x => x = none ∨ ∃ ws, x = some ws ∧ (ws.length : Int) = w
  | _ => True
structure NI (n : NS) : Prop where
  wpos : 1 ≤ n.width
  wle : n.width ≤ 16
  room : 1 ≤ n.room
  rle : n.room ≤ 64
  kn : (keys n.st).Nodup
  vals : ∀ q ∈ n.st, okS n.width q.2
  useA : ∀ l ∈ n.use, (n.at l).may ≠ "none"
  useB : ∀ l, (n.at l).may ≠ "none" → l ∈ n.use ∨ ∃ d r, n.q = d :: r ∧ n.line d = l ∧ n.fit d = true
  useN : n.use.Nodup
  len : (n.st.length : Int) ≤ n.room
  want : ∀ l, wanted (n.at l) = true → ∃ d r, n.q = d :: r ∧ n.line d = l ∧ ((n.at l) = .wantR ↔ d.wants = "read")
  addr : ∀ d ∈ n.q, 0 ≤ d.addr
  lens : n.q.length + n.done.length ≤ 100000
theorem at_ok {n : NS} (h : ∀ q ∈ n.st, okS n.width q.2) {l : Int} (ha : n.at l ≠ .away) : okS n.width (n.at l) := by
  unfold NS.at at ha ⊢
  cases e : mGet l n.st with
  | none => rw [e] at ha; exact absurd rfl ha
  | some s => exact h _ (mGet_mem e)
theorem g_state (n : NS) (l : Int) : g_Near_state n.enc l = some (n.at l) := by
  unfold g_Near_state NS.at
  show (if mHas l n.st = true then (mGet l n.st).bind fun v2 => some v2 else some Hs.away) = _
  rw [mHas_get]
  cases mGet l n.st <;> rfl
theorem cutA_lo (xs : List Int) (k : Nat) : cutA xs none (some (k : Int)) = xs.take k := by
  unfold cutA
  have e : HT.sIx xs.length xs.length (some (k : Int)) = min k xs.length := by
    show (if (k : Int) < 0 then ((k : Int) + (xs.length : Int)).toNat else min (k : Int).toNat xs.length) = _
    rw [if_neg (by omega), Int.toNat_natCast]
  rw [e]
  show (xs.drop 0).take (min k xs.length - 0) = _
  rw [List.drop_zero, Nat.sub_zero]
  by_cases h : k ≤ xs.length
  · rw [Nat.min_eq_left h]
  · rw [Nat.min_eq_right (by omega), List.take_length, List.take_of_length_le (by omega)]
theorem g_put_in_ok {ws : List Int} {k : Nat} {v : Int} (h : k < ws.length) (hl : ws.length < 1000) : g_put_in ws (k : Int) v = some (ws.set k v) := by
  unfold g_put_in
  rw [cutA_lo]
  have e2 : cutA ws (some ((k : Int) + 1)) none = ws.drop (k + 1) := by
    rw [show (k : Int) + 1 = ((k + 1 : Nat) : Int) by omega, cutA_drop]
  rw [e2, addU_of (by simp only [List.length_take, List.length_singleton]; omega), Option.bind_some, addU_of (by simp only [List.length_append, List.length_take, List.length_drop, List.length_singleton]; omega), Option.bind_some]
  rw [List.set_eq_take_append_cons_drop, if_pos h]
  simp
theorem use_len {n : NS} (h : NI n) : n.use.length ≤ n.st.length := by
  have sub : ∀ l ∈ n.use, l ∈ keys n.st := fun l hl => by
    have := h.useA l hl
    unfold NS.at at this
    cases e : mGet l n.st with
    | none => rw [e] at this; exact absurd rfl this
    | some s => exact mem_keys.mpr ⟨s, e⟩
  have go : ∀ (us ks : List Int), us.Nodup → (∀ l ∈ us, l ∈ ks) → us.length ≤ ks.length := by
    intro us
    induction us with
    | nil => intro ks _ _; simp
    | cons a r ih =>
      intro ks hn hs
      have hn' := List.nodup_cons.mp hn
      have ha := hs a List.mem_cons_self
      have := ih (ks.erase a) hn'.2 (fun l hl => (List.mem_erase_of_ne (fun e => hn'.1 (by rw [← e]; exact hl))).mpr (hs l (List.mem_cons_of_mem _ hl)))
      rw [List.length_erase_of_mem ha] at this
      have : 0 < ks.length := List.length_pos_of_mem ha
      simp only [List.length_cons]; omega
  have := go n.use (keys n.st) h.useN sub
  unfold keys at this
  simpa using this
theorem may_read {s : Hs} (h : s.may = "read") : ∃ x, (s = .rd x) ∨ (s = .wantW x ∧ x.isSome = true) := by
  cases s with
  | rd x => exact ⟨x, .inl rfl⟩
  | wantW x => cases x with
    | none => simp [Hs.may] at h
    | some y => exact ⟨some y, .inr ⟨rfl, rfl⟩⟩
  | _ => simp [Hs.may] at h
theorem may_write {s : Hs} (h : s.may = "write") : ∃ x, s = .wr x := by
  cases s with
  | wr x => exact ⟨x, rfl⟩
  | wantW x => cases x <;> simp [Hs.may] at h
  | _ => simp [Hs.may] at h
theorem wants_or (d : Dd) : d.wants = "read" ∨ d.wants = "write" := by cases d <;> simp [Dd.wants]
theorem fit_words {n : NS} (h : NI n) {d : Dd} (hf : n.fit d = true) : ∃ ws, (n.at (n.line d)).words = some ws ∧ (ws.length : Int) = n.width ∧ (d.wants = "write" → n.at (n.line d) = .wr (some ws)) := by
  unfold NS.fit at hf
  simp only [Bool.or_eq_true, decide_eq_true_eq] at hf
  have wr : (n.at (n.line d)).may = "write" → ∃ ws, (n.at (n.line d)).words = some ws ∧ (ws.length : Int) = n.width ∧ n.at (n.line d) = .wr (some ws) := fun q => by
    obtain ⟨x, hx⟩ := may_write q
    have := at_ok h.vals (l := n.line d) (by rw [hx]; simp)
    rw [hx] at this
    obtain ⟨ws, rfl, hl⟩ := this
    exact ⟨ws, by rw [hx]; rfl, hl, hx⟩
  rcases hf with hf | hf
  · obtain ⟨ws, a, b, c⟩ := wr hf; exact ⟨ws, a, b, fun _ => c⟩
  · rcases wants_or d with e | e
    · rw [e] at hf
      obtain ⟨x, hx | ⟨hx, hs⟩⟩ := may_read hf
      · have := at_ok h.vals (l := n.line d) (by rw [hx]; simp)
        rw [hx] at this
        obtain ⟨ws, rfl, hl⟩ := this
        exact ⟨ws, by rw [hx]; rfl, hl, fun q => by rw [e] at q; simp at q⟩
      · have := at_ok h.vals (l := n.line d) (by rw [hx]; simp)
        rw [hx] at this
        rcases this with rfl | ⟨ws, rfl, hl⟩
        · cases hs
        · exact ⟨ws, by rw [hx]; rfl, hl, fun q => by rw [e] at q; simp at q⟩
    · rw [e] at hf
      obtain ⟨ws, a, b, c⟩ := wr hf; exact ⟨ws, a, b, fun _ => c⟩
theorem spot_lt {n : NS} (h : NI n) {d : Dd} : (n.spot d : Int) < n.width ∧ (n.spot d : Int) = d.addr % n.width := by
  unfold NS.spot
  have := h.wpos
  have h1 := Int.emod_nonneg d.addr (show n.width ≠ 0 by omega)
  have h2 := Int.emod_lt_of_pos d.addr (show 0 < n.width by omega)
  omega
theorem g_first {n : NS} (h : NI n) {d : Dd} {r : List Dd} (hq : n.q = d :: r) (hf : n.fit d = true) : g_Near_do_first n.enc d (n.line d) (n.at (n.line d)) = some ((), (n.first d).enc) := by
  obtain ⟨ws, hw, hl, hwr⟩ := fit_words h hf
  obtain ⟨sp1, sp2⟩ := spot_lt h (d := d)
  have hul := use_len h
  have hsl : n.st.length ≤ 64 := by have := h.len; have := h.rle; omega
  have hlens := h.lens
  have hwle := h.wle
  unfold g_Near_do_first NS.first NS.found
  have e0 : n.enc.2.1 = n.width := rfl
  simp only [dd_place, Option.bind_some, g_spot_of, e0]
  rw [modI_of (by have := h.wpos; omega)]
  simp only [Option.bind_some, hs_words, hw, dd_wants]
  have hk : n.spot d < ws.length := by omega
  have hg : getI ws (d.addr % n.width) = some (ws.getD (n.spot d) 0) := by
    rw [← sp2, getI_nat, List.getElem?_eq_getElem hk, List.getD_eq_getElem?_getD, List.getElem?_eq_getElem hk]; rfl
  rw [hg]
  simp only [Option.bind_some, Option.getD_some, dd_behind, ← sp2]
  have tailE : ∀ (st : List (Int × Hs)), (lcM (fun x18 => some (!decide (x18 = n.line d))) (fun x18 => some x18) n.use).bind (fun l19 => (ckL n.use l19).bind fun l20 => (appL l20 (n.line d)).bind fun l21 => (dd_plain d).bind fun r22 => (appL n.done (r22, ws.getD (n.spot d) 0)).bind fun l23 => (popI n.q).bind fun q24 => some ((), ((n.num, n.width, n.room, st, l21, q24.2, l23) : Ty_Near))) = some ((), ({ n with st := st, use := (n.use.filter fun x => !decide (x = n.line d)) ++ [n.line d], q := n.q.tail, done := n.done ++ [(d, ws.getD (n.spot d) 0)] } : NS).enc) := by
    intro st
    have fl : (n.use.filter fun x => !decide (x = n.line d)).length ≤ n.use.length := List.length_filter_le _ _
    rw [lcM_filter, Option.bind_some, ckL_of (by omega), Option.bind_some, appL_of (by omega), Option.bind_some]
    simp only [dd_plain, Option.bind_some]
    rw [appL_of (by omega), Option.bind_some, hq]
    rfl
  by_cases c : d.wants = "write"
  · simp only [c, decide_true, if_true]
    rw [g_put_in_ok hk (by omega)]
    simp only [Option.bind_some]
    have e1 : n.enc.2.2.2.1.length < 10000000 := by show n.st.length < _; omega
    rw [if_pos e1]
    simp only [Option.bind_some]
    exact tailE (mPut (n.line d) (Hs.wr (some (ws.set (n.spot d) (d.behind (ws.getD (n.spot d) 0))))) n.st)
  · simp only [c, decide_false, Bool.false_eq_true, if_false, Option.bind_some]
    exact tailE n.st
theorem kind_reader {s : Hs} (h : s.kind = "reader") : ∃ x, s = .rd x := by cases s <;> simp [Hs.kind] at h; exact ⟨_, rfl⟩
theorem kind_writer {s : Hs} (h : s.kind = "writer") : ∃ x, s = .wr x := by cases s <;> simp [Hs.kind] at h; exact ⟨_, rfl⟩
theorem kind_away {s : Hs} : s.kind = "away" ↔ s = .away := by cases s <;> simp [Hs.kind]
theorem kind_leaving {s : Hs} : decide (s.kind ∈ ["leaving writer", "leaving reader", "leaving empty"]) = leaving s := by cases s <;> simp [Hs.kind, leaving]
theorem at_get {n : NS} {l : Int} {s : Hs} (h : mGet l n.st = some s) : n.at l = s := by unfold NS.at; rw [h]; rfl
theorem at_some {n : NS} {l : Int} (h : n.at l ≠ .away) : mGet l n.st = some (n.at l) := by
  unfold NS.at at h ⊢
  cases e : mGet l n.st with
  | none => rw [e] at h; exact absurd rfl h
  | some s => rfl
theorem at_key {n : NS} {l : Int} (h : n.at l ≠ .away) : l ∈ keys n.st := mem_keys.mpr ⟨_, at_some h⟩
theorem g_give {n : NS} (h : NI n) (hu : n.st.any (fun q => leaving q.2) = false → n.use ≠ []) : g_Near_give_back n.enc = some ((n.giveBack).1, (n.giveBack).2.enc) := by
  have loop : ∀ (xs : List (Int × Hs)), (∀ q ∈ xs, mGet q.1 n.st = some q.2) → loopM (ρ := (List Lt) × Ty_Near) (fun (s1 : Unit) x2 => (mGet x2 n.st).bind fun v5 => (mGet x2 n.st).bind fun v6 => (hs_kind v6).bind fun r7 => if (decide (r7 ∈ ["leaving writer", "leaving reader", "leaving empty"])) = true then some (Lo.rt (([] : (List Lt)), n.enc)) else some (Lo.nx ())) (xs.map (·.1)) () = some (if xs.any (fun q => leaving q.2) = true then .inr ([], n.enc) else .inl ()) := by
    intro xs
    induction xs with
    | nil => intro _; rfl
    | cons q r ih =>
      intro hx
      rw [List.map_cons]
      unfold loopM
      rw [hx q List.mem_cons_self]
      simp only [Option.bind_some, hs_kind, List.any_cons]
      have hk := kind_leaving (s := q.2)
      by_cases hq : leaving q.2 = true
      · rw [hq] at hk
        rw [hk]
        simp [hq]
      · have hq' : leaving q.2 = false := by simpa using hq
        rw [hq'] at hk
        rw [hk]
        simp only [Bool.false_eq_true, if_false, Option.bind_some, hq', Bool.false_or]
        exact ih fun p hp => hx p (List.mem_cons_of_mem _ hp)
  have hl := loop n.st (fun q hq => mGet_of h.kn hq)
  have hsl : n.st.length ≤ 64 := by have := h.len; have := h.rle; omega
  unfold g_Near_give_back NS.giveBack
  refine (congrArg (fun o => Option.bind o _) (show loopM _ (n.st.map (·.1)) () = _ from hl)).trans ?_
  rw [Option.bind_some]
  cases ha : n.st.any (fun q => leaving q.2) with
  | true => simp
  | false =>
    simp only [Bool.false_eq_true, if_false, Sum.elim_inl]
    have e0 : n.enc.2.2.2.2.1 = n.use := rfl
    have e1 : n.enc.2.2.2.1 = n.st := rfl
    rw [e0, e1]
    cases hn : n.use with
    | nil => exact absurd hn (hu ha)
    | cons l r =>
      have hm : (n.at l).may ≠ "none" := h.useA l (by rw [hn]; exact List.mem_cons_self)
      have hna : n.at l ≠ .away := fun e => hm (by rw [e]; rfl)
      simp only [popI, Option.bind_some, at_some hna, hs_kind, hs_words]
      rw [if_pos (show n.st.length < 10000000 by omega)]
      simp only [Option.bind_some]
      rw [make _ _ _ _ (by simp), make _ _ _ _ (by simp)]
      by_cases c : (n.at l).kind = "writer"
      · simp only [c, decide_true, if_true, Option.bind_some]; rfl
      · simp only [c, decide_false, Bool.false_eq_true, if_false, Option.bind_some]; rfl
theorem full_use {n : NS} (h : NI n) {d : Dd} {r : List Dd} (hq : n.q = d :: r) (ha : n.at (n.line d) = .away) (hf : n.room ≤ (n.st.length : Int)) (hl : n.st.any (fun q => leaving q.2) = false) : n.use ≠ [] := by
  intro hu
  cases hs : n.st with
  | nil => rw [hs] at hf; have := h.room; simp at hf; omega
  | cons q s =>
    have hq0 : q ∈ n.st := by rw [hs]; exact List.mem_cons_self
    have e : n.at q.1 = q.2 := at_get (mGet_of h.kn hq0)
    have ok := h.vals q hq0
    have nl : leaving q.2 = false := by
      have := List.any_eq_false.mp hl q hq0
      simpa using this
    have nw : wanted q.2 = false := by
      cases hw : wanted q.2 with
      | false => rfl
      | true =>
        obtain ⟨d', r', h1, h2, _⟩ := h.want q.1 (by rw [e]; exact hw)
        rw [hq] at h1; cases h1
        rw [← h2, ha] at e
        rw [← e] at hw
        cases hw
    have : q.1 ∈ n.use := (h.useB q.1 (by
      rw [e]
      cases hh : q.2 with
      | away => rw [hh] at ok; exact absurd ok id
      | rd x => simp [Hs.may]
      | wr x => simp [Hs.may]
      | wantR => rw [hh] at nw; cases nw
      | wantW x => rw [hh] at nw; cases nw
      | lvW x => rw [hh] at nl; cases nl
      | lvR => rw [hh] at nl; cases nl
      | lvE => rw [hh] at nl; cases nl)).resolve_right (by
      rintro ⟨d', r', h1, h2, h3⟩
      rw [hq] at h1; cases h1
      unfold NS.fit at h3
      rw [ha] at h3
      rcases wants_or d with w | w <;> rw [w] at h3 <;> simp [Hs.may] at h3)
    rw [hu] at this; cases this
theorem g_send {n : NS} (h : NI n) {d : Dd} {r : List Dd} (hq : n.q = d :: r) : g_Near_send_for n.enc d (n.line d) (n.at (n.line d)) = some ((n.sendFor d).1, (n.sendFor d).2.enc) := by
  have hsl : n.st.length ≤ 64 := by have := h.len; have := h.rle; omega
  unfold g_Near_send_for NS.sendFor
  simp only [hs_kind, hs_words, dd_wants, Option.bind_some]
  have e1 : n.enc.2.2.2.1 = n.st := rfl
  have e2 : n.enc.2.2.1 = n.room := rfl
  rw [e1, e2, if_pos (show n.st.length < 10000000 by omega), if_pos (show n.st.length ≤ 10000000 by omega)]
  simp only [Option.bind_some]
  rw [make _ _ _ _ (by simp), make _ _ _ _ (by simp)]
  simp only [Option.bind_some]
  by_cases c1 : (n.at (n.line d)).kind = "reader"
  · simp only [c1, decide_true, if_true]; rfl
  · simp only [c1, decide_false, Bool.false_eq_true, if_false]
    by_cases c2 : (n.at (n.line d)).kind = "away"
    · simp only [c2, decide_true, Bool.not_true, Bool.false_eq_true, if_false, ne_eq, not_true_eq_false]
      by_cases c3 : n.room ≤ (n.st.length : Int)
      · simp only [c3, decide_true, if_true]
        rw [g_give h (fun hl => full_use h hq (kind_away.mp c2) c3 hl), Option.bind_some]
      · simp only [c3, decide_false, Bool.false_eq_true, if_false]
        by_cases c4 : d.wants = "read"
        · simp only [c4, decide_true, if_true]; rfl
        · simp only [c4, decide_false, Bool.false_eq_true, if_false]; rfl
    · simp only [c2, decide_false, Bool.not_false, if_true, ne_eq, not_false_eq_true]
theorem at_mk {n m : NS} {l k : Int} {s : Hs} (h : m.st = mPut l s n.st) : m.at k = if l = k then s else n.at k := by
  unfold NS.at
  rw [h, mGet_put]
  split <;> rfl
theorem at_st {n m : NS} {k : Int} (h : m.st = n.st) : m.at k = n.at k := by unfold NS.at; rw [h]
theorem fit_false {n : NS} {d : Dd} (h : n.fit d = true) (hs : wanted (n.at (n.line d)) = true) : (n.at (n.line d)) ≠ .wantR ∧ d.wants = "read" := by
  unfold NS.fit at h
  simp only [Bool.or_eq_true, decide_eq_true_eq] at h
  cases e : n.at (n.line d) with
  | wantR =>
    rw [e] at h
    simp only [Hs.may] at h
    rcases wants_or d with q | q <;> rw [q] at h <;> simp at h
  | wantW x =>
    refine ⟨by simp, ?_⟩
    rw [e] at h
    cases x with
    | none => simp only [Hs.may] at h; rcases wants_or d with q | q <;> rw [q] at h <;> simp at h
    | some y => simp only [Hs.may] at h; rcases wants_or d with q | q <;> rw [q] at h <;> simp at h; exact q
  | _ => rw [e] at hs; cases hs
theorem no_want {n : NS} (h : NI n) {d : Dd} {r : List Dd} (hq : n.q = d :: r) (hf : n.fit d = true) (l : Int) : wanted (n.at l) = false := by
  cases hw : wanted (n.at l) with
  | false => rfl
  | true =>
    obtain ⟨d', r', h1, h2, h3⟩ := h.want l hw
    rw [hq] at h1; cases h1
    subst h2
    obtain ⟨a, b⟩ := fit_false hf hw
    exact absurd (h3.mpr b) a
theorem ni_first {n : NS} (h : NI n) {d : Dd} {r : List Dd} (hq : n.q = d :: r) (hf : n.fit d = true) : NI (n.first d) := by
  obtain ⟨ws, hw, hl, hwr⟩ := fit_words h hf
  have hmay : (n.at (n.line d)).may ≠ "none" := by
    unfold NS.fit at hf
    simp only [Bool.or_eq_true, decide_eq_true_eq] at hf
    rcases hf with hf | hf <;> rw [hf]
    · simp
    · rcases wants_or d with q | q <;> rw [q] <;> simp
  have hna : n.at (n.line d) ≠ .away := fun e => hmay (by rw [e]; rfl)
  have hk := at_key hna
  have hat : ∀ l, (n.first d).at l = if n.line d = l ∧ d.wants = "write" then .wr (some (ws.set (n.spot d) (d.behind (n.found d)))) else n.at l := fun l => by
    by_cases c : d.wants = "write"
    · have := at_mk (n := n) (m := n.first d) (l := n.line d) (k := l) (s := .wr (some (((n.at (n.line d)).words.getD []).set (n.spot d) (d.behind (n.found d))))) (by unfold NS.first; simp [c])
      rw [this, hw]
      simp [c]
    · rw [at_st (n := n) (by unfold NS.first; simp [c])]
      simp [c]
  have mayE : ∀ l, ((n.first d).at l).may ≠ "none" ↔ (n.at l).may ≠ "none" := fun l => by
    rw [hat]
    split
    · rename_i q; rw [← q.1]; exact ⟨fun _ => hmay, fun _ => by simp [Hs.may]⟩
    · exact Iff.rfl
  refine ⟨h.wpos, h.wle, h.room, h.rle, ?_, ?_, ?_, ?_, ?_, ?_, ?_, ?_, ?_⟩
  · unfold NS.first; dsimp only; split
    · exact put_nodup h.kn
    · exact h.kn
  · intro q hq2
    unfold NS.first at hq2; dsimp only at hq2
    split at hq2
    · rcases mem_put hq2 with e | e
      · subst e
        rw [hw]
        exact ⟨_, rfl, by simp [hl]; rfl⟩
      · exact h.vals q e
    · exact h.vals q hq2
  · intro l hl2
    rw [mayE]
    have hl3 : l ∈ (n.use.filter fun x => !decide (x = n.line d)) ++ [n.line d] := hl2
    rw [List.mem_append, List.mem_filter, List.mem_singleton] at hl3
    rcases hl3 with q | q
    · exact h.useA l q.1
    · rw [q]; exact hmay
  · intro l hl2
    rw [mayE] at hl2
    left
    show l ∈ (n.use.filter fun x => !decide (x = n.line d)) ++ [n.line d]
    rw [List.mem_append, List.mem_filter, List.mem_singleton]
    by_cases e : l = n.line d
    · exact .inr e
    · refine .inl ⟨(h.useB l hl2).resolve_right ?_, by simp [e]⟩
      rintro ⟨d', r', h1, h2, _⟩
      rw [hq] at h1; cases h1
      exact e h2.symm
  · show ((n.use.filter fun x => !decide (x = n.line d)) ++ [n.line d]).Nodup
    rw [List.nodup_append]
    refine ⟨h.useN.filter _, by simp, fun a ha b hb e => ?_⟩
    rw [List.mem_singleton.mp hb] at e
    have := (List.mem_filter.mp ha).2
    simp [e] at this
  · unfold NS.first; dsimp only; split
    · rw [put_len, if_pos hk]; exact h.len
    · exact h.len
  · intro l hl2
    rw [hat] at hl2
    split at hl2
    · cases hl2
    · rw [no_want h hq hf l] at hl2; cases hl2
  · intro d' hd'
    have : d' ∈ n.q.tail := hd'
    exact h.addr d' (List.mem_of_mem_tail this)
  · have := h.lens
    show n.q.tail.length + (n.done ++ [(d, n.found d)]).length ≤ _
    rw [hq] at this ⊢
    simp only [List.length_cons, List.tail_cons, List.length_append, List.length_singleton, List.length_nil] at this ⊢
    omega
def Settled (n : NS) : Prop := match n.q with
  | [] => True
  | d :: _ => wanted (n.at (n.line d)) = true ∨ leaving (n.at (n.line d)) = true ∨ (n.at (n.line d) = .away ∧ n.room ≤ (n.st.length : Int) ∧ n.st.any (fun q => leaving q.2) = true)
end PG
namespace PG
open PySem L2 VL
theorem fit_may {n m : NS} {d : Dd} (hw : m.width = n.width) (ha : m.at (n.line d) = n.at (n.line d)) : m.fit d = n.fit d := by
  unfold NS.fit NS.line
  rw [hw]
  unfold NS.line at ha
  rw [ha]
theorem ni_mk {n m : NS} (h : NI n) {l : Int} {s : Hs} {d : Dd} {r : List Dd} (hq : n.q = d :: r) (e1 : m.width = n.width) (e2 : m.room = n.room) (e3 : m.q = n.q) (e4 : m.done = n.done) (hs : m.st = mPut l s n.st) (ok : okS n.width s)
    (uA : ∀ k ∈ m.use, (if l = k then s else n.at k).may ≠ "none") (uB : ∀ k, (if l = k then s else n.at k).may ≠ "none" → k ∈ m.use) (uN : m.use.Nodup) (hl : l ∈ keys n.st ∨ (n.st.length : Int) < n.room)
    (hw : ∀ k, wanted (if l = k then s else n.at k) = true → n.line d = k ∧ ((if l = k then s else n.at k) = .wantR ↔ d.wants = "read")) : NI m := by
  have hat : ∀ k, m.at k = if l = k then s else n.at k := fun k => at_mk hs
  refine ⟨by rw [e1]; exact h.wpos, by rw [e1]; exact h.wle, by rw [e2]; exact h.room, by rw [e2]; exact h.rle, by rw [hs]; exact put_nodup h.kn, ?_, ?_, ?_, uN, ?_, ?_, by rw [e3]; exact h.addr, by rw [e3, e4]; exact h.lens⟩
  · intro q hq2
    rw [hs] at hq2
    rw [e1]
    rcases mem_put hq2 with e | e
    · subst e; exact ok
    · exact h.vals q e
  · intro k hk; rw [hat]; exact uA k hk
  · intro k hk; rw [hat] at hk; exact .inl (uB k hk)
  · rw [hs, put_len, e2]
    split
    · exact h.len
    · rename_i hn
      have := hl.resolve_left hn
      simp only [Int.natCast_add, Int.natCast_one]
      omega
  · intro k hk
    rw [hat] at hk ⊢
    obtain ⟨h1, h2⟩ := hw k hk
    exact ⟨d, r, by rw [e3]; exact hq, by unfold NS.line; rw [e1]; exact h1, h2⟩
theorem used {n : NS} (h : NI n) {d : Dd} {r : List Dd} (hq : n.q = d :: r) (hf : n.fit d = false) (l : Int) : l ∈ n.use ↔ (n.at l).may ≠ "none" :=
  ⟨h.useA l, fun q => (h.useB l q).resolve_right (by
    rintro ⟨d', r', h1, _, h3⟩
    rw [hq] at h1; cases h1
    rw [hf] at h3; cases h3)⟩
theorem only_want {n : NS} (h : NI n) {d : Dd} {r : List Dd} (hq : n.q = d :: r) {l : Int} (hw : wanted (n.at l) = true) : n.line d = l ∧ (n.at l = .wantR ↔ d.wants = "read") := by
  obtain ⟨d', r', h1, h2, h3⟩ := h.want l hw
  rw [hq] at h1; cases h1
  exact ⟨h2, h3⟩
theorem any_leaving {m : List (Int × Hs)} {l : Int} {s : Hs} (hs : leaving s = true) : (mPut l s m).any (fun q => leaving q.2) = true := by
  rw [List.any_eq_true]
  refine ⟨(l, s), ?_, hs⟩
  have : mGet l (mPut l s m) = some s := by rw [mGet_put, if_pos rfl]
  exact mGet_mem this
theorem ni_give {n : NS} (h : NI n) {d : Dd} {r : List Dd} (hq : n.q = d :: r) (hf : n.fit d = false) (ha : n.at (n.line d) = .away) (hr : n.room ≤ (n.st.length : Int)) : NI n.giveBack.2 ∧ Settled n.giveBack.2 ∧ n.giveBack.2.q = n.q ∧ n.giveBack.2.done = n.done ∧ n.giveBack.2.num = n.num ∧ n.giveBack.2.width = n.width ∧ n.giveBack.2.room = n.room := by
  unfold NS.giveBack
  by_cases hl : n.st.any (fun q => leaving q.2) = true
  · rw [if_pos hl]
    refine ⟨h, ?_, rfl, rfl, rfl, rfl, rfl⟩
    unfold Settled
    rw [hq]
    exact .inr (.inr ⟨ha, hr, hl⟩)
  · rw [if_neg hl]
    have hl' : n.st.any (fun q => leaving q.2) = false := by simpa using hl
    cases hu : n.use with
    | nil => exact absurd hu (full_use h hq ha hr hl')
    | cons l u =>
      have hm : (n.at l).may ≠ "none" := h.useA l (by rw [hu]; exact List.mem_cons_self)
      have hna : n.at l ≠ .away := fun e => hm (by rw [e]; rfl)
      have hne : l ≠ n.line d := fun e => hna (by rw [e]; exact ha)
      have hnd := h.useN
      rw [hu] at hnd
      have hnd' := List.nodup_cons.mp hnd
      have ku := used h hq hf
      rw [hu] at ku
      have core : ∀ (m : NS) (s : Hs), m.width = n.width → m.room = n.room → m.q = n.q → m.done = n.done → m.num = n.num → m.use = u → m.st = mPut l s n.st → okS n.width s → s.may = "none" → wanted s = false → leaving s = true → NI m ∧ Settled m := by
        intro m s e1 e2 e3 e4 e5 e6 e7 ok hs hw hlv
        refine ⟨ni_mk h hq e1 e2 e3 e4 e7 ok ?_ ?_ (by rw [e6]; exact hnd'.2) (.inl (at_key hna)) ?_, ?_⟩
        · intro k hk
          rw [e6] at hk
          have : l ≠ k := fun e => hnd'.1 (e ▸ hk)
          rw [if_neg this]
          exact (ku k).mp (List.mem_cons_of_mem _ hk)
        · intro k hk
          rw [e6]
          by_cases e : l = k
          · rw [if_pos e, hs] at hk; exact absurd rfl hk
          · rw [if_neg e] at hk
            rcases List.mem_cons.mp ((ku k).mpr hk) with q | q
            · exact absurd q.symm e
            · exact q
        · intro k hk
          by_cases e : l = k
          · rw [if_pos e, hw] at hk; cases hk
          · rw [if_neg e] at hk ⊢
            exact only_want h hq hk
        · unfold Settled
          rw [e3, hq]
          right; right
          have hln : m.line d = n.line d := by unfold NS.line; rw [e1]
          rw [hln, at_mk e7, if_neg hne, e2, e7, put_len, if_pos (at_key hna)]
          exact ⟨ha, hr, any_leaving hlv⟩
      have okl := at_ok h.vals hna
      dsimp only
      split
      · rename_i hk
        obtain ⟨x, hx⟩ := kind_writer hk
        rw [hx] at okl
        obtain ⟨a, b⟩ := core { n with st := mPut l (.lvW (n.at l).words) n.st, use := u } (.lvW (n.at l).words) rfl rfl rfl rfl rfl rfl rfl (by rw [hx]; exact okl) rfl rfl rfl
        exact ⟨a, b, rfl, rfl, rfl, rfl, rfl⟩
      · obtain ⟨a, b⟩ := core { n with st := mPut l .lvR n.st, use := u } .lvR rfl rfl rfl rfl rfl rfl rfl trivial rfl rfl rfl
        exact ⟨a, b, rfl, rfl, rfl, rfl, rfl⟩
theorem ni_send {n : NS} (h : NI n) {d : Dd} {r : List Dd} (hq : n.q = d :: r) (hf : n.fit d = false) : NI (n.sendFor d).2 ∧ Settled (n.sendFor d).2 ∧ (n.sendFor d).2.q = n.q ∧ (n.sendFor d).2.done = n.done ∧ (n.sendFor d).2.num = n.num ∧ (n.sendFor d).2.width = n.width ∧ (n.sendFor d).2.room = n.room := by
  have ku := used h hq hf
  have nf : (n.at (n.line d)).may ≠ "write" ∧ (n.at (n.line d)).may ≠ d.wants := by
    unfold NS.fit at hf
    simpa using hf
  have core : ∀ (m : NS) (s : Hs), m.width = n.width → m.room = n.room → m.q = n.q → m.done = n.done → m.use = n.use → m.st = mPut (n.line d) s n.st → okS n.width s → ((s.may ≠ "none") ↔ ((n.at (n.line d)).may ≠ "none")) → wanted s = true → (s = .wantR ↔ d.wants = "read") → (n.line d ∈ keys n.st ∨ (n.st.length : Int) < n.room) → NI m ∧ Settled m := by
    intro m s e1 e2 e3 e4 e6 e7 ok hs hw hr hl
    refine ⟨ni_mk h hq e1 e2 e3 e4 e7 ok ?_ ?_ (by rw [e6]; exact h.useN) hl ?_, ?_⟩
    · intro k hk
      rw [e6] at hk
      have := (ku k).mp hk
      by_cases e : n.line d = k
      · rw [if_pos e]; exact hs.mpr (e ▸ this)
      · rw [if_neg e]; exact this
    · intro k hk
      rw [e6]
      by_cases e : n.line d = k
      · rw [if_pos e] at hk; exact (ku k).mpr (e ▸ hs.mp hk)
      · rw [if_neg e] at hk; exact (ku k).mpr hk
    · intro k hk
      by_cases e : n.line d = k
      · rw [if_pos e]; exact ⟨e, hr⟩
      · rw [if_neg e] at hk ⊢
        exact only_want h hq hk
    · unfold Settled
      rw [e3, hq]
      left
      have hln : m.line d = n.line d := by unfold NS.line; rw [e1]
      rw [hln, at_mk e7, if_pos rfl]
      exact hw
  unfold NS.sendFor
  by_cases c1 : (n.at (n.line d)).kind = "reader"
  · rw [if_pos c1]
    obtain ⟨x, hx⟩ := kind_reader c1
    have ok := at_ok h.vals (l := n.line d) (by rw [hx]; simp)
    rw [hx] at ok
    obtain ⟨ws, rfl, hwl⟩ := ok
    have hwr : d.wants = "write" := by
      have := nf.2
      rw [hx] at this
      exact (wants_or d).resolve_left fun e => this (by rw [e]; rfl)
    obtain ⟨a, b⟩ := core { n with st := mPut (n.line d) (.wantW (n.at (n.line d)).words) n.st } (.wantW (n.at (n.line d)).words) rfl rfl rfl rfl rfl rfl (by rw [hx]; exact .inr ⟨ws, rfl, hwl⟩) (by rw [hx]; simp [Hs.may, Hs.words]) rfl (by rw [hwr]; simp) (.inl (at_key (by rw [hx]; simp)))
    exact ⟨a, b, rfl, rfl, rfl, rfl, rfl⟩
  · rw [if_neg c1]
    by_cases c2 : (n.at (n.line d)).kind = "away"
    · rw [if_neg (by simpa using c2)]
      have ha := kind_away.mp c2
      by_cases c3 : n.room ≤ (n.st.length : Int)
      · rw [if_pos c3]
        exact ni_give h hq hf ha c3
      · rw [if_neg c3]
        by_cases c4 : d.wants = "read"
        · rw [if_pos c4]
          obtain ⟨a, b⟩ := core { n with st := mPut (n.line d) .wantR n.st } .wantR rfl rfl rfl rfl rfl rfl trivial (by rw [ha]; simp [Hs.may]) rfl (by rw [c4]; simp) (.inr (by omega))
          exact ⟨a, b, rfl, rfl, rfl, rfl, rfl⟩
        · rw [if_neg c4]
          obtain ⟨a, b⟩ := core { n with st := mPut (n.line d) (.wantW none) n.st } (.wantW none) rfl rfl rfl rfl rfl rfl (.inl rfl) (by rw [ha]; simp [Hs.may]) rfl (by simp [c4]) (.inr (by omega))
          exact ⟨a, b, rfl, rfl, rfl, rfl, rfl⟩
    · rw [if_pos (by simpa using c2)]
      refine ⟨h, ?_, rfl, rfl, rfl, rfl, rfl⟩
      unfold Settled
      rw [hq]
      dsimp only
      cases hs : n.at (n.line d) with
      | away => rw [hs] at c2; exact absurd rfl c2
      | rd x => rw [hs] at c1; exact absurd rfl c1
      | wr x => rw [hs] at nf; exact absurd rfl nf.1
      | wantR => exact .inl rfl
      | wantW x => exact .inl rfl
      | lvW x => exact .inr (.inl rfl)
      | lvR => exact .inr (.inl rfl)
      | lvE => exact .inr (.inl rfl)
theorem ni_work : ∀ (q : List Dd) {n : NS}, NI n → n.q = q → NI (NS.work q n).2 ∧ Settled (NS.work q n).2 ∧ (NS.work q n).2.num = n.num ∧ (NS.work q n).2.width = n.width ∧ (NS.work q n).2.room = n.room ∧ (∃ m, (NS.work q n).2.done = n.done ++ m ∧ m.map (·.1) ++ (NS.work q n).2.q = q)
  | [], n, h, hq => ⟨h, by unfold Settled NS.work; rw [hq]; trivial, rfl, rfl, rfl, [], by simp [NS.work], by simp [NS.work, hq]⟩
  | d :: r, n, h, hq => by
    unfold NS.work
    cases hf : n.fit d with
    | true =>
      rw [if_pos rfl]
      obtain ⟨a, b, c, d1, e, m, f, g⟩ := ni_work r (ni_first h hq hf) (by show n.q.tail = r; rw [hq]; rfl)
      exact ⟨a, b, c, d1, e, (d, n.found d) :: m, by rw [f]; show (n.done ++ [(d, n.found d)]) ++ m = _; simp, by simp [g]⟩
    | false =>
      rw [if_neg (by simp)]
      obtain ⟨a, b, c, d1, e, f, g⟩ := ni_send h hq hf
      exact ⟨a, b, e, f, g, [], by simp [d1], by simp [c, hq]⟩
theorem g_work : ∀ (q : List Dd) {n : NS} (m : Nat), NI n → n.q = q → whileM (ρ := (List Lt) × Ty_Near) (fun (s1 : Ty_Near) => some (decide ((0 : Int) < (s1.2.2.2.2.2.1.length : Int)))) (fun (s1 : Ty_Near) => (getI s1.2.2.2.2.2.1 (0 : Int)).bind fun v4 => (some v4).bind fun deed5 => (dd_place deed5).bind fun r6 => (g_line_of r6 s1.2.1).bind fun r7 => (some r7).bind fun line8 => (g_Near_state s1 line8).bind fun r9 => (some r9).bind fun state10 => (hs_may state10).bind fun r11 => (if (!decide (r11 = "write")) = true then (hs_may state10).bind fun r12 => (dd_wants deed5).bind fun r13 => some (!decide (r12 = r13)) else some false).bind fun b14 => if b14 = true then (g_Near_send_for s1 deed5 line8 state10).bind fun r17 => some (Lo.rt (r17.1, r17.2)) else (g_Near_do_first s1 deed5 line8 state10).bind fun r18 => some (Lo.nx r18.2)) (m + q.length + 1) n.enc = some (if (NS.work q n).2.q = [] then .inl (NS.work q n).2.enc else .inr ((NS.work q n).1, (NS.work q n).2.enc))
  | [], n, m, h, hq => by
    rw [whileM_succ]
    have e : n.enc.2.2.2.2.2.1 = [] := hq
    simp [e, NS.work, hq]
  | d :: r, n, m, h, hq => by
    rw [whileM_succ]
    have e : n.enc.2.2.2.2.2.1 = d :: r := hq
    have e1 : n.enc.2.1 = n.width := rfl
    have hlt : (decide ((0 : Int) < ((d :: r).length : Int))) = true := by simp only [List.length_cons, decide_eq_true_eq]; omega
    have hg : getI (d :: r) 0 = some d := getI_nat (k := 0)
    have hdiv : g_line_of d.addr n.width = some (n.line d) := by
      unfold g_line_of; rw [divI_of (by have := h.wpos; have := h.wle; omega)]; rfl
    simp only [e, hlt, Option.bind_some, if_true, hg, dd_place, e1, hdiv, g_state, hs_may, dd_wants]
    have hb : (if (!decide ((n.at (n.line d)).may = "write")) = true then some (!decide ((n.at (n.line d)).may = d.wants)) else some false) = some (!n.fit d) := by
      unfold NS.fit
      by_cases c : (n.at (n.line d)).may = "write"
      · simp [c]
      · simp [c]
    rw [hb]
    simp only [Option.bind_some]
    unfold NS.work
    cases hf : n.fit d with
    | true =>
      simp only [Bool.not_true, Bool.false_eq_true, if_false, if_true]
      rw [g_first h hq hf]
      simp only [Option.bind_some]
      exact g_work r m (ni_first h hq hf) (by show n.q.tail = r; rw [hq]; rfl)
    | false =>
      simp only [Bool.not_false, if_true, Bool.false_eq_true, if_false]
      rw [g_send h hq]
      simp only [Option.bind_some]
      rw [if_neg]
      rw [(ni_send h hq hf).2.2.1, hq]; simp
theorem work_q {q : List Dd} {n : NS} (h : NI n) (hq : n.q = q) (he : (NS.work q n).2.q = []) : (NS.work q n).1 = [] := by
  induction q generalizing n with
  | nil => rfl
  | cons d r ih =>
    unfold NS.work at he ⊢
    cases hf : n.fit d with
    | true =>
      rw [hf, if_pos rfl] at he
      rw [if_pos rfl]
      exact ih (ni_first h hq hf) (by show n.q.tail = r; rw [hq]; rfl) he
    | false =>
      rw [hf, if_neg (by simp), (ni_send h hq hf).2.2.1, hq] at he
      cases he
theorem g_work_on {n : NS} (h : NI n) : g_Near_work_on n.enc = some ((NS.work n.q n).1, (NS.work n.q n).2.enc) := by
  unfold g_Near_work_on
  have g := g_work n.q (fuelW - n.q.length - 1) h rfl
  have hl : n.q.length ≤ 100000 := by have := h.lens; omega
  rw [show fuelW - n.q.length - 1 + n.q.length + 1 = fuelW from by show 1000000000 - n.q.length - 1 + n.q.length + 1 = 1000000000; omega] at g
  refine (congrArg (fun o => Option.bind o _) (show whileM _ _ fuelW n.enc = _ from g)).trans ?_
  rw [Option.bind_some]
  by_cases c : (NS.work n.q n).2.q = []
  · rw [if_pos c, work_q h rfl c]; rfl
  · rw [if_neg c]; rfl
theorem ni_push {n : NS} (h : NI n) (d : Dd) (hd : 0 ≤ d.addr) (hl : n.q.length + n.done.length < 100000) : NI { n with q := n.q ++ [d] } := by
  have hat : ∀ k, ({ n with q := n.q ++ [d] } : NS).at k = n.at k := fun k => at_st rfl
  refine ⟨h.wpos, h.wle, h.room, h.rle, h.kn, h.vals, fun l hl2 => by rw [hat]; exact h.useA l hl2, fun l hl2 => ?_, h.useN, h.len, fun l hl2 => ?_, fun x hx => ?_, ?_⟩
  · rw [hat] at hl2
    rcases h.useB l hl2 with q | ⟨d', r', h1, h2, h3⟩
    · exact .inl q
    · exact .inr ⟨d', r' ++ [d], by show n.q ++ [d] = _; rw [h1]; rfl, h2, h3⟩
  · rw [hat] at hl2 ⊢
    obtain ⟨d', r', h1, h2, h3⟩ := h.want l hl2
    exact ⟨d', r' ++ [d], by show n.q ++ [d] = _; rw [h1]; rfl, h2, h3⟩
  · rcases List.mem_append.mp hx with q | q
    · exact h.addr x q
    · rw [List.mem_singleton.mp q]; exact hd
  · show (n.q ++ [d]).length + n.done.length ≤ 100000
    simp only [List.length_append, List.length_singleton]; omega
theorem g_ask {n : NS} (h : NI n) {d : Dd} (hd : 0 ≤ d.addr) (hl : n.q.length + n.done.length < 100000) : g_Near_ask n.enc d = some ((n.ask d).1, (n.ask d).2.enc) := by
  unfold g_Near_ask NS.ask
  have e : n.enc.2.2.2.2.2.1 = n.q := rfl
  rw [show dd_of d = some d from if_pos hd, Option.bind_some, e, appL_of (by omega), Option.bind_some]
  have := g_work_on (ni_push h d hd hl)
  have ge : ((n.enc.1, n.enc.2.1, n.enc.2.2.1, n.enc.2.2.2.1, n.enc.2.2.2.2.1, n.q ++ [d], n.enc.2.2.2.2.2.2) : Ty_Near) = ({ n with q := n.q ++ [d] } : NS).enc := rfl
  rw [ge, this]
  rfl
end PG
namespace PG
open PySem L2 VL
theorem at_put {n : NS} (h : (keys n.st).Nodup) {l k : Int} {s : Hs} : (n.put l s).at k = if l = k then s else n.at k := by
  unfold NS.put NS.at
  dsimp only
  by_cases c : s.kind = "away"
  · rw [if_pos c, mGet_del h]
    split
    · rw [kind_away.mp c]; rfl
    · rfl
  · rw [if_neg c, mGet_put]
    split <;> rfl
theorem ni_put {n : NS} (h : NI n) {l : Int} {s : Hs} (hk : l ∈ keys n.st) (ok : s = .away ∨ okS n.width s)
    (hB : s.may ≠ "none" → l ∈ n.use ∨ ∃ d r, n.q = d :: r ∧ n.line d = l ∧ (s.may = "write" ∨ s.may = d.wants))
    (hw : wanted s = true → wanted (n.at l) = true ∧ (s = .wantR ↔ n.at l = .wantR)) : NI (n.put l s) := by
  have hat := fun k => at_put h.kn (l := l) (k := k) (s := s)
  refine ⟨h.wpos, h.wle, h.room, h.rle, ?_, ?_, ?_, ?_, ?_, ?_, ?_, h.addr, h.lens⟩
  · unfold NS.put; dsimp only; split
    · exact del_nodup h.kn
    · exact put_nodup h.kn
  · intro q hq
    unfold NS.put at hq; dsimp only at hq
    split at hq
    · exact h.vals q (mem_del hq)
    · rename_i hna
      rcases mem_put hq with e | e
      · subst e
        rcases ok with e | e
        · exact absurd (by rw [e]; rfl) hna
        · exact e
      · exact h.vals q e
  · intro k hk2
    rw [hat]
    unfold NS.put at hk2; dsimp only at hk2
    split at hk2
    · obtain ⟨h1, h2⟩ := List.mem_filter.mp hk2
      have : ¬ l = k := fun e => by simp [e] at h2
      rw [if_neg this]; exact h.useA k h1
    · rename_i hm
      split
      · exact hm
      · exact h.useA k hk2
  · intro k hk2
    rw [hat] at hk2
    by_cases e : l = k
    · subst e
      rw [if_pos rfl] at hk2
      rcases hB hk2 with q | ⟨d, r, h1, h2, h3⟩
      · left; unfold NS.put; dsimp only; rw [if_neg hk2]; exact q
      · right
        refine ⟨d, r, h1, h2, ?_⟩
        unfold NS.fit
        have hln : (n.put l s).line d = l := h2
        rw [hln, hat, if_pos rfl]
        simpa using h3
    · rw [if_neg e] at hk2
      rcases h.useB k hk2 with q | ⟨d, r, h1, h2, h3⟩
      · left
        unfold NS.put; dsimp only
        split
        · exact List.mem_filter.mpr ⟨q, by simp; exact fun x => e x.symm⟩
        · exact q
      · right
        refine ⟨d, r, h1, h2, ?_⟩
        exact (fit_may (n := n) (m := n.put l s) (d := d) rfl (by rw [hat, h2, if_neg e])).trans h3
  · unfold NS.put; dsimp only; split
    · exact h.useN.filter _
    · exact h.useN
  · unfold NS.put; dsimp only; split
    · have := del_len hk; have := h.len; omega
    · rw [put_len, if_pos hk]; exact h.len
  · intro k hk2
    rw [hat] at hk2 ⊢
    by_cases e : l = k
    · subst e
      rw [if_pos rfl] at hk2 ⊢
      obtain ⟨h1, h2⟩ := hw hk2
      obtain ⟨d, r, h3, h4, h5⟩ := h.want l h1
      exact ⟨d, r, h3, h4, h2.trans h5⟩
    · rw [if_neg e] at hk2 ⊢
      exact h.want k hk2
theorem settled_fit {n : NS} (h : NI n) (hs : Settled n) {d : Dd} {r : List Dd} (hq : n.q = d :: r) : n.fit d = false := by
  unfold Settled at hs
  rw [hq] at hs
  cases hf : n.fit d with
  | false => rfl
  | true =>
    have h1 := no_want h hq hf (n.line d)
    unfold NS.fit at hf
    rcases hs with q | q | ⟨q, _⟩
    · rw [h1] at q; cases q
    · cases e : n.at (n.line d) <;> rw [e] at q hf <;> first | (cases q; done) | (rcases wants_or d with w | w <;> rw [w] at hf <;> simp [Hs.may] at hf)
    · rw [q] at hf
      rcases wants_or d with w | w <;> rw [w] at hf <;> simp [Hs.may] at hf
theorem settled_use {n : NS} (h : NI n) (hs : Settled n) {l : Int} (hm : (n.at l).may ≠ "none") : l ∈ n.use :=
  (h.useB l hm).resolve_right (by
    rintro ⟨d, r, h1, h2, h3⟩
    rw [settled_fit h hs h1] at h3; cases h3)
def goodW (w : Int) (l : Lt) : Prop := (l.1 = "share" ∨ l.1 = "own") → ∃ ws, l.2.2.2 = some ws ∧ (ws.length : Int) = w
theorem ni_met {n : NS} (h : NI n) {l : Lt} {q : List Lt × NS} (hm : n.met l = some q) (hst : Settled n) (hg : goodW n.width l) : NI q.2 ∧ q.2.num = n.num ∧ q.2.width = n.width ∧ q.2.room = n.room ∧ q.2.q = n.q ∧ q.2.done = n.done ∧ q.1.length ≤ 1 := by
  unfold NS.met at hm
  obtain ⟨⟨s, a⟩, h1, rfl⟩ := Option.map_eq_some_iff.mp hm
  refine ⟨?_, rfl, rfl, rfl, rfl, rfl, by dsimp only; split <;> simp⟩
  have hna : n.at l.2.1 ≠ .away := fun e => by rw [e] at h1; cases h1
  have hk := at_key hna
  have ok := at_ok h.vals hna
  show NI (n.put l.2.1 s)
  cases hs : n.at l.2.1 with
  | away => exact absurd hs hna
  | rd x =>
    rw [hs] at h1
    simp only [Hs.met] at h1
    split at h1
    · cases h1; exact ni_put h hk (.inl rfl) (fun q => absurd rfl q) (fun q => by cases q)
    · cases h1
  | wr x =>
    rw [hs] at h1 ok
    simp only [Hs.met] at h1
    split at h1
    · cases h1
      refine ni_put h hk (.inr ok) (fun q => ?_) (fun q => by cases q)
      exact .inl (settled_use h hst (by rw [hs]; simp [Hs.may]))
    · split at h1
      · cases h1; exact ni_put h hk (.inl rfl) (fun q => absurd rfl q) (fun q => by cases q)
      · cases h1
  | wantR =>
    rw [hs] at h1
    simp only [Hs.met] at h1
    split at h1
    · rename_i hw
      cases h1
      obtain ⟨d, r, d1, d2, d3⟩ := h.want l.2.1 (by rw [hs]; rfl)
      exact ni_put h hk (.inr (hg (.inl hw))) (fun q => .inr ⟨d, r, d1, d2, .inr (by rw [d3.mp hs]; rfl)⟩) (fun q => by cases q)
    · cases h1
  | wantW x =>
    rw [hs] at h1 ok
    simp only [Hs.met] at h1
    split at h1
    · rename_i hw
      cases h1
      obtain ⟨d, r, d1, d2, d3⟩ := h.want l.2.1 (by rw [hs]; rfl)
      exact ni_put h hk (.inr (hg (.inr hw))) (fun q => .inr ⟨d, r, d1, d2, .inl rfl⟩) (fun q => by cases q)
    · split at h1
      · cases h1
        exact ni_put h hk (.inr (.inl rfl)) (fun q => absurd rfl q) (fun q => by rw [hs]; exact ⟨rfl, by simp⟩)
      · cases h1
  | lvW x =>
    rw [hs] at h1
    simp only [Hs.met] at h1
    split at h1
    · cases h1; exact ni_put h hk (.inr trivial) (fun q => absurd rfl q) (fun q => by cases q)
    · split at h1
      · cases h1; exact ni_put h hk (.inr trivial) (fun q => absurd rfl q) (fun q => by cases q)
      · split at h1
        · cases h1; exact ni_put h hk (.inl rfl) (fun q => absurd rfl q) (fun q => by cases q)
        · cases h1
  | lvR =>
    rw [hs] at h1
    simp only [Hs.met] at h1
    split at h1
    · cases h1; exact ni_put h hk (.inr trivial) (fun q => absurd rfl q) (fun q => by cases q)
    · split at h1
      · cases h1; exact ni_put h hk (.inl rfl) (fun q => absurd rfl q) (fun q => by cases q)
      · cases h1
  | lvE =>
    rw [hs] at h1
    simp only [Hs.met] at h1
    split at h1
    · cases h1; exact ni_put h hk (.inl rfl) (fun q => absurd rfl q) (fun q => by cases q)
    · cases h1
theorem send_len (n : NS) (d : Dd) : (n.sendFor d).1.length ≤ 1 := by
  unfold NS.sendFor NS.giveBack
  repeat' split
  all_goals simp
theorem work_len : ∀ (q : List Dd) (n : NS), (NS.work q n).1.length ≤ 1
  | [], n => by simp [NS.work]
  | d :: r, n => by
    unfold NS.work
    split
    · exact work_len r _
    · exact send_len n d
theorem met_word {s s' : Hs} {w : String} {g : WD} {a : String × WD} (h : s.met w g = some (s', some a)) : a.1 = "lowered" ∨ a.1 = "yielded" ∨ a.1 = "took" := by
  cases s <;> simp only [Hs.met] at h <;> repeat' (split at h)
  all_goals first | (cases h; done) | (cases h; simp; done) | (injection h with h; injection h with h1 h2; cases h2; simp)
end PG
namespace PG
open PySem L2 VL
inductive Role where
  | N | R | W
  deriving DecidableEq
abbrev Ls := List (String × WD)
inductive PairOk (F : WD) : Hs → Role → Ls → Ls → Ls → Option String → Prop
  | away0 : PairOk F .away .N [] [] [] none
  | rd0 : PairOk F (.rd F) .R [] [] [] none
  | wr0 (w) : PairOk F (.wr w) .W [] [] [] none
  | wantR0 (x) : PairOk F .wantR .N [] [] [("read", x)] none
  | wantW0 (x) : PairOk F (.wantW none) .N [] [] [("write", x)] none
  | wantW1 (x) : F.isSome = true → PairOk F (.wantW F) .R [] [] [("write", x)] none
  | lvW0 (w) : PairOk F (.lvW w) .W [] [] [("back", w)] none
  | lvR0 (x) : PairOk F .lvR .R [] [] [("back", x)] none
  | lvE0 (x) : PairOk F .lvE .N [] [] [("back", x)] none
  | lvW1 (w) : PairOk F (.lvW w) .N [("gone", none)] [] [] none
  | lvR1 : PairOk F .lvR .N [("gone", none)] [] [] none
  | lvE1 : PairOk F .lvE .N [("gone", none)] [] [] none
  | shr : PairOk F .wantR .R [("share", F)] [] [] (some "took")
  | own0 : PairOk F (.wantW none) .W [("own", F)] [] [] (some "took")
  | own1 : PairOk F (.wantW F) .W [("own", F)] [] [] (some "took")
  | tRd : PairOk F (.rd F) .R [] [("took", none)] [] (some "took")
  | tWr (w) : PairOk F (.wr w) .W [] [("took", none)] [] (some "took")
  | tWw (x) : F.isSome = true → PairOk F (.wantW F) .R [] [("took", none)] [("write", x)] (some "took")
  | tLw (w) : PairOk F (.lvW w) .W [] [("took", none)] [("back", w)] (some "took")
  | tLr (x) : PairOk F .lvR .R [] [("took", none)] [("back", x)] (some "took")
  | yRd : PairOk F (.rd F) .R [("yield", none)] [] [] (some "yielded")
  | yWr (w) : PairOk F (.wr w) .W [("yield", none)] [] [] (some "yielded")
  | yWw (x) : F.isSome = true → PairOk F (.wantW F) .R [("yield", none)] [] [("write", x)] (some "yielded")
  | yLw (w) : PairOk F (.lvW w) .W [("yield", none)] [] [("back", w)] (some "yielded")
  | yLr (x) : PairOk F .lvR .R [("yield", none)] [] [("back", x)] (some "yielded")
  | yA (r x) : (r = .R ∧ x = none) ∨ (r = .W) → PairOk F .away r [] [("yielded", x)] [] (some "yielded")
  | yR (r x y) : (r = .R ∧ x = none) ∨ (r = .W) → PairOk F .wantR r [] [("yielded", x)] [("read", y)] (some "yielded")
  | yW (r x y) : (r = .R ∧ x = none) ∨ (r = .W) → PairOk F (.wantW none) r [] [("yielded", x)] [("write", y)] (some "yielded")
  | yE (r x y) : (r = .R ∧ x = none) ∨ (r = .W) → PairOk F .lvE r [] [("yielded", x)] [("back", y)] (some "yielded")
  | lWr (w) : PairOk F (.wr w) .W [("lower", none)] [] [] (some "lowered")
  | lLw (w) : PairOk F (.lvW w) .W [("lower", none)] [] [("back", w)] (some "lowered")
  | dRd (w) : PairOk F (.rd w) .W [] [("lowered", w)] [] (some "lowered")
  | dWw (w x) : w.isSome = true → PairOk F (.wantW w) .W [] [("lowered", w)] [("write", x)] (some "lowered")
  | dLr (w x) : PairOk F .lvR .W [] [("lowered", w)] [("back", x)] (some "lowered")
def pv (F : WD) (s : Hs) (tn an : Ls) : WD := match tn with
  | [("own", g)] => g
  | _ => match an with
    | [(w, x)] => if w = "took" then s.words else x
    | _ => s.words
section
variable {F : WD} {s : Hs} {r : Role} {tn an rq : Ls} {du : Option String}
theorem p_len (h : PairOk F s r tn an rq du) : tn.length ≤ 1 ∧ an.length ≤ 1 ∧ rq.length ≤ 1 := by cases h <;> simp
theorem p_met {x : String × WD} {t : Ls} (h : PairOk F s r (x :: t) an rq du) : ∃ s' a, s.met x.1 x.2 = some (s', a) ∧ PairOk F s' r [] (an ++ a.toList) rq du ∧ t = [] ∧ an = [] := by
  cases h with
  | lvW1 w => exact ⟨_, _, rfl, .away0, rfl, rfl⟩
  | lvR1 => exact ⟨_, _, rfl, .away0, rfl, rfl⟩
  | lvE1 => exact ⟨_, _, rfl, .away0, rfl, rfl⟩
  | shr => exact ⟨_, _, rfl, .tRd, rfl, rfl⟩
  | own0 => exact ⟨_, _, rfl, .tWr _, rfl, rfl⟩
  | own1 => exact ⟨_, _, rfl, .tWr _, rfl, rfl⟩
  | yRd => exact ⟨_, _, rfl, .yA _ _ (.inl ⟨rfl, rfl⟩), rfl, rfl⟩
  | yWr w => exact ⟨_, _, rfl, .yA _ _ (.inr rfl), rfl, rfl⟩
  | yWw x hF => exact ⟨.wantW none, some ("yielded", none), by simp [Hs.met, hF], .yW _ _ _ (.inl ⟨rfl, rfl⟩), rfl, rfl⟩
  | yLw w => exact ⟨_, _, rfl, .yE _ _ _ (.inr rfl), rfl, rfl⟩
  | yLr x => exact ⟨_, _, rfl, .yE _ _ _ (.inl ⟨rfl, rfl⟩), rfl, rfl⟩
  | lWr w => exact ⟨_, _, rfl, .dRd _, rfl, rfl⟩
  | lLw w => exact ⟨_, _, rfl, .dLr _ _, rfl, rfl⟩
theorem p_grant {x : String × WD} {t : Ls} (h : PairOk F s r (x :: t) an rq du) (hx : x.1 = "share" ∨ x.1 = "own") : x.2 = F := by
  cases h <;> simp at hx <;> rfl
theorem p_met_pv {x : String × WD} {t : Ls} {s' : Hs} {a : Option (String × WD)} (h : PairOk F s r (x :: t) an rq du) (hm : s.met x.1 x.2 = some (s', a)) (hr : r = .W) : pv F s' [] (an ++ a.toList) = pv F s (x :: t) an := by
  subst hr
  cases h <;> simp [Hs.met] at hm <;> (try (obtain ⟨rfl, rfl⟩ := hm; rfl)) <;> (try (obtain ⟨h1, rfl, rfl⟩ := hm; rfl))
theorem p_val (h : PairOk F s r tn an rq du) (hm : s.may ≠ "none") : r ≠ .N ∧ (r = .R → s.words = F) ∧ (r = .W → s.words = pv F s tn an) := by
  cases h <;> simp [Hs.may] at hm <;> refine ⟨by simp, fun q => ?_, fun q => ?_⟩ <;> first | rfl | (cases q; done)
theorem p_writer {w : WD} (h : PairOk F (.wr w) r tn an rq du) : r = .W := by cases h <;> rfl
theorem p_write {w w' : WD} (h : PairOk F (.wr w) r tn an rq du) : PairOk F (.wr w') r tn an rq du ∧ pv F (.wr w') tn an = w' := by
  cases h with
  | wr0 => exact ⟨.wr0 _, rfl⟩
  | tWr => exact ⟨.tWr _, rfl⟩
  | yWr => exact ⟨.yWr _, rfl⟩
  | lWr => exact ⟨.lWr _, rfl⟩
theorem p_send_wr {x : WD} (h : PairOk F (.rd x) r tn an rq du) (hx : x.isSome = true) : rq = [] ∧ PairOk F (.wantW x) r tn an [("write", none)] du := by
  cases h with
  | rd0 => exact ⟨rfl, .wantW1 _ hx⟩
  | tRd => exact ⟨rfl, .tWw _ hx⟩
  | yRd => exact ⟨rfl, .yWw _ hx⟩
  | dRd => exact ⟨rfl, .dWw _ _ hx⟩
theorem p_send_a (h : PairOk F .away r tn an rq du) : rq = [] ∧ PairOk F .wantR r tn an [("read", none)] du ∧ PairOk F (.wantW none) r tn an [("write", none)] du := by
  cases h with
  | away0 => exact ⟨rfl, .wantR0 _, .wantW0 _⟩
  | yA r x q => exact ⟨rfl, .yR _ _ _ q, .yW _ _ _ q⟩
theorem p_back_w {x : WD} (h : PairOk F (.wr x) r tn an rq du) : rq = [] ∧ PairOk F (.lvW x) r tn an [("back", x)] du := by
  cases h with
  | wr0 => exact ⟨rfl, .lvW0 _⟩
  | tWr => exact ⟨rfl, .tLw _⟩
  | yWr => exact ⟨rfl, .yLw _⟩
  | lWr => exact ⟨rfl, .lLw _⟩
theorem p_back_r {x : WD} (h : PairOk F (.rd x) r tn an rq du) : rq = [] ∧ PairOk F .lvR r tn an [("back", none)] du := by
  cases h with
  | rd0 => exact ⟨rfl, .lvR0 _⟩
  | tRd => exact ⟨rfl, .tLr _⟩
  | yRd => exact ⟨rfl, .yLr _⟩
  | dRd => exact ⟨rfl, .dLr _ _⟩
theorem p_ans {x : String × WD} {t : Ls} (h : PairOk F s r tn (x :: t) rq du) : du = some x.1 ∧ t = [] ∧ tn = [] := by cases h <;> exact ⟨rfl, rfl, rfl⟩
theorem p_took {x : WD} (h : PairOk F s r tn [("took", x)] rq du) : PairOk F s r tn [] rq none := by
  generalize ha : [("took", x)] = an at h
  cases h <;> simp at ha <;> first | exact .rd0 | exact .wr0 _ | exact .wantW1 _ ‹_› | exact .lvW0 _ | exact .lvR0 _
theorem p_lowered {x : WD} (h : PairOk F s r tn [("lowered", x)] rq du) : PairOk x s .R tn [] rq none ∧ r = .W ∧ pv F s tn [("lowered", x)] = x := by
  generalize ha : [("lowered", x)] = an at h
  cases h <;> simp at ha <;> subst ha <;> first | exact ⟨.rd0, rfl, rfl⟩ | exact ⟨.wantW1 _ ‹_›, rfl, rfl⟩ | exact ⟨.lvR0 _, rfl, rfl⟩
theorem p_yielded {x : WD} (G : WD) (h : PairOk F s r tn [("yielded", x)] rq du) : PairOk G s .N tn [] rq none ∧ (r = .R ∨ (r = .W ∧ pv F s tn [("yielded", x)] = x)) := by
  generalize ha : [("yielded", x)] = an at h
  cases h <;> simp at ha <;> subst ha <;> refine ⟨by first | exact .away0 | exact .wantR0 _ | exact .wantW0 _ | exact .lvE0 _, ?_⟩ <;> rename_i q <;> exact q.imp (·.1) fun q => ⟨q, rfl⟩
theorem p_far (G : WD) (h : PairOk F s .N tn an rq du) : PairOk G s .N tn an rq du := by
  cases h with
  | away0 => exact .away0
  | wantR0 => exact .wantR0 _
  | wantW0 => exact .wantW0 _
  | lvE0 => exact .lvE0 _
  | lvW1 => exact .lvW1 _
  | lvR1 => exact .lvR1
  | lvE1 => exact .lvE1
  | yA _ _ q => simp at q
  | yR _ _ _ q => simp at q
  | yW _ _ _ q => simp at q
  | yE _ _ _ q => simp at q
theorem p_back {x : WD} (G : WD) (h : PairOk F s r tn an [("back", x)] none) : PairOk G s .N (tn ++ [("gone", none)]) an [] none ∧ (r = .W → pv F s tn an = x ∧ x = s.words) := by
  generalize ha : [("back", x)] = rq at h
  cases h <;> simp at ha <;> subst ha <;> first | exact ⟨.lvW1 _, fun _ => ⟨rfl, rfl⟩⟩ | exact ⟨.lvR1, fun q => by cases q⟩ | exact ⟨.lvE1, fun q => by cases q⟩
theorem p_read {x : WD} (h : PairOk F s r tn an [("read", x)] none) : r = .N ∧ PairOk F s .R (tn ++ [("share", F)]) an [] (some "took") := by
  generalize ha : [("read", x)] = rq at h
  cases h <;> simp at ha <;> exact ⟨rfl, .shr⟩
theorem p_write' {x : WD} (h : PairOk F s r tn an [("write", x)] none) : r ≠ .W ∧ PairOk F s .W (tn ++ [("own", F)]) an [] (some "took") ∧ pv F s (tn ++ [("own", F)]) an = F := by
  generalize ha : [("write", x)] = rq at h
  cases h <;> simp at ha <;> first | exact ⟨by simp, .own0, rfl⟩ | exact ⟨by simp, .own1, rfl⟩
theorem p_lower (h : PairOk F s .W tn an rq none) : PairOk F s .W (tn ++ [("lower", none)]) an rq (some "lowered") ∧ pv F s (tn ++ [("lower", none)]) an = pv F s tn an := by
  cases h with
  | wr0 => exact ⟨.lWr _, rfl⟩
  | lvW0 => exact ⟨.lLw _, rfl⟩
theorem p_yield (h : PairOk F s r tn an rq none) (hr : r ≠ .N) : PairOk F s r (tn ++ [("yield", none)]) an rq (some "yielded") ∧ pv F s (tn ++ [("yield", none)]) an = pv F s tn an := by
  cases h with
  | rd0 => exact ⟨.yRd, rfl⟩
  | wr0 => exact ⟨.yWr _, rfl⟩
  | wantW1 _ hF => exact ⟨.yWw _ hF, rfl⟩
  | lvW0 => exact ⟨.yLw _, rfl⟩
  | lvR0 => exact ⟨.yLr _, rfl⟩
  | _ => exact absurd rfl hr
end
end PG
namespace PG
open PySem L2 VL
def isRq (w : String) : Bool := decide (w ∈ ["read", "write", "back"])
def isAn (w : String) : Bool := decide (w ∈ ["lowered", "yielded", "took"])
def isNr (w : String) : Bool := decide (w ∈ ["lower", "yield", "share", "own", "gone"])
def sel (p : String → Bool) (R : List Lt) (l k : Int) : Ls := (R.filter fun x => decide (x.2.1 = l) && decide (x.2.2.1 = k) && p x.1).map fun x => (x.1, x.2.2.2)
theorem sel_app (p : String → Bool) (R R' : List Lt) (l k : Int) : sel p (R ++ R') l k = sel p R l k ++ sel p R' l k := by simp [sel]
theorem sel_nil (p : String → Bool) (l k : Int) : sel p [] l k = [] := rfl
theorem sel_cons (p : String → Bool) (x : Lt) (R : List Lt) (l k : Int) : sel p (x :: R) l k = (if x.2.1 = l ∧ x.2.2.1 = k ∧ p x.1 = true then [(x.1, x.2.2.2)] else []) ++ sel p R l k := by
  unfold sel
  rw [List.filter_cons]
  by_cases h : x.2.1 = l ∧ x.2.2.1 = k ∧ p x.1 = true
  · rw [if_pos h, if_pos (by simp [h.1, h.2.1, h.2.2])]; rfl
  · rw [if_neg h, if_neg (by simpa [and_assoc] using h)]; rfl
theorem sel_one (p : String → Bool) (w : String) (l a : Int) (x : WD) (k : Int) : sel p [(w, l, a, x)] l k = if a = k ∧ p w = true then [(w, x)] else [] := by
  rw [sel_cons, sel_nil, List.append_nil]
  simp
theorem sel_yields (p : String → Bool) (l k : Int) : ∀ {os : List Int}, os.Nodup → sel p (os.map fun o => (("yield", l, o, none) : Lt)) l k = if p "yield" = true ∧ k ∈ os then [("yield", none)] else []
  | [], _ => by simp [sel]
  | o :: os, nd => by
    have nd' := List.nodup_cons.mp nd
    rw [List.map_cons, sel_cons, sel_yields p l k nd'.2]
    by_cases hp : p "yield" = true
    · by_cases ho : o = k
      · subst ho
        simp [hp, nd'.1]
      · have : ¬ k = o := fun e => ho e.symm
        simp [hp, ho, this]
    · simp [hp]
namespace HM
def role (h : HM) (k : Nat) : Role := if h.ow = some k then .W else if h.sh[k]? = some true then .R else .N
def dueOf (h : HM) (k : Int) : Option String := (h.due.find? fun x => decide (x.2 = k)).map (·.1)
def rqs (h : HM) (k : Int) : Ls := (h.q.filter fun l => decide (l.2.2.1 = k)).map (fun l => (l.1, l.2.2.2)) ++ (match h.task with | some t => if t.2.2.1 = k ∧ ("took", k) ∉ h.due then [(t.1, t.2.2.2)] else [] | none => [])
end HM
def cur (h : HM) (S : Nat → Hs) (R : List Lt) : WD := match h.ow with
  | none => h.far
  | some o => pv h.far (S o) (sel isNr R h.line o) (sel isAn R h.line o)
structure LineInv (w : Int) (h : HM) (S : Nat → Hs) (R : List Lt) : Prop where
  wf : h.WF
  qr : ∀ l ∈ h.q, l.1 ∈ ["read", "write", "back"] ∧ inR h.n l
  tr : ∀ t, h.task = some t → (t.1 = "read" ∨ t.1 = "write") ∧ inR h.n t
  far : ∃ ws, h.far = some ws ∧ (ws.length : Int) = w
  cok : ∃ ws, cur h S R = some ws ∧ (ws.length : Int) = w
  excl : ∀ o, h.ow = some o → ∀ k : Nat, h.sh[k]? ≠ some true
  du : match h.task with
    | none => h.due = []
    | some t => h.due = [("took", t.2.2.1)] ∨ (t.1 = "read" ∧ ∃ o : Nat, h.ow = some o ∧ (o : Int) ≠ t.2.2.1 ∧ h.due = [("lowered", (o : Int))]) ∨
      (t.1 = "write" ∧ h.due ≠ [] ∧ h.due.Nodup ∧ (∀ x ∈ h.due, x.1 = "yielded" ∧ ∃ i : Nat, x.2 = i ∧ i < h.n) ∧ ∀ k : Nat, k < h.n → (("yielded", (k : Int)) ∈ h.due ↔ (k : Int) ≠ t.2.2.1 ∧ h.role k ≠ .N))
  pairs : ∀ k : Nat, k < h.n → PairOk h.far (S k) (h.role k) (sel isNr R h.line k) (sel isAn R h.line k) (sel isRq R h.line k ++ h.rqs k) (h.dueOf k)
section
variable {w : Int} {h : HM} {S : Nat → Hs} {R : List Lt}
theorem held_mem (wf : h.WF) {k : Nat} (hk : k < h.n) : h.held[k]? = some true ↔ h.role k ≠ .N := by
  unfold HM.held HM.role
  cases ho : h.ow with
  | none => by_cases hs : h.sh[k]? = some true <;> simp [hs]
  | some o =>
    by_cases e : o = k
    · subst e
      simp [List.getElem?_set, wf.len, hk]
    · have : ¬ some o = some k := by simpa using e
      rw [if_neg this, List.getElem?_set_ne e]
      by_cases hs : h.sh[k]? = some true <;> simp [hs]
theorem others_mem (wf : h.WF) {j k : Nat} (hk : k < h.n) : (k : Int) ∈ h.others j ↔ k ≠ j ∧ h.role k ≠ .N := by
  unfold HM.others
  rw [mem_tru]
  by_cases e : j = k
  · subst e
    have : j < h.held.length := by rw [held_len, wf.len]; exact hk
    simp [List.getElem?_set, this]
  · rw [List.getElem?_set_ne e, held_mem wf hk]
    exact ⟨fun q => ⟨fun x => e x.symm, q⟩, fun q => q.2⟩
theorem others_lt (wf : h.WF) {j : Nat} {x : Int} (hx : x ∈ h.others j) : ∃ i : Nat, x = i ∧ i < h.n := by
  unfold HM.others at hx
  obtain ⟨i, h1, h2⟩ := tru_nat hx
  refine ⟨i, h1, ?_⟩
  have := (List.getElem?_eq_some_iff.mp h2).1
  rw [List.length_set, held_len, wf.len] at this
  exact this
theorem others_nodup (j : Nat) : (h.others j).Nodup := (tru_up _).imp fun a => by omega
theorem find_one (a : String) (j k : Int) : (([(a, j)] : List (String × Int)).find? fun x => decide (x.2 = k)).map (·.1) = if j = k then some a else none := by
  by_cases e : j = k <;> simp [e]
theorem find_yields (k : Int) : ∀ os : List Int, ((os.map fun o => (("yielded", o) : String × Int)).find? fun x => decide (x.2 = k)).map (·.1) = if k ∈ os then some "yielded" else none
  | [] => rfl
  | o :: os => by
    rw [List.map_cons, List.find?_cons]
    by_cases e : o = k
    · simp [e]
    · have : ¬ k = o := fun x => e x.symm
      have ih := find_yields k os
      simp only [e, decide_false, List.mem_cons, this, false_or]
      exact ih
theorem app_one {a b : Ls} {x : String × WD} (h : (a ++ ([x] ++ b)).length ≤ 1) : a = [] ∧ b = [] := by
  simp only [List.length_append, List.length_singleton] at h
  exact ⟨List.length_eq_zero_iff.mp (by omega), List.length_eq_zero_iff.mp (by omega)⟩
theorem role_w {k : Nat} (hr : h.role k = .W) : h.ow = some k := by
  unfold HM.role at hr
  split at hr
  · assumption
  · split at hr <;> cases hr
theorem role_n (h1 : h.ow ≠ some k) (h2 : h.sh[k]? ≠ some true) : h.role k = .N := by unfold HM.role; rw [if_neg h1, if_neg h2]
def rowOf (r : List Lt) (k : Int) : Ls := (r.filter fun l => decide (l.2.2.1 = k)).map fun l => (l.1, l.2.2.2)
theorem rqs_none {m : HM} (h : m.task = none) (k : Int) : m.rqs k = rowOf m.q k := by unfold HM.rqs rowOf; rw [h, List.append_nil]
theorem rqs_some {m : HM} {t : Lt} (h : m.task = some t) (k : Int) : m.rqs k = rowOf m.q k ++ (if t.2.2.1 = k ∧ ("took", k) ∉ m.due then [(t.1, t.2.2.2)] else []) := by unfold HM.rqs rowOf; rw [h]
theorem rowOf_cons (l : Lt) (r : List Lt) (k : Int) : rowOf (l :: r) k = (if l.2.2.1 = k then [(l.1, l.2.2.2)] else []) ++ rowOf r k := by
  unfold rowOf
  rw [List.filter_cons]
  by_cases e : l.2.2.1 = k
  · rw [if_pos (by simp [e]), if_pos e]; rfl
  · rw [if_neg (by simp [e]), if_neg e]; rfl
structure Free (w : Int) (h : HM) (S : Nat → Hs) (R : List Lt) (r : List Lt) : Prop where
  wf : h.WF
  qr : ∀ l ∈ r, l.1 ∈ ["read", "write", "back"] ∧ inR h.n l
  far : ∃ ws, h.far = some ws ∧ (ws.length : Int) = w
  cok : ∃ ws, cur h S R = some ws ∧ (ws.length : Int) = w
  excl : ∀ o, h.ow = some o → ∀ k : Nat, h.sh[k]? ≠ some true
  pairs : ∀ k : Nat, k < h.n → PairOk h.far (S k) (h.role k) (sel isNr R h.line k) (sel isAn R h.line k) (sel isRq R h.line k ++ rowOf r k) none
theorem Free.inv {r : List Lt} (f : Free w h S R r) (ht : h.task = none) (hd : h.due = []) (hq : h.q = r) : LineInv w h S R := by
  refine ⟨f.wf, by rw [hq]; exact f.qr, (fun t e => by rw [ht] at e; cases e), f.far, f.cok, f.excl, by rw [ht]; exact hd, fun k hk => ?_⟩
  have := f.pairs k hk
  rw [rqs_none ht, hq]
  unfold HM.dueOf
  rw [hd]
  exact this
theorem LineInv.free (I : LineInv w h S R) (ht : h.task = none) : h.due = [] ∧ Free w h S R h.q := by
  have hd : h.due = [] := by have := I.du; rw [ht] at this; exact this
  refine ⟨hd, I.wf, I.qr, I.far, I.cok, I.excl, fun k hk => ?_⟩
  have := I.pairs k hk
  rw [rqs_none ht] at this
  unfold HM.dueOf at this
  rw [hd] at this
  exact this
theorem role_congr {m : HM} {k : Nat} (h1 : m.ow = h.ow) (h2 : m.sh[k]? = h.sh[k]?) : m.role k = h.role k := by unfold HM.role; rw [h1, h2]
theorem excl_n' (hx : ∀ o, h.ow = some o → ∀ k : Nat, h.sh[k]? ≠ some true) {o k : Nat} (ho : h.ow = some o) (hk : k ≠ o) : h.role k = .N := role_n (by rw [ho]; intro e; cases e; exact hk rfl) (hx o ho k)
theorem line_grant {m : HM} {l : Lt} {r : List Lt} {j : Nat} (wf : h.WF) (far : ∃ ws, h.far = some ws ∧ (ws.length : Int) = w) (cok : ∃ ws, cur h S R = some ws ∧ (ws.length : Int) = w) (excl : ∀ o, h.ow = some o → ∀ k : Nat, h.sh[k]? ≠ some true) (qr : ∀ l ∈ r, l.1 ∈ ["read", "write", "back"] ∧ inR h.n l)
    (hj : l.2.2.1 = (j : Int)) (hjn : j < h.n) (hw : l.1 = "read" ∨ l.1 = "write") (hrd : l.1 = "read" → h.ow = none) (hwr : l.1 = "write" → ∀ k : Nat, k < h.n → k ≠ j → h.role k = .N)
    (Pj : PairOk h.far (S j) (h.role j) (sel isNr R h.line j) (sel isAn R h.line j) [(l.1, l.2.2.2)] none) (q1 : sel isRq R h.line j = []) (q2 : rowOf r j = [])
    (Po : ∀ k : Nat, k < h.n → k ≠ j → PairOk h.far (S k) (h.role k) (sel isNr R h.line k) (sel isAn R h.line k) (sel isRq R h.line k ++ rowOf r k) none)
    (em : m = { (h.grant l).2 with q := r, task := some l }) : LineInv w m S (R ++ [(h.grant l).1]) ∧ cur m S (R ++ [(h.grant l).1]) = cur h S R := by
  have hj2 : l.2.2.1.toNat = j := by omega
  rcases hw with hw | hw
  · have ho := hrd hw
    have hPj := Pj
    rw [hw] at hPj
    obtain ⟨rN, pr⟩ := p_read hPj
    have eg : h.grant l = (("share", h.line, (j : Int), h.far), { h with sh := h.sh.set j true, due := [("took", (j : Int))] }) := by
      unfold HM.grant
      rw [if_neg (by rw [hw]; decide), hj2, hj]
    rw [eg] at em ⊢
    dsimp only at em ⊢
    obtain ⟨m1, m2, m3, m4, m5, m6, m7, m8⟩ : m.line = h.line ∧ m.n = h.n ∧ m.far = h.far ∧ m.ow = none ∧ m.sh = h.sh.set j true ∧ m.q = r ∧ m.task = some l ∧ m.due = [("took", (j : Int))] := by subst em; exact ⟨rfl, rfl, rfl, ho, rfl, rfl, rfl, rfl⟩
    have hc : cur m S (R ++ [("share", h.line, (j : Int), h.far)]) = cur h S R := by
      unfold cur
      rw [m4, ho, m3]
    refine ⟨⟨⟨by rw [m5, m2]; simp [wf.len], by rw [m2]; exact wf.le, fun o e => by rw [m4] at e; cases e⟩, by rw [m6, m2]; exact qr, fun t e => ?_, by rw [m3]; exact far, by rw [hc]; exact cok, (fun o e => by rw [m4] at e; cases e), ?_, ?_⟩, hc⟩
    · rw [m7] at e; cases e
      exact ⟨.inl hw, by unfold inR; rw [hj, m2]; omega⟩
    · rw [m7, m8]; exact .inl (by rw [hj])
    · intro k hk
      rw [m2] at hk
      rw [m1, m3, sel_app, sel_app, sel_app, sel_one, sel_one, sel_one, rqs_some m7, m6, m8, hj]
      have dE : m.dueOf k = if (j : Int) = k then some "took" else none := by unfold HM.dueOf; rw [m8, find_one]
      rw [dE]
      by_cases e : k = j
      · subst e
        have rE : m.role k = .R := by
          unfold HM.role
          rw [m4, m5]
          simp [List.getElem?_set, wf.len, hjn]
        rw [rE, q1, q2]
        simpa [isNr, isAn, isRq] using pr
      · have rE : m.role k = h.role k := role_congr (m4.trans ho.symm) (by rw [m5, List.getElem?_set_ne (fun x => e x.symm)])
        have e' : ¬ (j : Int) = k := by omega
        rw [rE]
        simp only [e', false_and, if_false, List.append_nil]
        exact Po k hk e
  · have hPj := Pj
    rw [hw] at hPj
    obtain ⟨rN, pr, pvE⟩ := p_write' hPj
    have hoth := hwr hw
    have ho : h.ow = none := by
      cases hh : h.ow with
      | none => rfl
      | some o =>
        have ron : h.role o = .W := by unfold HM.role; rw [hh, if_pos rfl]
        by_cases e : o = j
        · subst e; exact absurd ron rN
        · have := hoth o (wf.ow o hh) e
          rw [ron] at this; cases this
    have eg : h.grant l = (("own", h.line, (j : Int), h.far), { h with ow := some j, sh := List.replicate h.n false, due := [("took", (j : Int))] }) := by
      unfold HM.grant
      rw [if_pos hw, hj2, hj]
    rw [eg] at em ⊢
    dsimp only at em ⊢
    obtain ⟨m1, m2, m3, m4, m5, m6, m7, m8⟩ : m.line = h.line ∧ m.n = h.n ∧ m.far = h.far ∧ m.ow = some j ∧ m.sh = List.replicate h.n false ∧ m.q = r ∧ m.task = some l ∧ m.due = [("took", (j : Int))] := by subst em; exact ⟨rfl, rfl, rfl, rfl, rfl, rfl, rfl, rfl⟩
    have hrep : ∀ k : Nat, (List.replicate h.n false)[k]? ≠ some true := fun k e => by
      rw [List.getElem?_replicate] at e
      split at e <;> cases e
    have hc : cur m S (R ++ [("own", h.line, (j : Int), h.far)]) = cur h S R := by
      unfold cur
      rw [m4, ho]
      dsimp only
      rw [m1, m3, sel_app, sel_app, sel_one, sel_one]
      simpa [isNr, isAn] using pvE
    refine ⟨⟨⟨by rw [m5, m2]; simp, by rw [m2]; exact wf.le, fun o e => by rw [m4] at e; cases e; rw [m2]; exact hjn⟩, by rw [m6, m2]; exact qr, fun t e => ?_, by rw [m3]; exact far, by rw [hc]; exact cok, fun o e k => by rw [m5]; exact hrep k, ?_, ?_⟩, hc⟩
    · rw [m7] at e; cases e
      exact ⟨.inr hw, by unfold inR; rw [hj, m2]; omega⟩
    · rw [m7, m8]; exact .inl (by rw [hj])
    · intro k hk
      rw [m2] at hk
      rw [m1, m3, sel_app, sel_app, sel_app, sel_one, sel_one, sel_one, rqs_some m7, m6, m8, hj]
      have dE : m.dueOf k = if (j : Int) = k then some "took" else none := by unfold HM.dueOf; rw [m8, find_one]
      rw [dE]
      by_cases e : k = j
      · subst e
        have rE : m.role k = .W := by unfold HM.role; rw [m4, if_pos rfl]
        rw [rE, q1, q2]
        simpa [isNr, isAn, isRq] using pr
      · have rE : m.role k = .N := role_n (by rw [m4]; intro x; cases x; exact e rfl) (by rw [m5]; exact hrep k)
        have rO := hoth k hk e
        have e' : ¬ (j : Int) = k := by omega
        have := Po k hk e
        rw [rO] at this
        rw [rE]
        simp only [e', false_and, if_false, List.append_nil]
        exact this
theorem line_start {l : Lt} {r : List Lt} {m : HM} (I : Free w h S R (l :: r)) (ht : h.task = none) (hd : h.due = []) (em : m = { (h.start l).2 with q := r }) : LineInv w m S (R ++ (h.start l).1) ∧ cur m S (R ++ (h.start l).1) = cur h S R := by
  have wf := I.wf
  obtain ⟨hl1, hl2⟩ := I.qr l List.mem_cons_self
  have hr2 : ∀ x ∈ r, x.1 ∈ ["read", "write", "back"] ∧ inR h.n x := fun x hx => I.qr x (List.mem_cons_of_mem _ hx)
  obtain ⟨j, hj⟩ := Int.eq_ofNat_of_zero_le hl2.1
  have hj : l.2.2.1 = (j : Int) := hj
  have hjn : j < h.n := by have := hl2.2; omega
  have hj2 : l.2.2.1.toNat = j := by omega
  have P : ∀ k : Nat, k < h.n → PairOk h.far (S k) (h.role k) (sel isNr R h.line k) (sel isAn R h.line k) (sel isRq R h.line k ++ ((if (j : Int) = k then [(l.1, l.2.2.2)] else []) ++ rowOf r k)) none := fun k hk => by
    have := I.pairs k hk
    rw [rowOf_cons, hj] at this
    exact this
  have Pj := P j hjn
  rw [if_pos rfl] at Pj
  obtain ⟨q1, q2⟩ := app_one (p_len Pj).2.2
  rw [q1, q2] at Pj
  simp only [List.nil_append, List.append_nil] at Pj
  have Po : ∀ k : Nat, k < h.n → k ≠ j → PairOk h.far (S k) (h.role k) (sel isNr R h.line k) (sel isAn R h.line k) (sel isRq R h.line k ++ rowOf r k) none := fun k hk e => by
    have := P k hk
    rw [if_neg (by omega)] at this
    exact this
  by_cases cb : l.1 = "back"
  · -- back
    have hPj := Pj
    rw [cb] at hPj
    have eg : h.start l = ([("gone", h.line, (j : Int), none)], ({ h with far := if h.ow = some j then l.2.2.2 else h.far } : HM).strike j) := by
      unfold HM.start
      rw [if_pos cb, hj2, hj]
    rw [eg] at em ⊢
    dsimp only at em ⊢
    obtain ⟨m1, m2, m3, m4, m5, m6, m7, m8⟩ : m.line = h.line ∧ m.n = h.n ∧ m.far = (if h.ow = some j then l.2.2.2 else h.far) ∧ m.ow = (if h.ow = some j then none else h.ow) ∧ m.sh = h.sh.set j false ∧ m.q = r ∧ m.task = none ∧ m.due = [] := by subst em; exact ⟨rfl, rfl, rfl, rfl, rfl, rfl, ht, hd⟩
    have hsh : ∀ k : Nat, m.sh[k]? = some true → h.sh[k]? = some true ∧ k ≠ j := fun k e => by
      rw [m5] at e
      by_cases x : j = k
      · subst x
        rw [List.getElem?_set_self (by rw [wf.len]; exact hjn)] at e; cases e
      · rw [List.getElem?_set_ne x] at e
        exact ⟨e, fun y => x y.symm⟩
    have rN : m.role j = .N := by
      refine role_n ?_ (fun e => (hsh j e).2 rfl)
      rw [m4]; split
      · simp
      · assumption
    have hc : cur m S (R ++ [("gone", h.line, (j : Int), none)]) = cur h S R := by
      unfold cur
      rw [m4, m3, m1]
      by_cases c : h.ow = some j
      · have rW : h.role j = .W := by unfold HM.role; rw [if_pos c]
        have := ((p_back h.far hPj).2 rW).1
        rw [if_pos c, if_pos c, c]
        exact this.symm
      · rw [if_neg c, if_neg c]
        cases ho : h.ow with
        | none => rfl
        | some o =>
          have hne : ¬ (j : Int) = o := fun x => c (by rw [ho]; congr 1; omega)
          dsimp only
          rw [sel_app, sel_app, sel_one, sel_one]
          simp only [hne, false_and, if_false, List.append_nil]
    have farOk : ∃ ws, m.far = some ws ∧ (ws.length : Int) = w := by
      by_cases c : h.ow = some j
      · have : m.far = cur h S R := by
          rw [← hc]; unfold cur; rw [m4, if_pos c]
        rw [this]; exact I.cok
      · rw [m3, if_neg c]; exact I.far
    refine ⟨Free.inv ⟨⟨by rw [m5, m2]; simp [wf.len], by rw [m2]; exact wf.le, fun o e => ?_⟩, by rw [m2]; exact hr2, farOk, by rw [hc]; exact I.cok, fun o e k hk => ?_, fun k hk => ?_⟩ m7 m8 m6, hc⟩
    · rw [m4] at e; split at e
      · cases e
      · rw [m2]; exact wf.ow o e
    · rw [m4] at e; split at e
      · cases e
      · exact I.excl o e k (hsh k hk).1
    · rw [m2] at hk
      rw [m1, sel_app, sel_app, sel_app, sel_one, sel_one, sel_one]
      by_cases e : k = j
      · subst e
        rw [rN, q1, q2]
        have := (p_back m.far hPj).1
        simpa [isNr, isAn, isRq] using this
      · have e' : ¬ (j : Int) = k := by omega
        simp only [e', false_and, if_false, List.append_nil]
        by_cases c : h.ow = some j
        · have r1 : h.role k = .N := excl_n' I.excl c e
          have r2 : m.role k = .N := role_n (by rw [m4, if_pos c]; simp) (fun x => I.excl j c k (hsh k x).1)
          have := Po k hk e
          rw [r1] at this
          rw [r2]
          exact p_far _ this
        · rw [m3, if_neg c, role_congr (h := h) (by rw [m4, if_neg c]) (by rw [m5, List.getElem?_set_ne (fun x => e x.symm)])]
          exact Po k hk e
  · have hw : l.1 = "read" ∨ l.1 = "write" := by
      simp only [List.mem_cons, List.not_mem_nil, or_false] at hl1
      rcases hl1 with e | e | e
      · exact .inl e
      · exact .inr e
      · exact absurd e cb
    have grantOk : h.start l = ([(({ h with task := some l } : HM).grant l).1], (({ h with task := some l } : HM).grant l).2) → (l.1 = "read" → h.ow = none) → (l.1 = "write" → ∀ k : Nat, k < h.n → k ≠ j → h.role k = .N) → LineInv w m S (R ++ (h.start l).1) ∧ cur m S (R ++ (h.start l).1) = cur h S R := by
      intro eg hrd hwr
      rw [eg] at em ⊢
      have g1 : (({ h with task := some l } : HM).grant l).1 = (h.grant l).1 := by unfold HM.grant; split <;> rfl
      have g2 : ({ (({ h with task := some l } : HM).grant l).2 with q := r } : HM) = { (h.grant l).2 with q := r, task := some l } := by unfold HM.grant; split <;> rfl
      dsimp only at em ⊢
      rw [g2] at em
      rw [g1]
      exact line_grant wf I.far I.cok I.excl hr2 hj hjn hw hrd hwr Pj q1 q2 Po em
    by_cases cw : l.1 = "write"
    · by_cases co : h.others j = []
      · refine grantOk ?_ (fun e => by rw [cw] at e; simp at e) (fun _ k hk hkj => ?_)
        · unfold HM.start
          rw [if_neg cb]
          dsimp only
          rw [if_pos cw, hj2, if_pos co]
        · cases hr : h.role k with
          | N => rfl
          | _ =>
            have := (others_mem wf (j := j) hk).mpr ⟨hkj, by rw [hr]; simp⟩
            rw [co] at this; cases this
      · -- yields
        have eg : h.start l = ((h.others j).map fun o => ("yield", h.line, o, none), { h with task := some l, due := (h.others j).map fun o => ("yielded", o) }) := by
          unfold HM.start
          rw [if_neg cb]
          dsimp only
          rw [if_pos cw, hj2, if_neg co]
        rw [eg] at em ⊢
        dsimp only at em ⊢
        obtain ⟨m1, m2, m3, m4, m5, m6, m7, m8⟩ : m.line = h.line ∧ m.n = h.n ∧ m.far = h.far ∧ m.ow = h.ow ∧ m.sh = h.sh ∧ m.q = r ∧ m.task = some l ∧ m.due = (h.others j).map fun o => ("yielded", o) := by subst em; exact ⟨rfl, rfl, rfl, rfl, rfl, rfl, rfl, rfl⟩
        have hmr : ∀ k : Nat, m.role k = h.role k := fun k => role_congr m4 (by rw [m5])
        have hnt : ∀ k : Int, ("took", k) ∉ m.due := fun k x => by
          rw [m8] at x
          obtain ⟨y, _, y2⟩ := List.mem_map.mp x
          simp at y2
        have hc : cur m S (R ++ (h.others j).map fun o => (("yield", h.line, o, none) : Lt)) = cur h S R := by
          unfold cur
          rw [m4, m3, m1]
          cases ho : h.ow with
          | none => rfl
          | some o =>
            dsimp only
            have hon := wf.ow o ho
            have rW : h.role o = .W := by unfold HM.role; rw [if_pos ho]
            have oj : o ≠ j := fun e => by
              have hPj := Pj
              rw [cw] at hPj
              subst e
              exact (p_write' hPj).1 rW
            have x := (others_mem wf (j := j) hon).mpr ⟨oj, by rw [rW]; simp⟩
            rw [sel_app, sel_app, sel_yields _ _ _ (others_nodup j), sel_yields _ _ _ (others_nodup j)]
            have := (p_yield (Po o hon oj) (by rw [rW]; simp)).2
            simpa [x, isNr, isAn] using this
        refine ⟨⟨⟨by rw [m5, m2]; exact wf.len, by rw [m2]; exact wf.le, fun o e => by rw [m4] at e; rw [m2]; exact wf.ow o e⟩, by rw [m6, m2]; exact hr2, fun t e => ?_, by rw [m3]; exact I.far, by rw [hc]; exact I.cok, fun o e k => by rw [m4] at e; rw [m5]; exact I.excl o e k, ?_, fun k hk => ?_⟩, hc⟩
        · rw [m7] at e; cases e
          exact ⟨.inr cw, by unfold inR; rw [hj, m2]; omega⟩
        · rw [m7]
          right; right
          refine ⟨cw, by rw [m8]; simpa using co, by rw [m8]; exact List.pairwise_map.mpr ((others_nodup j).imp fun hne e => hne (by simpa using e)), fun x hx => ?_, fun k hk => ?_⟩
          · rw [m8] at hx
            obtain ⟨y, y1, rfl⟩ := List.mem_map.mp hx
            obtain ⟨i, i1, i2⟩ := others_lt wf y1
            exact ⟨rfl, i, i1, by rw [m2]; exact i2⟩
          · rw [m2] at hk
            rw [m8, hmr, hj]
            have := others_mem wf (j := j) hk
            constructor
            · intro x
              obtain ⟨y, y1, y2⟩ := List.mem_map.mp x
              simp only [Prod.mk.injEq, true_and] at y2
              subst y2
              have := this.mp y1
              exact ⟨by omega, this.2⟩
            · rintro ⟨x1, x2⟩
              exact List.mem_map.mpr ⟨k, this.mpr ⟨by omega, x2⟩, rfl⟩
        · rw [m2] at hk
          rw [m1, m3, hmr, sel_app, sel_app, sel_app, sel_yields _ _ _ (others_nodup j), sel_yields _ _ _ (others_nodup j), sel_yields _ _ _ (others_nodup j), rqs_some m7, m6, hj]
          have dE : m.dueOf k = if (k : Int) ∈ h.others j then some "yielded" else none := by unfold HM.dueOf; rw [m8, find_yields]
          rw [dE]
          have om := others_mem wf (j := j) hk
          by_cases e : k = j
          · subst e
            have : (k : Int) ∉ h.others k := fun x => (om.mp x).1 rfl
            rw [q1, q2]
            simpa [this, hnt, isNr, isAn, isRq] using Pj
          · have e' : ¬ (j : Int) = k := by omega
            have := Po k hk e
            by_cases x : (k : Int) ∈ h.others j
            · have py := (p_yield this (om.mp x).2).1
              simpa [x, e', isNr, isAn, isRq] using py
            · simpa [x, e', isNr, isAn, isRq] using this
    · have cr : l.1 = "read" := hw.resolve_right cw
      cases ho : h.ow with
      | none =>
        refine grantOk ?_ (fun _ => ho) (fun e => absurd e cw)
        unfold HM.start
        rw [if_neg cb]
        dsimp only
        rw [if_neg cw, ho]
      | some o =>
        have eg : h.start l = ([("lower", h.line, (o : Int), none)], { h with task := some l, due := [("lowered", (o : Int))] }) := by
          unfold HM.start
          rw [if_neg cb]
          dsimp only
          rw [if_neg cw, ho]
        rw [eg] at em ⊢
        dsimp only at em ⊢
        obtain ⟨m1, m2, m3, m4, m5, m6, m7, m8⟩ : m.line = h.line ∧ m.n = h.n ∧ m.far = h.far ∧ m.ow = h.ow ∧ m.sh = h.sh ∧ m.q = r ∧ m.task = some l ∧ m.due = [("lowered", (o : Int))] := by subst em; exact ⟨rfl, rfl, rfl, rfl, rfl, rfl, rfl, rfl⟩
        have hmr : ∀ k : Nat, m.role k = h.role k := fun k => role_congr m4 (by rw [m5])
        have hon := wf.ow o ho
        have rW : h.role o = .W := by unfold HM.role; rw [if_pos ho]
        have hPj := Pj
        rw [cr] at hPj
        have oj : o ≠ j := fun e => by
          subst e
          rw [(p_read hPj).1] at rW; cases rW
        have PoW := Po o hon oj
        rw [rW] at PoW
        have hc : cur m S (R ++ [("lower", h.line, (o : Int), none)]) = cur h S R := by
          unfold cur
          rw [m4, m3, m1, ho]
          dsimp only
          rw [sel_app, sel_app, sel_one, sel_one]
          simpa [isNr, isAn] using (p_lower PoW).2
        refine ⟨⟨⟨by rw [m5, m2]; exact wf.len, by rw [m2]; exact wf.le, fun o e => by rw [m4] at e; rw [m2]; exact wf.ow o e⟩, by rw [m6, m2]; exact hr2, fun t e => ?_, by rw [m3]; exact I.far, by rw [hc]; exact I.cok, fun o e k => by rw [m4] at e; rw [m5]; exact I.excl o e k, ?_, fun k hk => ?_⟩, hc⟩
        · rw [m7] at e; cases e
          exact ⟨.inl cr, by unfold inR; rw [hj, m2]; omega⟩
        · rw [m7]
          exact .inr (.inl ⟨cr, o, m4.trans ho, by rw [hj]; omega, m8⟩)
        · rw [m2] at hk
          rw [m1, m3, hmr, sel_app, sel_app, sel_app, sel_one, sel_one, sel_one, rqs_some m7, m6, m8, hj]
          have dE : m.dueOf k = if (o : Int) = k then some "lowered" else none := by unfold HM.dueOf; rw [m8, find_one]
          rw [dE]
          by_cases e : k = j
          · subst e
            have : ¬ (o : Int) = k := by omega
            rw [q1, q2]
            simpa [this, isNr, isAn, isRq] using Pj
          · have e' : ¬ (j : Int) = k := by omega
            by_cases x : k = o
            · subst x
              have := (p_lower PoW).1
              rw [rW]
              simpa [e', isNr, isAn, isRq] using this
            · have x' : ¬ (o : Int) = k := by omega
              simpa [x', e', isNr, isAn, isRq] using Po k hk e
end
end PG
namespace PG
open PySem L2 VL
section
variable {w : Int} {h : HM} {S : Nat → Hs} {R : List Lt}
theorem Free.setq {r q : List Lt} (f : Free w { h with q := q } S R r) : Free w h S R r := ⟨⟨f.wf.len, f.wf.le, f.wf.ow⟩, f.qr, f.far, f.cok, f.excl, f.pairs⟩
theorem line_drain : ∀ (r : List Lt) {h : HM} {R : List Lt}, Free w h S R r → h.task = none → h.due = [] → LineInv w (HM.drain r h).2 S (R ++ (HM.drain r h).1) ∧ cur (HM.drain r h).2 S (R ++ (HM.drain r h).1) = cur h S R ∧ ((HM.drain r h).2.task = none → (HM.drain r h).2.q = [])
  | [], h, R, f, ht, hd => by
    refine ⟨?_, ?_, fun _ => rfl⟩
    · show LineInv w { h with q := [] } S (R ++ [])
      rw [List.append_nil]
      exact Free.inv (h := { h with q := [] }) (r := []) ⟨⟨f.wf.len, f.wf.le, f.wf.ow⟩, f.qr, f.far, f.cok, f.excl, f.pairs⟩ ht hd rfl
    · show cur { h with q := [] } S (R ++ []) = _
      rw [List.append_nil]; rfl
  | l :: r, h, R, f, ht, hd => by
    obtain ⟨I, hc⟩ := line_start (m := { (h.start l).2 with q := r }) f ht hd rfl
    have hdr : HM.drain (l :: r) h = ((h.start l).1 ++ (HM.drain r (h.start l).2).1, (HM.drain r (h.start l).2).2) := by
      show (if h.task.isSome = true then _ else _) = _
      rw [ht]; rfl
    rw [hdr]
    dsimp only
    by_cases hb : (h.start l).2.task = none
    · have hfree := I.free hb
      obtain ⟨a, b, c⟩ := line_drain r (Free.setq hfree.2) hb hfree.1
      rw [← List.append_assoc]
      exact ⟨a, b.trans hc, c⟩
    · have hs : (h.start l).2.task.isSome = true := by cases e : (h.start l).2.task with | none => exact absurd e hb | some t => rfl
      have e : HM.drain r (h.start l).2 = ([], { (h.start l).2 with q := r }) := by
        cases r with
        | nil => rfl
        | cons a r =>
          show (if (h.start l).2.task.isSome = true then _ else _) = _
          rw [if_pos hs]
      rw [e, List.append_nil]
      exact ⟨I, hc, fun x => absurd x hb⟩
theorem drain_some {r : List Lt} (ht : h.task.isSome = true) : HM.drain r h = ([], { h with q := r }) := by
  cases r with
  | nil => rfl
  | cons a r => show (if h.task.isSome = true then _ else _) = _; rw [if_pos ht]
theorem sel_mid (p : String → Bool) (A B : List Lt) (l : Lt) (ln k : Int) : sel p (A ++ l :: B) ln k = sel p A ln k ++ ((if l.2.1 = ln ∧ l.2.2.1 = k ∧ p l.1 = true then [(l.1, l.2.2.2)] else []) ++ sel p B ln k) := by
  rw [sel_app, sel_cons]
theorem sel_other {p : String → Bool} {A B : List Lt} {l : Lt} {ln k : Int} (h : ¬ (l.2.1 = ln ∧ l.2.2.1 = k ∧ p l.1 = true)) : sel p (A ++ l :: B) ln k = sel p (A ++ B) ln k := by
  rw [sel_mid, if_neg h, sel_app]; rfl
theorem sel_own {p : String → Bool} {A B : List Lt} {l : Lt} {ln k : Int} (h : l.2.1 = ln ∧ l.2.2.1 = k ∧ p l.1 = true) (h1 : (sel p (A ++ l :: B) ln k).length ≤ 1) : sel p (A ++ l :: B) ln k = [(l.1, l.2.2.2)] ∧ sel p (A ++ B) ln k = [] := by
  rw [sel_mid, if_pos h] at h1 ⊢
  obtain ⟨a, b⟩ := app_one h1
  rw [sel_app, a, b]; exact ⟨rfl, rfl⟩
theorem find_gen (k : Int) : ∀ {ds : List (String × Int)}, (∀ x ∈ ds, x.1 = "yielded") → (ds.find? fun x => decide (x.2 = k)).map (·.1) = if ("yielded", k) ∈ ds then some "yielded" else none
  | [], _ => rfl
  | d :: ds, hd => by
    have h1 := hd d List.mem_cons_self
    obtain ⟨a, b⟩ := d
    dsimp only at h1
    subst h1
    rw [List.find?_cons]
    by_cases e : b = k
    · subst e; simp
    · have ih := find_gen k fun x hx => hd x (List.mem_cons_of_mem _ hx)
      have : ¬ (("yielded", k) : String × Int) = ("yielded", b) := fun x => e (by injection x with _ y; exact y.symm)
      simp only [e, decide_false, List.mem_cons, this, false_or]
      exact ih
theorem len_bound : ∀ (n : Nat) {xs : List Int}, xs.Nodup → (∀ x ∈ xs, 0 ≤ x ∧ x < (n : Int)) → xs.length ≤ n
  | 0, xs, _, h => by
    cases xs with
    | nil => simp
    | cons x r => have := h x List.mem_cons_self; omega
  | n + 1, xs, nd, h => by
    have := len_bound n (xs := xs.erase (n : Int)) (nd.erase _) (fun x hx => by
      have h1 := (nd.mem_erase_iff.mp hx)
      have h2 := h x h1.2
      have : x ≠ (n : Int) := h1.1
      omega)
    by_cases hm : (n : Int) ∈ xs
    · rw [List.length_erase_of_mem hm] at this; omega
    · rw [List.erase_of_not_mem hm] at this; omega
theorem nodup_of_row : ∀ {r : List Lt}, (∀ k : Int, (rowOf r k).length ≤ 1) → (r.map fun l => l.2.2.1).Nodup
  | [], _ => by simp
  | l :: r, h => by
    rw [List.map_cons, List.nodup_cons]
    refine ⟨fun hx => ?_, nodup_of_row fun k => ?_⟩
    · obtain ⟨x, hx, e⟩ := List.mem_map.mp hx
      have := h l.2.2.1
      rw [rowOf_cons, if_pos rfl] at this
      have h0 : (rowOf r l.2.2.1) = [] := (app_one (a := []) (x := (l.1, l.2.2.2)) (by rw [List.nil_append]; exact this)).2
      have : ((x.1, x.2.2.2) : String × WD) ∈ rowOf r l.2.2.1 := List.mem_map.mpr ⟨x, List.mem_filter.mpr ⟨hx, by simp [e]⟩, rfl⟩
      rw [h0] at this; cases this
    · have := h k
      rw [rowOf_cons, List.length_append] at this
      omega
theorem row_len (I : LineInv w h S R) : h.q.length ≤ 64 := by
  have nd : (h.q.map fun l => l.2.2.1).Nodup := nodup_of_row fun k => by
    by_cases hk : 0 ≤ k ∧ k < (h.n : Int)
    · obtain ⟨j, hj⟩ := Int.eq_ofNat_of_zero_le hk.1
      have := (p_len (I.pairs j (by omega))).2.2
      rw [List.length_append] at this
      have e : (h.rqs (j : Int)).length ≥ (rowOf h.q j).length := by unfold HM.rqs rowOf; simp
      rw [show k = (j : Int) from hj]
      omega
    · have : rowOf h.q k = [] := by
        unfold rowOf
        rw [List.map_eq_nil_iff, List.filter_eq_nil_iff]
        intro x hx e
        have := (I.qr x hx).2
        unfold inR at this
        simp only [decide_eq_true_eq] at e
        omega
      rw [this]; simp
  have := len_bound h.n nd (fun x hx => by
    obtain ⟨y, hy, rfl⟩ := List.mem_map.mp hx
    exact (I.qr y hy).2)
  rw [List.length_map] at this
  have := I.wf.le
  omega
theorem due_len (I : LineInv w h S R) : h.due.length ≤ 64 := by
  have du := I.du
  cases ht : h.task with
  | none => rw [ht] at du; rw [du]; simp
  | some t =>
    rw [ht] at du
    rcases du with e | ⟨_, o, _, _, e⟩ | ⟨_, _, nd, hx, _⟩
    · rw [e]; simp
    · rw [e]; simp
    · have nd2 : (h.due.map (·.2)).Nodup := by
        refine List.pairwise_map.mpr ((List.Pairwise.imp_of_mem ?_ nd))
        intro a b ha hb hne e
        refine hne (Prod.ext ?_ e)
        rw [(hx a ha).1, (hx b hb).1]
      have := len_bound h.n nd2 (fun x hx2 => by
        obtain ⟨y, hy, rfl⟩ := List.mem_map.mp hx2
        obtain ⟨i, i1, i2⟩ := (hx y hy).2
        rw [i1]; omega)
      rw [List.length_map] at this
      have := I.wf.le
      omega
structure LineOk (w : Int) (h : HM) (S : Nat → Hs) (R : List Lt) : Prop extends LineInv w h S R where
  idle : h.task = none → h.q = []
theorem LineOk.ok (I : LineOk w h S R) : h.Ok := by
  refine ⟨I.wf, fun ht => ⟨I.idle ht, (I.toLineInv.free ht).1⟩, I.qr, I.tr, ?_, ?_⟩
  · have := row_len I.toLineInv; omega
  · have := due_len I.toLineInv; omega
theorem due_took (I : LineInv w h S R) {k : Nat} (hd : h.dueOf k = some "took") : ∃ t, h.task = some t ∧ t.2.2.1 = (k : Int) ∧ h.due = [("took", (k : Int))] := by
  have du := I.du
  unfold HM.dueOf at hd
  cases ht : h.task with
  | none => rw [ht] at du; rw [du] at hd; simp at hd
  | some t =>
    rw [ht] at du
    rcases du with e | ⟨_, o, _, _, e⟩ | ⟨_, _, nd, hx, _⟩
    · rw [e, find_one] at hd
      split at hd
      · rename_i hk; exact ⟨t, rfl, hk, by rw [e, hk]⟩
      · cases hd
    · rw [e, find_one] at hd
      split at hd
      · simp at hd
      · cases hd
    · rw [find_gen k (fun x q => (hx x q).1)] at hd
      split at hd
      · simp at hd
      · cases hd
theorem due_lowered (I : LineInv w h S R) {k : Nat} (hd : h.dueOf k = some "lowered") : ∃ t, h.task = some t ∧ t.1 = "read" ∧ h.ow = some k ∧ (k : Int) ≠ t.2.2.1 ∧ h.due = [("lowered", (k : Int))] := by
  have du := I.du
  unfold HM.dueOf at hd
  cases ht : h.task with
  | none => rw [ht] at du; rw [du] at hd; simp at hd
  | some t =>
    rw [ht] at du
    rcases du with e | ⟨a, o, b, c, e⟩ | ⟨_, _, nd, hx, _⟩
    · rw [e, find_one] at hd
      split at hd
      · simp at hd
      · cases hd
    · rw [e, find_one] at hd
      split at hd
      · rename_i hk
        have : o = k := by omega
        subst this
        exact ⟨t, rfl, a, b, c, e⟩
      · cases hd
    · rw [find_gen k (fun x q => (hx x q).1)] at hd
      split at hd
      · simp at hd
      · cases hd
theorem due_yielded (I : LineInv w h S R) {k : Nat} (hd : h.dueOf k = some "yielded") : ∃ t, h.task = some t ∧ t.1 = "write" ∧ h.due.Nodup ∧ (∀ x ∈ h.due, x.1 = "yielded" ∧ ∃ i : Nat, x.2 = i ∧ i < h.n) ∧ (∀ k : Nat, k < h.n → (("yielded", (k : Int)) ∈ h.due ↔ (k : Int) ≠ t.2.2.1 ∧ h.role k ≠ .N)) ∧ ("yielded", (k : Int)) ∈ h.due := by
  have du := I.du
  unfold HM.dueOf at hd
  cases ht : h.task with
  | none => rw [ht] at du; rw [du] at hd; simp at hd
  | some t =>
    rw [ht] at du
    rcases du with e | ⟨a, o, b, c, e⟩ | ⟨a, _, nd, hx, hm⟩
    · rw [e, find_one] at hd
      split at hd
      · simp at hd
      · cases hd
    · rw [e, find_one] at hd
      split at hd
      · simp at hd
      · cases hd
    · rw [find_gen k (fun x q => (hx x q).1)] at hd
      split at hd
      · rename_i q; exact ⟨t, rfl, a, nd, hx, hm, q⟩
      · cases hd
theorem line_awaited {A B : List Lt} {l : Lt} {k : Nat} (I : LineInv w h S (A ++ l :: B)) (hl : l.2.1 = h.line) (hk : l.2.2.1 = (k : Int)) (hkn : k < h.n) (hw : l.1 ∈ ["read", "write", "back", "lowered", "yielded", "took"]) : h.awaited l = true ∧ (l.1 = "lowered" → h.ow.isSome = true) := by
  have P := I.pairs k hkn
  have pl := p_len P
  have base : (decide (l.2.1 = h.line) && decide (0 ≤ l.2.2.1) && decide (l.2.2.1 < (h.n : Int))) = true := by
    simp only [hl, hk, decide_true, Bool.true_and, Bool.and_eq_true, decide_eq_true_eq]; omega
  unfold HM.awaited
  rw [base, Bool.true_and]
  by_cases c : l.1 ∈ ["read", "write", "back"]
  · rw [if_pos c]
    refine ⟨?_, fun e => by rw [e] at c; simp at c⟩
    have h1 : sel isRq (A ++ l :: B) h.line k = [(l.1, l.2.2.2)] := (sel_own (p := isRq) ⟨hl, hk, by simpa [isRq] using c⟩ (by have := pl.2.2; rw [List.length_append] at this; omega)).1
    have h2 : h.rqs k = [] := by
      have := pl.2.2
      rw [h1, List.length_append, List.length_singleton] at this
      exact List.length_eq_zero_iff.mp (by omega)
    have h3 : rowOf h.q k = [] := by
      unfold HM.rqs at h2
      exact (List.append_eq_nil_iff.mp h2).1
    have h4 : h.q.any (fun x => decide (x.2.2.1 = l.2.2.1)) = false := by
      rw [List.any_eq_false]
      intro x hx e
      simp only [decide_eq_true_eq] at e
      have : ((x.1, x.2.2.2) : String × WD) ∈ rowOf h.q k := List.mem_map.mpr ⟨x, List.mem_filter.mpr ⟨hx, by simp [e, hk]⟩, rfl⟩
      rw [h3] at this; cases this
    unfold HM.hasReq
    rw [h4, Bool.false_or]
    cases ht : h.task with
    | none => rfl
    | some t =>
      rw [rqs_some ht] at h2
      have h5 := (List.append_eq_nil_iff.mp h2).2
      dsimp only
      rw [hk]
      by_cases e : t.2.2.1 = (k : Int)
      · by_cases e2 : ("took", (k : Int)) ∈ h.due
        · simp [e, e2]
        · rw [if_pos ⟨e, e2⟩] at h5; cases h5
      · simp [e]
  · rw [if_neg c]
    have ca : isAn l.1 = true := by
      simp only [List.mem_cons, List.not_mem_nil, or_false] at hw c
      simp only [isAn, decide_eq_true_eq, List.mem_cons, List.not_mem_nil, or_false]
      rcases hw with e | e | e | e | e | e
      · exact absurd (.inl e) c
      · exact absurd (.inr (.inl e)) c
      · exact absurd (.inr (.inr e)) c
      · exact .inl e
      · exact .inr (.inl e)
      · exact .inr (.inr e)
    have h1 := (sel_own (p := isAn) ⟨hl, hk, ca⟩ pl.2.1).1
    rw [h1] at P
    have hd := (p_ans P).1
    dsimp only at hd
    rw [hk]
    have hw2 : l.1 = "lowered" ∨ l.1 = "yielded" ∨ l.1 = "took" := by simpa [isAn] using ca
    rcases hw2 with e | e | e
    · rw [e] at hd ⊢
      obtain ⟨t, _, _, t3, _, t5⟩ := due_lowered I hd
      exact ⟨by rw [t5]; simp, fun _ => by rw [t3]; rfl⟩
    · rw [e] at hd ⊢
      obtain ⟨t, _, _, _, _, _, t6⟩ := due_yielded I hd
      exact ⟨by simpa using t6, fun x => by simp at x⟩
    · rw [e] at hd ⊢
      obtain ⟨t, _, _, t3⟩ := due_took I hd
      exact ⟨by rw [t3]; simp, fun x => by simp at x⟩
end
end PG
namespace PG
open PySem L2 VL
section
variable {w : Int} {h : HM} {S : Nat → Hs} {R : List Lt}
theorem isRq_not {x : String} (h : isRq x = true) : isAn x = false ∧ isNr x = false := by
  simp only [isRq, decide_eq_true_eq, List.mem_cons, List.not_mem_nil, or_false] at h
  rcases h with e | e | e <;> subst e <;> decide
theorem isAn_not {x : String} (h : isAn x = true) : isRq x = false ∧ isNr x = false := by
  simp only [isAn, decide_eq_true_eq, List.mem_cons, List.not_mem_nil, or_false] at h
  rcases h with e | e | e <;> subst e <;> decide
theorem cur_congr {R' : List Lt} (h1 : ∀ o : Nat, h.ow = some o → sel isNr R' h.line o = sel isNr R h.line o ∧ sel isAn R' h.line o = sel isAn R h.line o) : cur h S R' = cur h S R := by
  unfold cur
  cases ho : h.ow with
  | none => rfl
  | some o => dsimp only; rw [(h1 o ho).1, (h1 o ho).2]
theorem line_request {A B : List Lt} {l : Lt} {k : Nat} (I : LineOk w h S (A ++ l :: B)) (hl : l.2.1 = h.line) (hk : l.2.2.1 = (k : Int)) (hkn : k < h.n) (hw : l.1 ∈ ["read", "write", "back"]) :
    LineOk w (h.come l).2 S (A ++ B ++ (h.come l).1) ∧ cur (h.come l).2 S (A ++ B ++ (h.come l).1) = cur h S (A ++ l :: B) := by
  have rq : isRq l.1 = true := by simpa [isRq] using hw
  obtain ⟨n1, n2⟩ := isRq_not rq
  have P := I.pairs k hkn
  have pl := p_len P
  obtain ⟨s1, s2⟩ := sel_own (p := isRq) (A := A) (B := B) ⟨hl, hk, rq⟩ (by have := pl.2.2; rw [List.length_append] at this; omega)
  have h2 : h.rqs k = [] := by
    have := pl.2.2
    rw [s1, List.length_append, List.length_singleton] at this
    exact List.length_eq_zero_iff.mp (by omega)
  have o1 : ∀ j : Int, sel isNr (A ++ l :: B) h.line j = sel isNr (A ++ B) h.line j := fun j => sel_other (by rw [n2]; simp)
  have o2 : ∀ j : Int, sel isAn (A ++ l :: B) h.line j = sel isAn (A ++ B) h.line j := fun j => sel_other (by rw [n1]; simp)
  have o3 : ∀ j : Nat, j ≠ k → sel isRq (A ++ l :: B) h.line j = sel isRq (A ++ B) h.line j := fun j e => sel_other (by rw [hk]; intro x; exact e (by omega))
  have hc : cur h S (A ++ B) = cur h S (A ++ l :: B) := cur_congr fun o _ => ⟨(o1 o).symm, (o2 o).symm⟩
  have cE : h.come l = HM.drain (h.q ++ [l]) h := by unfold HM.come; rw [if_pos hw]
  rw [cE]
  have qr : ∀ x ∈ h.q ++ [l], x.1 ∈ ["read", "write", "back"] ∧ inR h.n x := fun x hx => by
    rcases List.mem_append.mp hx with q | q
    · exact I.qr x q
    · rw [List.mem_singleton.mp q]; exact ⟨hw, by unfold inR; rw [hk]; omega⟩
  have rowE : ∀ j : Int, rowOf (h.q ++ [l]) j = rowOf h.q j ++ (if l.2.2.1 = j then [(l.1, l.2.2.2)] else []) := fun j => by
    unfold rowOf
    rw [List.filter_append, List.map_append]
    congr 1
    by_cases e : l.2.2.1 = j
    · rw [if_pos e]; simp [e]
    · rw [if_neg e]; simp [e]
  by_cases ht : h.task = none
  · have hq := I.idle ht
    obtain ⟨hd, f⟩ := I.toLineInv.free ht
    rw [hq] at f qr rowE
    have f2 : Free w h S (A ++ B) [l] := by
      refine ⟨f.wf, by simpa using qr, f.far, by rw [hc]; exact f.cok, f.excl, fun j hj => ?_⟩
      have := f.pairs j hj
      rw [o1, o2] at this
      have re := rowE (j : Int)
      simp only [List.nil_append] at re
      rw [re]
      by_cases e : j = k
      · subst e
        rw [s1] at this
        rw [s2, if_pos hk]
        exact this
      · rw [o3 j e] at this
        rw [if_neg (by rw [hk]; omega)]
        exact this
    obtain ⟨a, b, c⟩ := line_drain [l] f2 ht hd
    rw [hq]
    exact ⟨⟨a, c⟩, b.trans hc⟩
  · have hs : h.task.isSome = true := by cases e : h.task with | none => exact absurd e ht | some t => rfl
    rw [drain_some hs, List.append_nil]
    refine ⟨⟨⟨⟨I.wf.len, I.wf.le, I.wf.ow⟩, qr, I.tr, I.far, by show ∃ ws, cur h S (A ++ B) = some ws ∧ _; rw [hc]; exact I.cok, I.excl, I.du, fun j hj => ?_⟩, fun x => absurd x ht⟩, hc⟩
    have := I.pairs j hj
    rw [o1, o2] at this
    obtain ⟨t, htt⟩ : ∃ t, h.task = some t := by cases e : h.task with | none => exact absurd e ht | some t => exact ⟨t, rfl⟩
    have e1 : ({ h with q := h.q ++ [l] } : HM).rqs j = rowOf h.q j ++ (if l.2.2.1 = (j : Int) then [(l.1, l.2.2.2)] else []) ++ (if t.2.2.1 = (j : Int) ∧ ("took", (j : Int)) ∉ h.due then [(t.1, t.2.2.2)] else []) := by
      rw [rqs_some (m := { h with q := h.q ++ [l] }) htt]
      show rowOf (h.q ++ [l]) j ++ _ = _
      rw [rowE]
    show PairOk h.far (S j) (h.role j) (sel isNr (A ++ B) h.line j) (sel isAn (A ++ B) h.line j) (sel isRq (A ++ B) h.line j ++ ({ h with q := h.q ++ [l] } : HM).rqs j) (h.dueOf j)
    rw [e1]
    by_cases e : j = k
    · subst e
      rw [rqs_some htt] at h2
      obtain ⟨h3, h4⟩ := List.append_eq_nil_iff.mp h2
      rw [s1, rqs_some htt, h3, h4] at this
      rw [s2, h3, h4, if_pos hk]
      exact this
    · rw [o3 j e, rqs_some htt] at this
      rw [if_neg (by rw [hk]; omega), List.append_nil]
      exact this
theorem line_took {A B : List Lt} {l : Lt} {k : Nat} (I : LineOk w h S (A ++ l :: B)) (hl : l.2.1 = h.line) (hk : l.2.2.1 = (k : Int)) (hkn : k < h.n) (hw : l.1 = "took") :
    LineOk w (h.come l).2 S (A ++ B ++ (h.come l).1) ∧ cur (h.come l).2 S (A ++ B ++ (h.come l).1) = cur h S (A ++ l :: B) := by
  have an : isAn l.1 = true := by rw [hw]; rfl
  obtain ⟨n1, n2⟩ := isAn_not an
  have P := I.pairs k hkn
  have pl := p_len P
  obtain ⟨s1, s2⟩ := sel_own (p := isAn) (A := A) (B := B) ⟨hl, hk, an⟩ pl.2.1
  have o1 : ∀ j : Int, sel isNr (A ++ l :: B) h.line j = sel isNr (A ++ B) h.line j := fun j => sel_other (by rw [n2]; simp)
  have o2 : ∀ j : Nat, j ≠ k → sel isAn (A ++ l :: B) h.line j = sel isAn (A ++ B) h.line j := fun j e => sel_other (by rw [hk]; intro x; exact e (by omega))
  have o3 : ∀ j : Int, sel isRq (A ++ l :: B) h.line j = sel isRq (A ++ B) h.line j := fun j => sel_other (by rw [n1]; simp)
  rw [s1, hw] at P
  have hd := (p_ans P).1
  obtain ⟨t, t1, t2, t3⟩ := due_took I.toLineInv hd
  have Pk := p_took P
  rw [o1, o3, rqs_some t1, t3, if_neg (by simp), List.append_nil] at Pk
  have hc : cur { h with task := none, due := [] } S (A ++ B) = cur h S (A ++ l :: B) := by
    unfold cur
    show (match h.ow with | none => h.far | some o => _) = _
    cases ho : h.ow with
    | none => rfl
    | some o =>
      dsimp only
      rw [o1]
      by_cases e : o = k
      · subst e
        rw [s1, s2, hw]
        unfold pv
        split
        · rfl
        · simp
      · rw [o2 o e]
  have cE : h.come l = HM.drain h.q { h with task := none, due := [] } := by
    unfold HM.come; rw [if_neg (by rw [hw]; decide), if_pos hw]
  rw [cE]
  have f : Free w { h with task := none, due := [] } S (A ++ B) h.q := by
    refine ⟨⟨I.wf.len, I.wf.le, I.wf.ow⟩, I.qr, I.far, by rw [hc]; exact I.cok, I.excl, fun j hj => ?_⟩
    show PairOk h.far (S j) (h.role j) (sel isNr (A ++ B) h.line j) (sel isAn (A ++ B) h.line j) (sel isRq (A ++ B) h.line j ++ rowOf h.q j) none
    by_cases e : j = k
    · subst e; rw [s2]; exact Pk
    · have := I.pairs j hj
      have dE : h.dueOf j = none := by unfold HM.dueOf; rw [t3, find_one, if_neg (by omega)]
      rw [o1, o2 j e, o3, rqs_some t1, if_neg (by rw [t2]; omega), List.append_nil, dE] at this
      exact this
  obtain ⟨a, b, c⟩ := line_drain h.q f rfl rfl
  exact ⟨⟨a, c⟩, b.trans hc⟩
theorem line_lowered {A B : List Lt} {l : Lt} {k : Nat} (I : LineOk w h S (A ++ l :: B)) (hl : l.2.1 = h.line) (hk : l.2.2.1 = (k : Int)) (hkn : k < h.n) (hw : l.1 = "lowered") :
    LineOk w (h.come l).2 S (A ++ B ++ (h.come l).1) ∧ cur (h.come l).2 S (A ++ B ++ (h.come l).1) = cur h S (A ++ l :: B) := by
  have an : isAn l.1 = true := by rw [hw]; rfl
  obtain ⟨n1, n2⟩ := isAn_not an
  have P := I.pairs k hkn
  have pl := p_len P
  obtain ⟨s1, s2⟩ := sel_own (p := isAn) (A := A) (B := B) ⟨hl, hk, an⟩ pl.2.1
  have o1 : ∀ j : Int, sel isNr (A ++ l :: B) h.line j = sel isNr (A ++ B) h.line j := fun j => sel_other (by rw [n2]; simp)
  have o2 : ∀ j : Nat, j ≠ k → sel isAn (A ++ l :: B) h.line j = sel isAn (A ++ B) h.line j := fun j e => sel_other (by rw [hk]; intro x; exact e (by omega))
  have o3 : ∀ j : Int, sel isRq (A ++ l :: B) h.line j = sel isRq (A ++ B) h.line j := fun j => sel_other (by rw [n1]; simp)
  rw [s1, hw] at P
  have hd := (p_ans P).1
  obtain ⟨t, t1, t2, t3, t4, t5⟩ := due_lowered I.toLineInv hd
  obtain ⟨Pk, rW, pvE⟩ := p_lowered P
  rw [o1, o3, rqs_some t1, t5, if_neg (by intro x; exact t4 x.1.symm), List.append_nil] at Pk
  have hk2 : l.2.2.1.toNat = k := by omega
  let h1 : HM := { h with far := l.2.2.2, due := [], ow := none, sh := h.sh.set k true }
  have tE : h.take l = h1 := by
    unfold HM.take
    dsimp only
    rw [if_pos hw, t3, hk2, if_pos rfl, t5, hw, hk]
    simp [h1]
  have cE : h.come l = ((h1.grant t).1 :: (HM.drain h.q (h1.grant t).2).1, (HM.drain h.q (h1.grant t).2).2) := by
    unfold HM.come
    rw [if_neg (by rw [hw]; decide), if_neg (by rw [hw]; decide)]
    dsimp only
    rw [tE, if_pos (show h1.due = [] from rfl)]
    rw [show h1.task = some t from t1]
  have g0 : ((h1.grant t).2).task.isSome = true := by rw [grant_task]; show h.task.isSome = true; rw [t1]; rfl
  rw [cE, drain_some g0]
  dsimp only
  have hcur : cur h S (A ++ l :: B) = l.2.2.2 := by
    unfold cur; rw [t3]; dsimp only; rw [s1, hw, pvE]
  have rOth : ∀ j : Nat, j ≠ k → h.role j = .N := fun j e => excl_n' I.excl t3 e
  have r1 : ∀ j : Nat, j ≠ k → h1.role j = .N := fun j e => role_n (by simp [h1]) (by
    show (h.sh.set k true)[j]? ≠ some true
    rw [List.getElem?_set_ne (fun x => e x.symm)]
    exact I.excl k t3 j)
  have r2 : h1.role k = .R := by
    unfold HM.role
    show (if (none : Option Nat) = some k then _ else if (h.sh.set k true)[k]? = some true then _ else _) = _
    rw [if_neg (by simp), if_pos (by simp [List.getElem?_set, I.wf.len, hkn])]
  obtain ⟨tr1, tr2⟩ := I.tr t t1
  obtain ⟨j, hj⟩ := Int.eq_ofNat_of_zero_le tr2.1
  have hj : t.2.2.1 = (j : Int) := hj
  have hjn : j < h.n := by have := tr2.2; omega
  have hjk : j ≠ k := by omega
  have Pj := I.pairs j hjn
  have dEj : ∀ i : Nat, i ≠ k → h.dueOf i = none := fun i e => by unfold HM.dueOf; rw [t5, find_one, if_neg (by omega)]
  rw [dEj j hjk, rqs_some t1, if_pos ⟨hj, by rw [t5]; simp⟩, o1, o2 j hjk, o3, rOth j hjk] at Pj
  have plj := (p_len Pj).2.2
  have q1 : sel isRq (A ++ B) h.line j = [] := by
    simp only [List.length_append, List.length_singleton] at plj
    exact List.length_eq_zero_iff.mp (by omega)
  have q2 : rowOf h.q j = [] := by
    simp only [List.length_append, List.length_singleton] at plj
    exact List.length_eq_zero_iff.mp (by omega)
  rw [q1, q2] at Pj
  have wf1 : h1.WF := ⟨by show (h.sh.set k true).length = h.n; simp [I.wf.len], I.wf.le, fun o e => by cases e⟩
  have res := line_grant (h := h1) (m := { (h1.grant t).2 with q := h.q }) (l := t) (r := h.q) (j := j) (S := S) (R := A ++ B) (w := w) wf1 (by have := I.cok; rw [hcur] at this; exact this) (by have := I.cok; rw [hcur] at this; exact this) (fun o e => by cases e) I.qr hj hjn tr1 (fun _ => rfl) (fun e => by rw [t2] at e; simp at e)
    (by rw [r1 j hjk]; exact p_far _ (by simpa using Pj)) q1 q2 (fun i hi e => by
      show PairOk l.2.2.2 (S i) (h1.role i) (sel isNr (A ++ B) h.line i) (sel isAn (A ++ B) h.line i) (sel isRq (A ++ B) h.line i ++ rowOf h.q i) none
      by_cases e2 : i = k
      · subst e2; rw [r2, s2]; exact Pk
      · have := I.pairs i hi
        rw [dEj i e2, rqs_some t1, if_neg (by rw [hj]; intro x; exact e (by omega)), List.append_nil, o1, o2 i e2, o3, rOth i e2] at this
        rw [r1 i e2]
        exact p_far _ this) (by
      have : (h1.grant t).2.task = some t := (grant_task t).trans t1
      rw [← this])
  refine ⟨⟨res.1, fun x => ?_⟩, res.2.trans ?_⟩
  · have : ({ (h1.grant t).2 with q := h.q } : HM).task = some t := (grant_task t).trans t1
    rw [this] at x; cases x
  · rw [hcur]; rfl
theorem line_yielded {A B : List Lt} {l : Lt} {k : Nat} (I : LineOk w h S (A ++ l :: B)) (hl : l.2.1 = h.line) (hk : l.2.2.1 = (k : Int)) (hkn : k < h.n) (hw : l.1 = "yielded") :
    LineOk w (h.come l).2 S (A ++ B ++ (h.come l).1) ∧ cur (h.come l).2 S (A ++ B ++ (h.come l).1) = cur h S (A ++ l :: B) := by
  have an : isAn l.1 = true := by rw [hw]; rfl
  obtain ⟨n1, n2⟩ := isAn_not an
  have P := I.pairs k hkn
  have pl := p_len P
  obtain ⟨s1, s2⟩ := sel_own (p := isAn) (A := A) (B := B) ⟨hl, hk, an⟩ pl.2.1
  have o1 : ∀ j : Int, sel isNr (A ++ l :: B) h.line j = sel isNr (A ++ B) h.line j := fun j => sel_other (by rw [n2]; simp)
  have o2 : ∀ j : Nat, j ≠ k → sel isAn (A ++ l :: B) h.line j = sel isAn (A ++ B) h.line j := fun j e => sel_other (by rw [hk]; intro x; exact e (by omega))
  have o3 : ∀ j : Int, sel isRq (A ++ l :: B) h.line j = sel isRq (A ++ B) h.line j := fun j => sel_other (by rw [n1]; simp)
  rw [s1, hw] at P
  have hd := (p_ans P).1
  obtain ⟨t, t1, t2, t3, t4, t5, t6⟩ := due_yielded I.toLineInv hd
  have hkt := ((t5 k hkn).mp t6).1
  have hkr := ((t5 k hkn).mp t6).2
  have hnt : ∀ j : Int, ("took", j) ∉ h.due := fun j x => by have := (t4 _ x).1; simp at this
  let h1 : HM := { h with far := if h.ow = some k then l.2.2.2 else h.far, due := h.due.erase ("yielded", (k : Int)), ow := if h.ow = some k then none else h.ow, sh := h.sh.set k false }
  have hk2 : l.2.2.1.toNat = k := by omega
  have tE : h.take l = h1 := by
    unfold HM.take HM.strike
    dsimp only
    rw [if_neg (by rw [hw]; decide), hk2, hw, hk]
  obtain ⟨Pk, rE⟩ := p_yielded h1.far P
  rw [o1, o3, rqs_some t1, if_neg (by intro x; exact hkt x.1.symm), List.append_nil] at Pk
  have hsh : ∀ j : Nat, h1.sh[j]? = some true → h.sh[j]? = some true ∧ j ≠ k := fun j e => by
    have e : (h.sh.set k false)[j]? = some true := e
    by_cases x : k = j
    · subst x
      rw [List.getElem?_set_self (by rw [I.wf.len]; exact hkn)] at e; cases e
    · rw [List.getElem?_set_ne x] at e
      exact ⟨e, fun y => x y.symm⟩
  have rK : h1.role k = .N := role_n (by show (if h.ow = some k then none else h.ow) ≠ _; split; simp; assumption) (fun e => (hsh k e).2 rfl)
  have rO : ∀ j : Nat, j ≠ k → h1.role j = h.role j := fun j e => by
    unfold HM.role
    show (if (if h.ow = some k then none else h.ow) = some j then _ else if (h.sh.set k false)[j]? = some true then _ else _) = _
    rw [List.getElem?_set_ne (fun x => e x.symm)]
    by_cases c : h.ow = some k
    · rw [if_pos c, if_neg (show ¬ (none : Option Nat) = some j by simp), if_neg (show ¬ h.ow = some j by rw [c]; intro x; cases x; exact e rfl)]
    · rw [if_neg c]
  have wf1 : h1.WF := ⟨by show (h.sh.set k false).length = h.n; simp [I.wf.len], I.wf.le, fun o e => by
    have e : (if h.ow = some k then none else h.ow) = some o := e
    split at e
    · cases e
    · exact I.wf.ow o e⟩
  have ex1 : ∀ o, h1.ow = some o → ∀ j : Nat, h1.sh[j]? ≠ some true := fun o e j x => by
    have e : (if h.ow = some k then none else h.ow) = some o := e
    split at e
    · cases e
    · exact I.excl o e j (hsh j x).1
  have hcur : cur h1 S (A ++ B) = cur h S (A ++ l :: B) := by
    unfold cur
    show (match (if h.ow = some k then none else h.ow) with | none => (if h.ow = some k then l.2.2.2 else h.far) | some o => _) = _
    by_cases c : h.ow = some k
    · rw [if_pos c, if_pos c, c]
      dsimp only
      rw [s1, hw]
      rcases rE with q | ⟨_, q⟩
      · have : h.role k = .W := by unfold HM.role; rw [if_pos c]
        rw [this] at q; cases q
      · exact q.symm
    · rw [if_neg c]
      cases ho : h.ow with
      | none => dsimp only; rw [if_neg (by simp)]
      | some o =>
        have e : o ≠ k := fun x => c (by rw [ho, x])
        dsimp only
        rw [o1, o2 o e]
        show pv (if h.ow = some k then l.2.2.2 else h.far) _ _ _ = _
        rw [if_neg c]
  have cok1 : ∃ ws, cur h1 S (A ++ B) = some ws ∧ (ws.length : Int) = w := by rw [hcur]; exact I.cok
  have far1 : ∃ ws, h1.far = some ws ∧ (ws.length : Int) = w := by
    by_cases c : h.ow = some k
    · have e1 : h1.ow = none := if_pos c
      have : cur h1 S (A ++ B) = h1.far := by unfold cur; rw [e1]
      rw [← this]; exact cok1
    · show ∃ ws, (if h.ow = some k then l.2.2.2 else h.far) = some ws ∧ _
      rw [if_neg c]; exact I.far
  -- the pairs behind
  have Pm : ∀ j : Nat, j < h.n → PairOk h1.far (S j) (h1.role j) (sel isNr (A ++ B) h.line j) (sel isAn (A ++ B) h.line j) (sel isRq (A ++ B) h.line j ++ (rowOf h.q j ++ (if t.2.2.1 = (j : Int) then [(t.1, t.2.2.2)] else []))) (if ("yielded", (j : Int)) ∈ h1.due then some "yielded" else none) := by
    intro j hj
    by_cases e : j = k
    · subst e
      have : ("yielded", (j : Int)) ∉ h1.due := fun x => (t3.mem_erase_iff.mp x).1 rfl
      rw [rK, s2, if_neg this, if_neg (fun x => hkt x.symm), List.append_nil]
      exact Pk
    · have := I.pairs j hj
      have dE : h.dueOf j = if ("yielded", (j : Int)) ∈ h.due then some "yielded" else none := find_gen _ fun x q => (t4 x q).1
      have mE : ("yielded", (j : Int)) ∈ h1.due ↔ ("yielded", (j : Int)) ∈ h.due := ⟨fun x => (t3.mem_erase_iff.mp x).2, fun x => t3.mem_erase_iff.mpr ⟨fun y => by simp only [Prod.mk.injEq, true_and] at y; exact e (by omega), x⟩⟩
      rw [dE, rqs_some t1, o1, o2 j e, o3] at this
      simp only [hnt, not_false_eq_true, and_true] at this
      rw [rO j e]
      simp only [mE]
      by_cases c : h.ow = some k
      · have rN := excl_n' I.excl c e
        rw [rN] at this ⊢
        exact p_far _ this
      · have : h1.far = h.far := if_neg c
        rw [this]
        assumption
  unfold HM.come
  rw [if_neg (by rw [hw]; decide), if_neg (by rw [hw]; decide)]
  dsimp only
  rw [tE]
  by_cases cd : h1.due = []
  · rw [if_pos cd, show h1.task = some t from t1]
    dsimp only
    have g0 : ((h1.grant t).2).task.isSome = true := by rw [grant_task]; show h.task.isSome = true; rw [t1]; rfl
    rw [show h1.q = h.q from rfl, drain_some g0]
    obtain ⟨tr1, tr2⟩ := I.tr t t1
    obtain ⟨j, hj⟩ := Int.eq_ofNat_of_zero_le tr2.1
    have hj : t.2.2.1 = (j : Int) := hj
    have hjn : j < h.n := by have := tr2.2; omega
    have Pj := Pm j hjn
    rw [cd, if_pos hj, if_neg (by simp)] at Pj
    have plj := (p_len Pj).2.2
    simp only [List.length_append, List.length_singleton] at plj
    have q1 : sel isRq (A ++ B) h.line j = [] := List.length_eq_zero_iff.mp (by omega)
    have q2 : rowOf h.q j = [] := List.length_eq_zero_iff.mp (by omega)
    rw [q1, q2] at Pj
    have none' : ∀ i : Nat, i < h.n → i ≠ j → h1.role i = .N := fun i hi e => by
      by_cases e2 : i = k
      · rw [e2]; exact rK
      · rw [rO i e2]
        cases hr : h.role i with
        | N => rfl
        | _ =>
          have x := (t5 i hi).mpr ⟨by rw [hj]; omega, by rw [hr]; simp⟩
          have : ("yielded", (i : Int)) ∈ h1.due := t3.mem_erase_iff.mpr ⟨fun y => by simp only [Prod.mk.injEq, true_and] at y; exact e2 (by omega), x⟩
          rw [cd] at this; cases this
    have res := line_grant (h := h1) (m := { (h1.grant t).2 with q := h.q }) (l := t) (r := h.q) (j := j) (S := S) (R := A ++ B) (w := w) wf1 far1 cok1 ex1 I.qr hj hjn tr1 (fun e => by rw [t2] at e; simp at e) (fun _ => none') (by simpa using Pj) q1 q2 (fun i hi e => by
      have := Pm i hi
      rw [cd, if_neg (by rw [hj]; intro x; exact e (by omega)), if_neg (by simp), List.append_nil] at this
      exact this) (by
      have : (h1.grant t).2.task = some t := (grant_task t).trans t1
      rw [← this])
    refine ⟨⟨res.1, fun x => ?_⟩, res.2.trans hcur⟩
    have : ({ (h1.grant t).2 with q := h.q } : HM).task = some t := (grant_task t).trans t1
    rw [this] at x; cases x
  · rw [if_neg cd, List.append_nil]
    refine ⟨⟨⟨wf1, I.qr, I.tr, far1, cok1, ex1, ?_, fun j hj => ?_⟩, fun x => by rw [show h1.task = some t from t1] at x; cases x⟩, hcur⟩
    · rw [show h1.task = some t from t1]
      refine .inr (.inr ⟨t2, cd, t3.erase _, fun x hx => t4 x (List.mem_of_mem_erase hx), fun j hj => ?_⟩)
      have hj : j < h.n := hj
      show ("yielded", (j : Int)) ∈ h.due.erase ("yielded", (k : Int)) ↔ _
      rw [t3.mem_erase_iff, t5 j hj]
      by_cases e : j = k
      · subst e
        rw [rK]; simp
      · rw [rO j e]
        exact ⟨fun x => x.2, fun x => ⟨fun y => by simp only [Prod.mk.injEq, true_and] at y; exact e (by omega), x⟩⟩
    · have := Pm j hj
      have dE : h1.dueOf j = if ("yielded", (j : Int)) ∈ h1.due then some "yielded" else none := find_gen _ fun x q => (t4 x (List.mem_of_mem_erase q)).1
      have nt1 : ∀ i : Int, ("took", i) ∉ h1.due := fun i x => hnt i (List.mem_of_mem_erase x)
      rw [dE, rqs_some (m := h1) t1]
      simp only [nt1, not_false_eq_true, and_true]
      exact this
theorem line_come {A B : List Lt} {l : Lt} {k : Nat} (I : LineOk w h S (A ++ l :: B)) (hl : l.2.1 = h.line) (hk : l.2.2.1 = (k : Int)) (hkn : k < h.n) (hw : l.1 ∈ ["read", "write", "back", "lowered", "yielded", "took"]) :
    LineOk w (h.come l).2 S (A ++ B ++ (h.come l).1) ∧ cur (h.come l).2 S (A ++ B ++ (h.come l).1) = cur h S (A ++ l :: B) := by
  by_cases c : l.1 ∈ ["read", "write", "back"]
  · exact line_request I hl hk hkn c
  · simp only [List.mem_cons, List.not_mem_nil, or_false] at hw c
    rcases hw with e | e | e | e | e | e
    · exact absurd (.inl e) c
    · exact absurd (.inr (.inl e)) c
    · exact absurd (.inr (.inr e)) c
    · exact line_lowered I hl hk hkn e
    · exact line_yielded I hl hk hkn e
    · exact line_took I hl hk hkn e
end
end PG
namespace PG
open PySem L2 VL
def ansL (l k : Int) : Option (String × WD) → List Lt
  | some a => [(a.1, l, k, a.2)]
  | none => []
def upd (S : Nat → Hs) (k : Nat) (s : Hs) : Nat → Hs := fun j => if j = k then s else S j
section
variable {w : Int} {h : HM} {S : Nat → Hs} {R : List Lt}
theorem upd_self (k : Nat) (s : Hs) : upd S k s k = s := if_pos rfl
theorem upd_ne {k j : Nat} (s : Hs) (e : j ≠ k) : upd S k s j = S j := if_neg e
theorem LineOk.congr {S' : Nat → Hs} {R' : List Lt} (I : LineOk w h S R) (hS : ∀ k, k < h.n → S' k = S k) (h1 : ∀ k : Int, sel isNr R' h.line k = sel isNr R h.line k) (h2 : ∀ k : Int, sel isAn R' h.line k = sel isAn R h.line k) (h3 : ∀ k : Int, sel isRq R' h.line k = sel isRq R h.line k) : LineOk w h S' R' ∧ cur h S' R' = cur h S R := by
  have hc : cur h S' R' = cur h S R := by
    unfold cur
    cases ho : h.ow with
    | none => rfl
    | some o => dsimp only; rw [h1, h2, hS o (I.wf.ow o ho)]
  refine ⟨⟨⟨I.wf, I.qr, I.tr, I.far, by rw [hc]; exact I.cok, I.excl, I.du, fun k hk => ?_⟩, I.idle⟩, hc⟩
  rw [h1, h2, h3, hS k hk]
  exact I.pairs k hk
theorem line_pair {R' : List Lt} {k : Nat} {s : Hs} (I : LineOk w h S R) (hk : k < h.n)
    (o1 : ∀ j : Nat, j ≠ k → sel isNr R' h.line j = sel isNr R h.line j) (o2 : ∀ j : Nat, j ≠ k → sel isAn R' h.line j = sel isAn R h.line j) (o3 : ∀ j : Nat, j ≠ k → sel isRq R' h.line j = sel isRq R h.line j)
    (P : PairOk h.far s (h.role k) (sel isNr R' h.line k) (sel isAn R' h.line k) (sel isRq R' h.line k ++ h.rqs k) (h.dueOf k))
    (cok : ∃ ws, cur h (upd S k s) R' = some ws ∧ (ws.length : Int) = w) : LineOk w h (upd S k s) R' := by
  refine ⟨⟨I.wf, I.qr, I.tr, I.far, cok, I.excl, I.du, fun j hj => ?_⟩, I.idle⟩
  by_cases e : j = k
  · subst e; rw [upd_self]; exact P
  · rw [upd_ne _ e, o1 j e, o2 j e, o3 j e]; exact I.pairs j hj
theorem cur_pair {R' : List Lt} {k : Nat} {s : Hs} (o1 : ∀ j : Nat, j ≠ k → sel isNr R' h.line j = sel isNr R h.line j) (o2 : ∀ j : Nat, j ≠ k → sel isAn R' h.line j = sel isAn R h.line j)
    (hp : h.ow = some k → pv h.far s (sel isNr R' h.line k) (sel isAn R' h.line k) = pv h.far (S k) (sel isNr R h.line k) (sel isAn R h.line k)) : cur h (upd S k s) R' = cur h S R := by
  unfold cur
  cases ho : h.ow with
  | none => rfl
  | some o =>
    dsimp only
    by_cases e : o = k
    · subst e; rw [upd_self]; exact hp ho
    · rw [upd_ne _ e, o1 o e, o2 o e]
theorem role_ow {k : Nat} (ho : h.ow = some k) : h.role k = .W := by unfold HM.role; rw [if_pos ho]
theorem sel_app_other {p : String → Bool} {X : List Lt} {ln k : Int} (hx : ∀ x ∈ X, ¬ (x.2.1 = ln ∧ x.2.2.1 = k ∧ p x.1 = true)) : sel p (R ++ X) ln k = sel p R ln k := by
  rw [sel_app]
  have : sel p X ln k = [] := by
    unfold sel
    rw [List.map_eq_nil_iff, List.filter_eq_nil_iff]
    intro x hx2 e
    exact hx x hx2 (by simpa [and_assoc] using e)
  rw [this, List.append_nil]
theorem line_met {A B : List Lt} {l : Lt} {k : Nat} (I : LineOk w h S (A ++ l :: B)) (hl : l.2.1 = h.line) (hk : l.2.2.1 = (k : Int)) (hkn : k < h.n) (hw : isNr l.1 = true) :
    ∃ s a, (S k).met l.1 l.2.2.2 = some (s, a) ∧ goodW w l ∧ LineOk w h (upd S k s) (A ++ B ++ ansL h.line k a) ∧
      cur h (upd S k s) (A ++ B ++ ansL h.line k a) = cur h S (A ++ l :: B) := by
  have P := I.pairs k hkn
  have pl := p_len P
  have nn : isAn l.1 = false ∧ isRq l.1 = false := by
    simp only [isNr, decide_eq_true_eq, List.mem_cons, List.not_mem_nil, or_false] at hw
    rcases hw with e | e | e | e | e <;> rw [e] <;> decide
  obtain ⟨s1, s2⟩ := sel_own (p := isNr) (A := A) (B := B) ⟨hl, hk, hw⟩ pl.1
  have o1 : ∀ j : Nat, j ≠ k → sel isNr (A ++ l :: B) h.line j = sel isNr (A ++ B) h.line j := fun j e => sel_other (by rw [hk]; intro x; exact e (by omega))
  have o2 : ∀ j : Int, sel isAn (A ++ l :: B) h.line j = sel isAn (A ++ B) h.line j := fun j => sel_other (by rw [nn.1]; simp)
  have o3 : ∀ j : Int, sel isRq (A ++ l :: B) h.line j = sel isRq (A ++ B) h.line j := fun j => sel_other (by rw [nn.2]; simp)
  rw [s1] at P
  obtain ⟨s, a, m1, m2, _, m4⟩ := p_met P
  have hgw : goodW w l := fun x => by
    have e := p_grant P x
    dsimp only at e
    rw [e]; exact I.far
  refine ⟨s, a, m1, hgw, ?_⟩
  obtain ⟨X, eX⟩ : ∃ X, X = ansL h.line k a := ⟨_, rfl⟩
  rw [← eX]
  have hX : ∀ x ∈ X, x.2.2.1 = (k : Int) ∧ isAn x.1 = true := fun x hx => by
    rw [eX] at hx
    cases a with
    | none => cases hx
    | some a =>
      have : x = (a.1, h.line, (k : Int), a.2) := List.mem_singleton.mp hx
      subst this
      refine ⟨rfl, ?_⟩
      rcases met_word m1 with e | e | e <;> rw [e] <;> decide
  have q1 : ∀ j : Nat, j ≠ k → sel isNr (A ++ B ++ X) h.line j = sel isNr (A ++ l :: B) h.line j := fun j e => by
    rw [sel_app_other (fun x hx y => by have := (hX x hx).1; omega), o1 j e]
  have q2 : ∀ j : Nat, j ≠ k → sel isAn (A ++ B ++ X) h.line j = sel isAn (A ++ l :: B) h.line j := fun j e => by
    rw [sel_app_other (fun x hx y => by have := (hX x hx).1; omega), o2]
  have q3 : ∀ j : Int, sel isRq (A ++ B ++ X) h.line j = sel isRq (A ++ l :: B) h.line j := fun j => by
    rw [sel_app_other (fun x hx y => by have := (isAn_not (hX x hx).2).1; rw [y.2.2] at this; cases this), o3]
  have k1 : sel isNr (A ++ B ++ X) h.line k = [] := by
    rw [sel_app_other (fun x hx y => by have := (isAn_not (hX x hx).2).2; rw [y.2.2] at this; cases this), s2]
  have k2 : sel isAn (A ++ B ++ X) h.line k = sel isAn (A ++ l :: B) h.line k ++ a.toList := by
    rw [sel_app, o2]
    congr 1
    rw [eX] at hX ⊢
    cases a with
    | none => rfl
    | some a =>
      have := (hX (a.1, h.line, (k : Int), a.2) List.mem_cons_self).2
      show sel isAn [(a.1, h.line, (k : Int), a.2)] h.line k = [a]
      rw [sel_one, if_pos ⟨rfl, this⟩]
  have hc : cur h (upd S k s) (A ++ B ++ X) = cur h S (A ++ l :: B) := cur_pair q1 q2 (fun ho => by
    rw [k1, k2, s1]
    exact p_met_pv P m1 (role_ow ho))
  exact ⟨line_pair I hkn q1 q2 (fun j _ => q3 j) (by rw [k1, k2, q3]; exact m2) (by rw [hc]; exact I.cok), hc⟩
theorem line_ask {k : Nat} {s : Hs} {wd : String} {x : WD} (I : LineOk w h S R) (hkn : k < h.n) (hw : isRq wd = true)
    (tr : ∀ tn an rq du, PairOk h.far (S k) (h.role k) tn an rq du → rq = [] ∧ PairOk h.far s (h.role k) tn an [(wd, x)] du) (pvE : ∀ tn an rq du, PairOk h.far (S k) .W tn an rq du → pv h.far s tn an = pv h.far (S k) tn an) :
    LineOk w h (upd S k s) (R ++ [(wd, h.line, (k : Int), x)]) ∧ cur h (upd S k s) (R ++ [(wd, h.line, (k : Int), x)]) = cur h S R := by
  obtain ⟨n1, n2⟩ := isRq_not hw
  have P := I.pairs k hkn
  have q1 : ∀ j : Int, sel isNr (R ++ [(wd, h.line, (k : Int), x)]) h.line j = sel isNr R h.line j := fun j => by
    rw [sel_app, sel_one, if_neg (by rw [n2]; simp), List.append_nil]
  have q2 : ∀ j : Int, sel isAn (R ++ [(wd, h.line, (k : Int), x)]) h.line j = sel isAn R h.line j := fun j => by
    rw [sel_app, sel_one, if_neg (by rw [n1]; simp), List.append_nil]
  have q3 : ∀ j : Nat, j ≠ k → sel isRq (R ++ [(wd, h.line, (k : Int), x)]) h.line j = sel isRq R h.line j := fun j e => by
    rw [sel_app, sel_one, if_neg (by intro y; exact e (by omega)), List.append_nil]
  obtain ⟨t1, t2⟩ := tr _ _ _ _ P
  obtain ⟨r1, r2⟩ := List.append_eq_nil_iff.mp t1
  have k3 : sel isRq (R ++ [(wd, h.line, (k : Int), x)]) h.line k ++ h.rqs k = [(wd, x)] := by
    rw [sel_app, sel_one, if_pos ⟨rfl, hw⟩, r1, r2]; rfl
  have hc : cur h (upd S k s) (R ++ [(wd, h.line, (k : Int), x)]) = cur h S R := cur_pair (fun j _ => q1 j) (fun j _ => q2 j) (fun ho => by
    rw [q1, q2]
    have := P
    rw [role_ow ho] at this
    exact pvE _ _ _ _ this)
  exact ⟨line_pair I hkn (fun j _ => q1 j) (fun j _ => q2 j) q3 (by rw [q1, q2, k3]; exact t2) (by rw [hc]; exact I.cok), hc⟩
theorem line_val {k : Nat} (I : LineOk w h S R) (hkn : k < h.n) (hm : (S k).may ≠ "none") : (S k).words = cur h S R := by
  have P := I.pairs k hkn
  obtain ⟨v1, v2, v3⟩ := p_val P hm
  unfold cur
  cases hr : h.role k with
  | N => exact absurd hr v1
  | W =>
    rw [role_w hr]
    exact v3 hr
  | R =>
    have : h.ow = none := by
      cases ho : h.ow with
      | none => rfl
      | some o =>
        by_cases e : k = o
        · subst e
          rw [role_ow ho] at hr; cases hr
        · rw [excl_n' I.excl ho e] at hr; cases hr
    rw [this]
    exact v2 hr
theorem line_put {k : Nat} {x : WD} {ws' : List Int} (I : LineOk w h S R) (hkn : k < h.n) (hs : S k = .wr x) (hl : (ws'.length : Int) = w) : LineOk w h (upd S k (.wr (some ws'))) R ∧ cur h (upd S k (.wr (some ws'))) R = some ws' := by
  have P := I.pairs k hkn
  rw [hs] at P
  obtain ⟨p1, p2⟩ := p_write (w' := some ws') P
  have ho := role_w (p_writer P)
  have hc : cur h (upd S k (.wr (some ws'))) R = some ws' := by
    unfold cur
    rw [ho]
    dsimp only
    rw [upd_self]
    exact p2
  exact ⟨line_pair I hkn (fun _ _ => rfl) (fun _ _ => rfl) (fun _ _ => rfl) p1 ⟨ws', hc, hl⟩, hc⟩
end
end PG
namespace PG
open PySem L2 VL
def stAt (st : List NS) (i : Nat) : Nat → Hs := fun k => match st[k]? with
  | some n => n.at i
  | none => .away
def memStep (m : Int → Int) (d : Dd) : Int → Int := fun a => if a = d.addr then d.behind (m d.addr) else m a
def rowsMem (m : Int → Int) (rows : List (Dd × Int)) : Int → Int := rows.foldl (fun m r => memStep m r.1) m
def goodRows : (Int → Int) → List (Dd × Int) → Prop
  | _, [] => True
  | m, r :: rs => r.2 = m r.1.addr ∧ goodRows (memStep m r.1) rs
structure VInv (w room : Int) (st : List NS) (hm : List HM) (R : List Lt) (m : Int → Int) : Prop where
  lines : ∀ (i : Nat) h, hm[i]? = some h → h.line = i ∧ h.n = st.length ∧ LineOk w h (stAt st i) R ∧ ∃ ws, cur h (stAt st i) R = some ws ∧ ∀ s : Nat, (s : Int) < w → ws.getD s 0 = m (i * w + s)
  nears : ∀ (k : Nat) n, st[k]? = some n → n.num = k ∧ n.width = w ∧ n.room = room ∧ NI n ∧ (∀ d ∈ n.q, n.line d < (hm.length : Int)) ∧ ∀ l ∈ keys n.st, 0 ≤ l ∧ l < (hm.length : Int)
  lets : ∀ l ∈ R, 0 ≤ l.2.1 ∧ l.2.1 < (hm.length : Int) ∧ 0 ≤ l.2.2.1 ∧ l.2.2.1 < (st.length : Int) ∧ (isRq l.1 || isAn l.1 || isNr l.1) = true
section
variable {w room : Int} {st : List NS} {hm : List HM} {R : List Lt} {m : Int → Int}
theorem stAt_set {k : Nat} {n : NS} (hk : k < st.length) (i j : Nat) : stAt (st.set k n) i j = upd (stAt st i) k (n.at i) j := by
  unfold stAt upd
  by_cases e : j = k
  · subst e
    rw [List.getElem?_set_self hk, if_pos rfl]
  · rw [List.getElem?_set_ne (fun x => e x.symm), if_neg e]
theorem stAt_get {k i : Nat} {n : NS} (h : st[k]? = some n) : stAt st i k = n.at i := by unfold stAt; rw [h]
theorem get_lt' {α : Type} {l : List α} {i : Nat} {x : α} (h : l[i]? = some x) : i < l.length := (List.getElem?_eq_some_iff.mp h).1
theorem set_get' {α : Type} {l : List α} {i j : Nat} {x y z : α} (h : l[i]? = some x) (h2 : (l.set i y)[j]? = some z) : (j = i ∧ z = y) ∨ (j ≠ i ∧ l[j]? = some z) := by
  by_cases e : j = i
  · subst e
    rw [List.getElem?_set_self (get_lt' h)] at h2
    exact .inl ⟨rfl, (Option.some.inj h2).symm⟩
  · rw [List.getElem?_set_ne (fun x => e x.symm)] at h2
    exact .inr ⟨e, h2⟩
theorem at_first {n : NS} {d : Dd} {ws : List Int} (hw : (n.at (n.line d)).words = some ws) (l : Int) : (n.first d).at l = if n.line d = l ∧ d.wants = "write" then .wr (some (ws.set (n.spot d) (d.behind (n.found d)))) else n.at l := by
  by_cases c : d.wants = "write"
  · have := at_mk (n := n) (m := n.first d) (l := n.line d) (k := l) (s := .wr (some (((n.at (n.line d)).words.getD []).set (n.spot d) (d.behind (n.found d))))) (by unfold NS.first; simp [c])
    rw [this, hw]
    simp [c]
  · rw [at_st (n := n) (by unfold NS.first; simp [c])]
    simp [c]
theorem memStep_read {d : Dd} (h : d.wants = "read") : memStep m d = m := by
  funext a
  have hb : ∀ x, d.behind x = x := fun x => by cases d <;> simp [Dd.wants] at h; rfl
  unfold memStep
  rw [hb]
  by_cases e : a = d.addr
  · rw [if_pos e, e]
  · rw [if_neg e]
theorem addr_line {w a : Int} {i s : Nat} (hw : 1 ≤ w) (ha : 0 ≤ a) (hs : (s : Int) < w) : (i : Int) * w + s = a ↔ a / w = i ∧ a % w = s := by
  constructor
  · intro e
    subst e
    have h1 : ((i : Int) * w + s) / w = i := by
      rw [Int.add_comm, Int.add_mul_ediv_right _ _ (by omega), Int.ediv_eq_zero_of_lt (by omega) hs]; omega
    have h2 : ((i : Int) * w + s) % w = s := by
      rw [Int.add_comm, Int.add_mul_emod_self_right, Int.emod_eq_of_lt (by omega) hs]
    exact ⟨h1, h2⟩
  · rintro ⟨h1, h2⟩
    have := Int.emod_add_mul_ediv a w
    rw [h1, h2, Int.mul_comm] at this
    omega
theorem fit_may_ne {n : NS} {d : Dd} (hf : n.fit d = true) : (n.at (n.line d)).may ≠ "none" := by
  unfold NS.fit at hf
  simp only [Bool.or_eq_true, decide_eq_true_eq] at hf
  rcases hf with hf | hf <;> rw [hf]
  · simp
  · rcases wants_or d with q | q <;> rw [q] <;> simp
theorem V_first (V : VInv w room st hm R m) {k : Nat} {n : NS} {d : Dd} {r : List Dd} (hk : st[k]? = some n) (hq : n.q = d :: r) (hf : n.fit d = true) : n.found d = m d.addr ∧ VInv w room (st.set k (n.first d)) hm R (memStep m d) := by
  obtain ⟨e1, e2, e3, ni, ql, kl⟩ := V.nears k n hk
  obtain ⟨ws, hw, hl, hwr⟩ := fit_words ni hf
  have hkl := get_lt' hk
  have hmay := fit_may_ne hf
  have wpos := ni.wpos
  have ha := ni.addr d (by rw [hq]; exact List.mem_cons_self)
  have hln := ql d (by rw [hq]; exact List.mem_cons_self)
  have hl0 : 0 ≤ n.line d := Int.ediv_nonneg ha (by omega)
  obtain ⟨i, hi⟩ := Int.eq_ofNat_of_zero_le hl0
  have hi : n.line d = (i : Int) := hi
  have hil : i < hm.length := by omega
  obtain ⟨h, hh⟩ : ∃ h, hm[i]? = some h := ⟨hm[i], by simp [hil]⟩
  obtain ⟨l1, l2, l3, cs, l4, l5⟩ := V.lines i h hh
  have hS : stAt st i k = n.at (n.line d) := by rw [stAt_get hk, hi]
  have hkn : k < h.n := by omega
  have hv := line_val l3 hkn (by rw [hS]; exact hmay)
  rw [hS, hw, l4] at hv
  have hcs : ws = cs := Option.some.inj hv
  subst hcs
  obtain ⟨sp1, sp2⟩ := spot_lt ni (d := d)
  have spw : (n.spot d : Int) < w := by omega
  have addrE : (i : Int) * w + (n.spot d : Int) = d.addr := (addr_line (by omega) ha spw).mpr ⟨by rw [← hi, ← e2]; rfl, by rw [← e2]; exact sp2.symm⟩
  have found : n.found d = m d.addr := by
    unfold NS.found
    rw [hw, Option.getD_some, l5 _ spw, addrE]
  refine ⟨found, ?_, ?_, ?_⟩
  · intro i2 h2 hh2
    obtain ⟨a1, a2, a3, cs2, a4, a5⟩ := V.lines i2 h2 hh2
    refine ⟨a1, by rw [List.length_set]; exact a2, ?_⟩
    have hst : ∀ j, stAt (st.set k (n.first d)) i2 j = upd (stAt st i2) k ((n.first d).at i2) j := fun j => stAt_set hkl i2 j
    by_cases c : n.line d = (i2 : Int) ∧ d.wants = "write"
    · have : i2 = i := by omega
      subst this
      rw [hh] at hh2; cases hh2
      have hwk := hwr c.2
      obtain ⟨b1, b2⟩ := line_put (ws' := ws.set (n.spot d) (d.behind (n.found d))) l3 hkn (hS.trans hwk) (by rw [List.length_set]; omega)
      have fE : (n.first d).at i2 = .wr (some (ws.set (n.spot d) (d.behind (n.found d)))) := by rw [at_first hw, if_pos c]
      obtain ⟨g1, g2⟩ := b1.congr (S' := stAt (st.set k (n.first d)) i2) (R' := R) (fun j _ => by rw [hst, fE]) (fun _ => rfl) (fun _ => rfl) (fun _ => rfl)
      refine ⟨g1, _, g2.trans b2, fun s hs => ?_⟩
      unfold memStep
      by_cases es : s = n.spot d
      · subst es
        rw [addrE, if_pos rfl, ← found, List.getD_eq_getElem?_getD, List.getElem?_set_self (by omega)]; rfl
      · rw [if_neg (fun x => es (by
          have := ((addr_line (by omega) ha hs).mp x).2
          rw [← e2, ← sp2] at this; omega)), List.getD_eq_getElem?_getD, List.getElem?_set_ne (fun x => es x.symm), ← List.getD_eq_getElem?_getD]
        exact l5 s hs
    · have fE : (n.first d).at i2 = n.at i2 := by rw [at_first hw, if_neg c]
      obtain ⟨g1, g2⟩ := a3.congr (S' := stAt (st.set k (n.first d)) i2) (R' := R) (fun j _ => by
        rw [hst, fE]
        unfold upd
        split
        · rename_i e; subst e; exact (stAt_get hk).symm
        · rfl) (fun _ => rfl) (fun _ => rfl) (fun _ => rfl)
      refine ⟨g1, cs2, g2.trans a4, fun s hs => ?_⟩
      rcases wants_or d with q | q
      · rw [memStep_read q]; exact a5 s hs
      · unfold memStep
        rw [if_neg (fun x => c ⟨by
          have := ((addr_line (by omega) ha hs).mp x).1
          rw [← e2] at this; exact this, q⟩)]
        exact a5 s hs
  · intro k2 n2 hk2
    rcases set_get' hk hk2 with ⟨x1, x2⟩ | ⟨x1, x2⟩
    · subst x1 x2
      refine ⟨e1, e2, e3, ni_first ni hq hf, fun d' hd' => ql d' (List.mem_of_mem_tail hd'), fun l hl2 => ?_⟩
      have hl2 : l ∈ keys (if d.wants = "write" then mPut (n.line d) (.wr (some (((n.at (n.line d)).words.getD []).set (n.spot d) (d.behind (n.found d))))) n.st else n.st) := hl2
      split at hl2
      · rw [keys_put] at hl2
        have hk3 := at_key (n := n) (l := n.line d) (fun e => hmay (by rw [e]; rfl))
        rw [if_pos hk3] at hl2
        exact kl l hl2
      · exact kl l hl2
    · exact V.nears k2 n2 x2
  · intro l hl2
    rw [List.length_set]
    exact V.lets l hl2
theorem V_one (V : VInv w room st hm R m) {k : Nat} {n n' : NS} {i : Nat} {s : Hs} {wd : String} {x : WD} (hk : st[k]? = some n) (hi : i < hm.length) (hw : isRq wd = true) (hn : n'.num = n.num ∧ n'.width = n.width ∧ n'.room = n.room ∧ n'.q = n.q) (ni' : NI n')
    (hst : n'.st = mPut (i : Int) s n.st)
    (tr : ∀ F ρ tn an rq du, PairOk F (n.at i) ρ tn an rq du → rq = [] ∧ PairOk F s ρ tn an [(wd, x)] du) (pvE : ∀ F tn an rq du, PairOk F (n.at i) .W tn an rq du → pv F s tn an = pv F (n.at i) tn an) :
    VInv w room (st.set k n') hm (R ++ [(wd, (i : Int), (k : Int), x)]) m := by
  obtain ⟨e1, e2, e3, ni, ql, kl⟩ := V.nears k n hk
  have hkl := get_lt' hk
  refine ⟨fun i2 h2 hh2 => ?_, fun k2 n2 hk2 => ?_, fun l hl2 => ?_⟩
  · obtain ⟨a1, a2, a3, cs2, a4, a5⟩ := V.lines i2 h2 hh2
    refine ⟨a1, by rw [List.length_set]; exact a2, ?_⟩
    have hs2 : ∀ j, stAt (st.set k n') i2 j = upd (stAt st i2) k (n'.at i2) j := fun j => stAt_set hkl i2 j
    have hS : stAt st i2 k = n.at i2 := stAt_get hk
    by_cases c : i2 = i
    · subst c
      have fE : n'.at i2 = s := by rw [at_mk hst, if_pos rfl]
      obtain ⟨b1, b2⟩ := line_ask (s := s) (wd := wd) (x := x) a3 (k := k) (by omega) hw (fun tn an rq du p => tr _ _ tn an rq du (by rw [hS] at p; exact p)) (fun tn an rq du p => by rw [hS] at p ⊢; exact pvE _ tn an rq du p)
      rw [a1] at b1 b2
      obtain ⟨g1, g2⟩ := b1.congr (S' := stAt (st.set k n') i2) (R' := R ++ [(wd, (i2 : Int), (k : Int), x)]) (fun j _ => by rw [hs2, fE]) (fun _ => rfl) (fun _ => rfl) (fun _ => rfl)
      exact ⟨g1, cs2, (g2.trans b2).trans a4, a5⟩
    · have fE : n'.at i2 = n.at i2 := by rw [at_mk hst, if_neg (by omega)]
      have so : ∀ (p : String → Bool) (j : Int), sel p (R ++ [(wd, (i : Int), (k : Int), x)]) h2.line j = sel p R h2.line j := fun p j => sel_app_other (fun y hy z => by
        rw [List.mem_singleton.mp hy] at z
        have := z.1
        rw [a1] at this
        dsimp only at this
        omega)
      obtain ⟨g1, g2⟩ := a3.congr (S' := stAt (st.set k n') i2) (R' := R ++ [(wd, (i : Int), (k : Int), x)]) (fun j _ => by
        rw [hs2, fE]
        unfold upd
        split
        · rename_i e; subst e; exact hS.symm
        · rfl) (so _) (so _) (so _)
      exact ⟨g1, cs2, g2.trans a4, a5⟩
  · rcases set_get' hk hk2 with ⟨x1, x2⟩ | ⟨x1, x2⟩
    · subst x1 x2
      refine ⟨hn.1.trans e1, hn.2.1.trans e2, hn.2.2.1.trans e3, ni', fun d' hd' => ?_, fun l hl2 => ?_⟩
      · rw [hn.2.2.2] at hd'
        have := ql d' hd'
        unfold NS.line at this ⊢
        rw [hn.2.1]; exact this
      · rw [hst, keys_put] at hl2
        split at hl2
        · exact kl l hl2
        · rcases List.mem_append.mp hl2 with y | y
          · exact kl l y
          · rw [List.mem_singleton.mp y]; omega
    · exact V.nears k2 n2 x2
  · rw [List.length_set]
    rcases List.mem_append.mp hl2 with y | y
    · exact V.lets l y
    · rw [List.mem_singleton.mp y]
      exact ⟨by show 0 ≤ (i : Int); omega, by show (i : Int) < _; omega, by show 0 ≤ (k : Int); omega, by show (k : Int) < _; omega, by rw [hw]; rfl⟩
theorem V_same (V : VInv w room st hm R m) {k : Nat} {n : NS} (hk : st[k]? = some n) : VInv w room (st.set k n) hm (R ++ []) m := by
  have : st.set k n = st := by
    apply List.ext_getElem?
    intro j
    by_cases e : j = k
    · subst e; rw [List.getElem?_set_self (get_lt' hk), hk]
    · rw [List.getElem?_set_ne (fun x => e x.symm)]
  rw [this, List.append_nil]; exact V
theorem V_send (V : VInv w room st hm R m) {k : Nat} {n : NS} {d : Dd} {r : List Dd} (hk : st[k]? = some n) (hq : n.q = d :: r) (hf : n.fit d = false) : VInv w room (st.set k (n.sendFor d).2) hm (R ++ (n.sendFor d).1) m := by
  obtain ⟨e1, e2, e3, ni, ql, kl⟩ := V.nears k n hk
  obtain ⟨s1, s2, s3, s4, s5, s6, s7⟩ := ni_send ni hq hf
  have wpos := ni.wpos
  have ha := ni.addr d (by rw [hq]; exact List.mem_cons_self)
  have hln := ql d (by rw [hq]; exact List.mem_cons_self)
  have hl0 : 0 ≤ n.line d := Int.ediv_nonneg ha (by omega)
  obtain ⟨i, hi⟩ := Int.eq_ofNat_of_zero_le hl0
  have hi : n.line d = (i : Int) := hi
  have hil : i < hm.length := by omega
  have hsame : n.sendFor d = ([], n) → VInv w room (st.set k (n.sendFor d).2) hm (R ++ (n.sendFor d).1) m := fun e => by rw [e]; exact V_same V hk
  have one : ∀ (i : Nat) (s : Hs) (wd : String) (x : WD) (n' : NS), n.sendFor d = ([(wd, (i : Int), n.num, x)], n') → n'.st = mPut (i : Int) s n.st → i < hm.length → isRq wd = true → (∀ F ρ tn an rq du, PairOk F (n.at i) ρ tn an rq du → rq = [] ∧ PairOk F s ρ tn an [(wd, x)] du) → (∀ F tn an rq du, PairOk F (n.at i) .W tn an rq du → pv F s tn an = pv F (n.at i) tn an) → VInv w room (st.set k (n.sendFor d).2) hm (R ++ (n.sendFor d).1) m := by
    intro i s wd x n' e hst hi hw tr pvE
    rw [e] at s1 s3 s5 s6 s7 ⊢
    rw [e1]
    exact V_one V hk hi hw ⟨s5, s6, s7, s3⟩ s1 hst tr pvE
  by_cases c1 : (n.at (n.line d)).kind = "reader"
  · obtain ⟨y, hy⟩ := kind_reader c1
    have ok := at_ok ni.vals (l := n.line d) (by rw [hy]; simp)
    rw [hy] at ok
    obtain ⟨ws, rfl, hwl⟩ := ok
    refine one i (.wantW (some ws)) "write" none _ (by unfold NS.sendFor; rw [if_pos c1, hi]) (by rw [← hi, hy]; rfl) hil rfl ?_ ?_
    · intro F ρ tn an rq du p
      rw [← hi, hy] at p
      exact p_send_wr p rfl
    · intro F tn an rq du p
      rw [← hi, hy]
      rfl
  · by_cases c2 : (n.at (n.line d)).kind = "away"
    · have haw := kind_away.mp c2
      have haw' : n.at i = .away := by rw [← hi]; exact haw
      by_cases c3 : n.room ≤ (n.st.length : Int)
      · have eg : n.sendFor d = n.giveBack := by unfold NS.sendFor; rw [if_neg c1, if_neg (by simpa using c2), if_pos c3]
        by_cases hlv : n.st.any (fun q => leaving q.2) = true
        · exact hsame (by rw [eg]; unfold NS.giveBack; rw [if_pos hlv])
        · have hlv' : n.st.any (fun q => leaving q.2) = false := by simpa using hlv
          cases hu : n.use with
          | nil => exact absurd hu (full_use ni hq haw c3 hlv')
          | cons l u =>
            have hm' : (n.at l).may ≠ "none" := ni.useA l (by rw [hu]; exact List.mem_cons_self)
            have hna : n.at l ≠ .away := fun e => hm' (by rw [e]; rfl)
            have hkl := kl l (at_key hna)
            obtain ⟨j, hj⟩ := Int.eq_ofNat_of_zero_le hkl.1
            have hj : l = (j : Int) := hj
            subst hj
            by_cases ck : (n.at j).kind = "writer"
            · obtain ⟨y, hy⟩ := kind_writer ck
              refine one j (.lvW y) "back" y _ (by rw [eg]; unfold NS.giveBack; rw [if_neg hlv, hu]; dsimp only; rw [if_pos ck, hy]; rfl) rfl (by omega) rfl ?_ ?_
              · intro F ρ tn an rq du p
                rw [hy] at p
                exact p_back_w p
              · intro F tn an rq du p
                rw [hy]; rfl
            · refine one j .lvR "back" none _ (by rw [eg]; unfold NS.giveBack; rw [if_neg hlv, hu]; dsimp only; rw [if_neg ck]) rfl (by omega) rfl ?_ ?_
              · intro F ρ tn an rq du p
                cases hs : n.at j with
                | rd y => rw [hs] at p; exact p_back_r p
                | wr y => rw [hs] at ck; exact absurd rfl ck
                | wantW y =>
                  exfalso
                  have := (only_want ni hq (l := (j : Int)) (by rw [hs]; rfl)).1
                  rw [← this, haw] at hs; cases hs
                | _ => rw [hs] at hm'; exact absurd rfl hm'
              · intro F tn an rq du p
                cases hs : n.at j with
                | rd y =>
                  rw [hs] at p
                  cases p with
                  | dRd => rfl
                | wr y => rw [hs] at ck; exact absurd rfl ck
                | wantW y =>
                  exfalso
                  have := (only_want ni hq (l := (j : Int)) (by rw [hs]; rfl)).1
                  rw [← this, haw] at hs; cases hs
                | _ => exact absurd (by simp [hs, Hs.may]) hm'
      · by_cases c4 : d.wants = "read"
        · refine one i .wantR "read" none _ (by unfold NS.sendFor; rw [if_neg c1, if_neg (by simpa using c2), if_neg c3, if_pos c4, hi]) (by rw [← hi]) hil rfl ?_ ?_
          · intro F ρ tn an rq du p
            rw [haw'] at p
            exact ⟨(p_send_a p).1, (p_send_a p).2.1⟩
          · intro F tn an rq du p
            rw [haw'] at p ⊢
            cases p with
            | yA => rfl
        · refine one i (.wantW none) "write" none _ (by unfold NS.sendFor; rw [if_neg c1, if_neg (by simpa using c2), if_neg c3, if_neg c4, hi]) (by rw [← hi]) hil rfl ?_ ?_
          · intro F ρ tn an rq du p
            rw [haw'] at p
            exact ⟨(p_send_a p).1, (p_send_a p).2.2⟩
          · intro F tn an rq du p
            rw [haw'] at p ⊢
            cases p with
            | yA => rfl
    · exact hsame (by unfold NS.sendFor; rw [if_neg c1, if_pos (by simpa using c2)])
theorem set_set' {α : Type} (l : List α) (k : Nat) (x y : α) : (l.set k x).set k y = l.set k y := List.set_set ..
theorem V_work : ∀ (q : List Dd) {st : List NS} {m : Int → Int} {k : Nat} {n : NS}, VInv w room st hm R m → st[k]? = some n → n.q = q → ∃ rows, (NS.work q n).2.done = n.done ++ rows ∧ goodRows m rows ∧ VInv w room (st.set k (NS.work q n).2) hm (R ++ (NS.work q n).1) (rowsMem m rows)
  | [], st, m, k, n, V, hk, hq => ⟨[], by simp [NS.work], trivial, V_same V hk⟩
  | d :: r, st, m, k, n, V, hk, hq => by
    unfold NS.work
    cases hf : n.fit d with
    | true =>
      rw [if_pos rfl]
      obtain ⟨f1, f2⟩ := V_first V hk hq hf
      obtain ⟨rows, w1, w2, w3⟩ := V_work r (n := n.first d) (k := k) f2 (List.getElem?_set_self (get_lt' hk)) (by show n.q.tail = r; rw [hq]; rfl)
      rw [set_set'] at w3
      refine ⟨(d, n.found d) :: rows, ?_, ⟨f1, w2⟩, w3⟩
      rw [w1]
      show (n.done ++ [(d, n.found d)]) ++ rows = _
      simp
    | false =>
      rw [if_neg (by simp)]
      refine ⟨[], ?_, trivial, V_send V hk hq hf⟩
      rw [(ni_send (V.nears k n hk).2.2.2.1 hq hf).2.2.2.1]; simp
end
end PG
namespace PG
open PySem L2 VL
section
variable {w room : Int} {st : List NS} {hm : List HM} {R : List Lt} {m : Int → Int} {h : HM}
def homeL (h : HM) (x : Lt) : Prop := x.2.1 = h.line ∧ inR h.n x ∧ isNr x.1 = true
theorem grant_lets {t : Lt} (ht : inR h.n t) : homeL h (h.grant t).1 := by
  unfold HM.grant
  split
  · exact ⟨rfl, ht, rfl⟩
  · exact ⟨rfl, ht, rfl⟩
theorem start_lets (wf : h.WF) {l : Lt} (hl : inR h.n l) : ∀ x ∈ (h.start l).1, homeL h x := by
  have g : ∀ x ∈ [(({ h with task := some l } : HM).grant l).1], homeL h x := fun x hx => by
    rw [List.mem_singleton.mp hx]
    exact grant_lets (h := { h with task := some l }) hl
  unfold HM.start
  split
  · intro x hx
    rw [List.mem_singleton.mp hx]; exact ⟨rfl, hl, rfl⟩
  · dsimp only
    split
    · split
      · exact g
      · intro x hx
        obtain ⟨o, ho, rfl⟩ := List.mem_map.mp hx
        obtain ⟨i, i1, i2⟩ := others_lt wf ho
        exact ⟨rfl, by unfold inR; dsimp only; omega, rfl⟩
    · split
      · rename_i o ho
        intro x hx
        rw [List.mem_singleton.mp hx]
        have := wf.ow o ho
        exact ⟨rfl, by unfold inR; dsimp only; omega, rfl⟩
      · exact g
theorem drain_lets : ∀ (r : List Lt) {h : HM}, h.WF → (∀ l ∈ r, inR h.n l) → (∀ x ∈ (HM.drain r h).1, homeL h x) ∧ (HM.drain r h).2.line = h.line ∧ (HM.drain r h).2.n = h.n
  | [], h, wf, hr => ⟨(fun x hx => by cases hx), rfl, rfl⟩
  | l :: r, h, wf, hr => by
    have hl := hr l List.mem_cons_self
    unfold HM.drain
    split
    · exact ⟨(fun x hx => by cases hx), rfl, rfl⟩
    · obtain ⟨a, b, c⟩ := drain_lets r (start_wf wf hl) (fun x hx => by rw [start_n]; exact hr x (List.mem_cons_of_mem _ hx))
      refine ⟨fun x hx => ?_, b.trans (start_line l), c.trans (start_n l)⟩
      rcases List.mem_append.mp hx with q | q
      · exact start_lets wf hl x q
      · have := a x q
        unfold homeL at this ⊢
        rw [start_line, start_n] at this; exact this
theorem take_keep (wf : h.WF) (l : Lt) : (h.take l).q = h.q ∧ (h.take l).n = h.n ∧ (h.take l).task = h.task ∧ (h.take l).line = h.line ∧ (h.take l).WF := by
  unfold HM.take
  dsimp only
  split
  · refine ⟨rfl, rfl, rfl, rfl, ?_, wf.le, fun o ho => by cases ho⟩
    dsimp only
    split <;> simp [wf.len]
  · exact ⟨rfl, rfl, rfl, rfl, strike_wf (h := { h with far := if h.ow = some l.2.2.1.toNat then l.2.2.2 else h.far, due := h.due.erase (l.1, l.2.2.1) }) ⟨wf.len, wf.le, wf.ow⟩ _⟩
theorem come_lets (ok : h.Ok) {l : Lt} (hl : inR h.n l) : (∀ x ∈ (h.come l).1, homeL h x) ∧ (h.come l).2.line = h.line ∧ (h.come l).2.n = h.n := by
  unfold HM.come
  split
  · exact drain_lets (h.q ++ [l]) ok.wf fun x hx => by
      rcases List.mem_append.mp hx with q | q
      · exact (ok.qr x q).2
      · rw [List.mem_singleton.mp q]; exact hl
  · split
    · exact drain_lets (h := { h with task := none, due := [] }) h.q ⟨ok.wf.len, ok.wf.le, ok.wf.ow⟩ fun x hx => (ok.qr x hx).2
    · obtain ⟨t1, t2, t3, t4, t5⟩ := take_keep ok.wf l
      dsimp only
      split
      · split
        · rename_i t ht
          have htr := (ok.tr t (by rw [← t3]; exact ht)).2
          have ht2 : inR (h.take l).n t := by rw [t2]; exact htr
          obtain ⟨a, b, c⟩ := drain_lets (h.take l).q (grant_wf t5 ht2) (fun x hx => by rw [grant_n, t2]; rw [t1] at hx; exact (ok.qr x hx).2)
          refine ⟨fun x hx => ?_, b.trans ((grant_line t).trans t4), c.trans ((grant_n t).trans t2)⟩
          rcases List.mem_cons.mp hx with q | q
          · rw [q]
            have := grant_lets (h := h.take l) ht2
            unfold homeL at this ⊢
            rw [t4, t2] at this; exact this
          · have := a x q
            unfold homeL at this ⊢
            rw [grant_line, grant_n, t4, t2] at this; exact this
        · exact ⟨(fun x hx => by cases hx), t4, t2⟩
      · exact ⟨(fun x hx => by cases hx), t4, t2⟩
theorem V_met {A B : List Lt} {l : Lt} (V : VInv w room st hm (A ++ l :: B) m) (hw : isNr l.1 = true) (hset : ∀ (k : Nat) n, st[k]? = some n → Settled n) : ∃ (k : Nat) (n : NS) (ans : List Lt) (n' : NS), l.2.2.1 = k ∧ st[k]? = some n ∧ n.met l = some (ans, n') ∧ goodW w l ∧ VInv w room (st.set k n') hm (A ++ B ++ ans) m := by
  obtain ⟨b1, b2, b3, b4, _⟩ := V.lets l (by simp)
  obtain ⟨i, hi⟩ := Int.eq_ofNat_of_zero_le b1
  obtain ⟨k, hk⟩ := Int.eq_ofNat_of_zero_le b3
  have hi : l.2.1 = (i : Int) := hi
  have hk : l.2.2.1 = (k : Int) := hk
  have hil : i < hm.length := by omega
  have hkl : k < st.length := by omega
  obtain ⟨h, hh⟩ : ∃ h, hm[i]? = some h := ⟨hm[i], by simp [hil]⟩
  obtain ⟨n, hn⟩ : ∃ n, st[k]? = some n := ⟨st[k], by simp [hkl]⟩
  obtain ⟨e1, e2, e3, ni, ql, kl⟩ := V.nears k n hn
  obtain ⟨l1, l2, l3, cs, l4, l5⟩ := V.lines i h hh
  obtain ⟨s, a, m1, m2, m3, m4⟩ := line_met l3 (by rw [hi, l1]) hk (by omega) hw
  have hS : stAt st i k = n.at i := stAt_get hn
  rw [hS] at m1
  have hmet : n.met l = some (ansL l.2.1 n.num a, n.put l.2.1 s) := by
    unfold NS.met
    rw [hi, m1]
    cases a <;> rfl
  have hna : n.at i ≠ .away := fun e => by rw [e] at m1; cases m1
  refine ⟨k, n, ansL l.2.1 n.num a, n.put l.2.1 s, hk, hn, hmet, m2, ?_⟩
  have nm := ni_met ni hmet (hset k n hn) (by rw [e2]; exact m2)
  have hansL : ∀ x ∈ ansL l.2.1 n.num a, x.2.1 = (i : Int) ∧ x.2.2.1 = (k : Int) ∧ isAn x.1 = true := fun x hx => by
    cases a with
    | none => cases hx
    | some a =>
      have : x = (a.1, l.2.1, n.num, a.2) := List.mem_singleton.mp hx
      subst this
      refine ⟨hi, e1, ?_⟩
      rcases met_word m1 with e | e | e <;> rw [e] <;> decide
  have ansE : ansL l.2.1 n.num a = ansL h.line k a := by rw [hi, l1, e1]
  refine ⟨fun i2 h2 hh2 => ?_, fun k2 n2 hk2 => ?_, fun x hx => ?_⟩
  · obtain ⟨a1, a2, a3, cs2, a4, a5⟩ := V.lines i2 h2 hh2
    refine ⟨a1, by rw [List.length_set]; exact a2, ?_⟩
    have hs2 : ∀ j, stAt (st.set k (n.put l.2.1 s)) i2 j = upd (stAt st i2) k ((n.put l.2.1 s).at i2) j := fun j => stAt_set hkl i2 j
    have atE : (n.put l.2.1 s).at i2 = if (i : Int) = i2 then s else n.at i2 := by rw [at_put ni.kn, hi]
    by_cases c : i2 = i
    · subst c
      rw [hh] at hh2; cases hh2
      rw [if_pos rfl] at atE
      obtain ⟨g1, g2⟩ := m3.congr (S' := stAt (st.set k (n.put l.2.1 s)) i2) (R' := A ++ B ++ ansL l.2.1 n.num a) (fun j _ => by rw [hs2, atE]) (fun _ => by rw [ansE]) (fun _ => by rw [ansE]) (fun _ => by rw [ansE])
      exact ⟨g1, cs2, (g2.trans m4).trans a4, a5⟩
    · rw [if_neg (by omega)] at atE
      have so : ∀ (p : String → Bool) (j : Int), sel p (A ++ B ++ ansL l.2.1 n.num a) h2.line j = sel p (A ++ l :: B) h2.line j := fun p j => by
        rw [sel_app_other (fun x hx y => by have := (hansL x hx).1; have := y.1; rw [a1] at this; omega)]
        exact (sel_other (by intro y; have := y.1; rw [hi, a1] at this; omega)).symm
      obtain ⟨g1, g2⟩ := a3.congr (S' := stAt (st.set k (n.put l.2.1 s)) i2) (R' := A ++ B ++ ansL l.2.1 n.num a) (fun j _ => by
        rw [hs2, atE]
        unfold upd
        split
        · rename_i e; subst e; exact (stAt_get hn).symm
        · rfl) (so _) (so _) (so _)
      exact ⟨g1, cs2, g2.trans a4, a5⟩
  · rcases set_get' hn hk2 with ⟨x1, x2⟩ | ⟨x1, x2⟩
    · subst x1 x2
      refine ⟨nm.2.1.trans e1, nm.2.2.1.trans e2, nm.2.2.2.1.trans e3, nm.1, ql, fun l' hl' => ?_⟩
      have hl' : l' ∈ keys (if s.kind = "away" then mDel l.2.1 n.st else mPut l.2.1 s n.st) := hl'
      split at hl'
      · rw [keys_del] at hl'
        exact kl l' (List.mem_of_mem_erase hl')
      · rw [keys_put, if_pos (by rw [hi]; exact at_key hna)] at hl'
        exact kl l' hl'
    · exact V.nears k2 n2 x2
  · rw [List.length_set]
    rcases List.mem_append.mp hx with y | y
    · exact V.lets x (by
        rcases List.mem_append.mp y with z | z
        · exact List.mem_append_left _ z
        · exact List.mem_append_right _ (List.mem_cons_of_mem _ z))
    · obtain ⟨z1, z2, z3⟩ := hansL x y
      exact ⟨by omega, by omega, by omega, by omega, by rw [z3]; simp⟩
theorem V_home {A B : List Lt} {l : Lt} (V : VInv w room st hm (A ++ l :: B) m) (hw : isNr l.1 = false) : ∃ (i : Nat) (h : HM), l.2.1 = i ∧ hm[i]? = some h ∧ h.Ok ∧ h.awaited l = true ∧ (l.1 = "lowered" → h.ow.isSome = true) ∧ l.1 ∈ ["read", "write", "back", "lowered", "yielded", "took"] ∧ VInv w room st (hm.set i (h.come l).2) (A ++ B ++ (h.come l).1) m := by
  obtain ⟨b1, b2, b3, b4, b5⟩ := V.lets l (by simp)
  obtain ⟨i, hi⟩ := Int.eq_ofNat_of_zero_le b1
  obtain ⟨k, hk⟩ := Int.eq_ofNat_of_zero_le b3
  have hi : l.2.1 = (i : Int) := hi
  have hk : l.2.2.1 = (k : Int) := hk
  have hil : i < hm.length := by omega
  obtain ⟨h, hh⟩ : ∃ h, hm[i]? = some h := ⟨hm[i], by simp [hil]⟩
  obtain ⟨l1, l2, l3, cs, l4, l5⟩ := V.lines i h hh
  have hkn : k < h.n := by omega
  have hw6 : l.1 ∈ ["read", "write", "back", "lowered", "yielded", "took"] := by
    rw [hw, Bool.or_false] at b5
    simp only [isRq, isAn, Bool.or_eq_true, decide_eq_true_eq, List.mem_cons, List.not_mem_nil, or_false] at b5
    simp only [List.mem_cons, List.not_mem_nil, or_false]
    rcases b5 with (e | e | e) | (e | e | e) <;> simp [e]
  obtain ⟨aw1, aw2⟩ := line_awaited l3.toLineInv (by rw [hi, l1]) hk hkn hw6
  obtain ⟨c1, c2⟩ := line_come l3 (by rw [hi, l1]) hk hkn hw6
  have hin : inR h.n l := by unfold inR; omega
  obtain ⟨cl, cn1, cn2⟩ := come_lets l3.ok hin
  refine ⟨i, h, hi, hh, l3.ok, aw1, aw2, hw6, fun i2 h2 hh2 => ?_, fun k2 n2 hk2 => ?_, fun x hx => ?_⟩
  · rcases set_get' hh hh2 with ⟨x1, x2⟩ | ⟨x1, x2⟩
    · subst x1 x2
      exact ⟨cn1.trans l1, cn2.trans l2, c1, cs, c2.trans l4, l5⟩
    · obtain ⟨a1, a2, a3, cs2, a4, a5⟩ := V.lines i2 h2 x2
      have so : ∀ (p : String → Bool) (j : Int), sel p (A ++ B ++ (h.come l).1) h2.line j = sel p (A ++ l :: B) h2.line j := fun p j => by
        rw [sel_app_other (fun x hx y => by have := (cl x hx).1; have := y.1; rw [a1] at this; omega)]
        exact (sel_other (by intro y; have := y.1; rw [hi, a1] at this; omega)).symm
      obtain ⟨g1, g2⟩ := a3.congr (S' := stAt st i2) (R' := A ++ B ++ (h.come l).1) (fun _ _ => rfl) (so _) (so _) (so _)
      exact ⟨a1, a2, g1, cs2, g2.trans a4, a5⟩
  · obtain ⟨e1, e2, e3, ni, ql, kl⟩ := V.nears k2 n2 hk2
    exact ⟨e1, e2, e3, ni, by rw [List.length_set]; exact ql, by rw [List.length_set]; exact kl⟩
  · rw [List.length_set]
    rcases List.mem_append.mp hx with y | y
    · exact V.lets x (by
        rcases List.mem_append.mp y with z | z
        · exact List.mem_append_left _ z
        · exact List.mem_append_right _ (List.mem_cons_of_mem _ z))
    · obtain ⟨z1, z2, z3⟩ := cl x y
      have := z2.1
      have := z2.2
      exact ⟨by omega, by omega, by omega, by omega, by rw [z3]; simp⟩
end
end PG
namespace PG
open PySem L2 VL
def road (l : Lt) : Int × Int × Bool := (l.2.1, l.2.2.1, !isNr l.1)
def isWd (x : String) : Bool := isRq x || isAn x || isNr x
theorem to_home_ok {x : String} (h : isWd x = true) : g_to_home x = some (!isNr x) := by
  unfold isWd isRq isAn isNr at h
  simp only [Bool.or_eq_true, decide_eq_true_eq, List.mem_cons, List.not_mem_nil, or_false] at h
  unfold g_to_home isNr
  rcases h with ((rfl | rfl | rfl) | (rfl | rfl | rfl)) | (rfl | rfl | rfl | rfl | rfl) <;> simp
def mayC (o : Bool) : List (Int × Lt) → List (Int × Int × Bool) → List Int
  | [], _ => []
  | x :: r, s => (if (!o || !decide (road x.2 ∈ s)) = true then [x.1] else []) ++ mayC o r (road x.2 :: s)
theorem may_mem {o : Bool} : ∀ {u : List (Int × Lt)} {s : List (Int × Int × Bool)} {a : Int}, a ∈ mayC o u s → a ∈ keys u
  | [], _, _, h => by cases h
  | x :: r, s, a, h => by
    rw [mayC] at h
    rcases List.mem_append.mp h with q | q
    · split at q
      · rw [List.mem_singleton.mp q]; exact List.mem_cons_self
      · cases q
    · exact List.mem_cons_of_mem _ (may_mem q)
theorem del_split {α β : Type} [DecidableEq α] {a : α} {b : β} : ∀ {A B : List (α × β)}, a ∉ keys A → mDel a (A ++ (a, b) :: B) = A ++ B ∧ mGet a (A ++ (a, b) :: B) = some b
  | [], B, _ => by simp [mDel, mGet]
  | q :: A, B, h => by
    simp only [List.map_cons, List.mem_cons, not_or] at h
    obtain ⟨h1, h2⟩ := del_split (b := b) (B := B) h.2
    have : ¬ q.1 = a := fun e => h.1 e.symm
    simp only [List.cons_append, mDel, mGet, this, if_false, h1, h2]
    exact ⟨trivial, trivial⟩
theorem key_split {α β : Type} {a : α} : ∀ {m : List (α × β)}, a ∈ keys m → (keys m).Nodup → ∃ A b B, m = A ++ (a, b) :: B ∧ a ∉ keys A
  | [], h, _ => by cases h
  | q :: r, h, nd => by
    simp only [List.map_cons, List.nodup_cons] at nd
    simp only [List.map_cons, List.mem_cons] at h
    rcases h with e | h
    · exact ⟨[], q.2, r, by rw [e]; rfl, by simp⟩
    · obtain ⟨A, b, B, h1, h2⟩ := key_split h nd.2
      refine ⟨q :: A, b, B, by rw [h1]; rfl, ?_⟩
      simp only [List.map_cons, List.mem_cons, not_or]
      exact ⟨fun e => nd.1 (e ▸ h), h2⟩
structure HS where
  width : Int
  room : Int
  ord : Bool
  st : List NS
  hm : List HM
  many : Int
  under : List (Int × Lt)
  ans : List (Int × Dd × Int)
  noted : List Int
def numd : Int → List Lt → List (Int × Lt)
  | _, [] => []
  | m, l :: r => (m + 1, l) :: numd (m + 1) r
namespace HS
def enc (H : HS) : Ty_House := (H.width, H.room, H.ord, H.st.map NS.enc, H.hm.map HM.enc, (H.ord, H.many, H.under), H.ans, H.noted)
def may (H : HS) : List Int := mayC H.ord H.under []
def post (H : HS) (s : List Lt) : HS := { H with many := H.many + s.length, under := H.under ++ numd H.many s }
def note (H : HS) (k : Nat) (n : NS) : HS := { H with ans := H.ans ++ (n.done.drop ((H.noted[k]?).getD 0).toNat).map (fun r => ((k : Int), r.1, r.2)), noted := H.noted.set k n.done.length }
def near (H : HS) (k : Nat) (s : List Lt) (n : NS) : HS := (({ H with st := H.st.set k n } : HS).post s).note k n
def ask (H : HS) (k : Nat) (d : Dd) : HS := match H.st[k]? with
  | some n => H.near k (n.ask d).1 (n.ask d).2
  | none => H
def comeL (H : HS) (l : Lt) : HS :=
  if isNr l.1 = true then match H.st[l.2.2.1.toNat]? with
    | some n => match n.come l with
      | some q => H.near l.2.2.1.toNat q.1 q.2
      | none => H
    | none => H
  else match H.hm[l.2.1.toNat]? with
    | some h => ({ H with hm := H.hm.set l.2.1.toNat (h.come l).2 } : HS).post (h.come l).1
    | none => H
def come (H : HS) (a : Int) : HS := match mGet a H.under with
  | some l => ({ H with under := mDel a H.under } : HS).comeL l
  | none => H
end HS
theorem numd_len (m : Int) : ∀ (s : List Lt) , (numd m s).length = s.length
  | [] => rfl
  | l :: r => by simp [numd, numd_len (m + 1) r]
theorem numd_map (m : Int) : ∀ (s : List Lt) , (numd m s).map (·.2) = s
  | [] => rfl
  | l :: r => by simp [numd, numd_map (m + 1) r]
theorem numd_keys (m : Int) : ∀ (s : List Lt), (keys (numd m s)).Pairwise (· < ·) ∧ ∀ x ∈ numd m s, m < x.1 ∧ x.1 ≤ m + s.length
  | [] => ⟨.nil, fun x h => by cases h⟩
  | l :: r => by
    obtain ⟨h1, h2⟩ := numd_keys (m + 1) r
    refine ⟨List.pairwise_cons.mpr ⟨fun a ha => ?_, h1⟩, fun x hx => ?_⟩
    · obtain ⟨y, hy, rfl⟩ := List.mem_map.mp ha
      have := (h2 y hy).1
      show m + 1 < y.1
      exact this
    · rcases List.mem_cons.mp hx with e | e
      · subst e; simp only [List.length_cons]; omega
      · have := h2 x e; simp only [List.length_cons]; omega
theorem g_post {H : HS} : ∀ (s : List Lt) (m : Int) (u : List (Int × Lt)), (∀ x ∈ u, x.1 ≤ m) → u.length + s.length < 1000000 →
    List.foldlM (m := Option) (fun (s1 : Ty_House) x2 => (g_Roads_send s1.2.2.2.2.2.1 x2).bind fun r5 => some (s1.1, s1.2.1, s1.2.2.1, s1.2.2.2.1, s1.2.2.2.2.1, r5.2, s1.2.2.2.2.2.2.1, s1.2.2.2.2.2.2.2)) (({ H with many := m, under := u } : HS).enc) s = some (({ H with many := m + s.length, under := u ++ numd m s } : HS).enc)
  | [], m, u, _, _ => by simp [numd]
  | l :: r, m, u, hu, hl => by
    simp only [List.length_cons] at hl
    rw [List.foldlM_cons]
    have e : g_Roads_send ({ H with many := m, under := u } : HS).enc.2.2.2.2.2.1 l = some (m + 1, (H.ord, m + 1, u ++ [(m + 1, l)])) := by
      unfold g_Roads_send
      show (if u.length < 10000000 then some () else none).bind (fun _ => some (m + 1, ((H.ord, m + 1, mPut (m + 1) l u) : Ty_Roads))) = _
      rw [if_pos (by omega), Option.bind_some, mPut_new (fun q hq => by have := hu q hq; omega)]
    rw [e]
    simp only [Option.bind_some]
    have ih := g_post (H := H) r (m + 1) (u ++ [(m + 1, l)]) (fun x hx => by
      rcases List.mem_append.mp hx with q | q
      · have := hu x q; omega
      · rw [List.mem_singleton.mp q]; exact Int.le_refl _) (by simp only [List.length_append, List.length_singleton]; omega)
    refine (show List.foldlM _ (({ H with many := m + 1, under := u ++ [(m + 1, l)] } : HS).enc) r = _ from ih).trans ?_
    simp only [numd, List.append_assoc, List.singleton_append, List.length_cons, Int.natCast_add, Int.natCast_one]
    rw [show m + 1 + (r.length : Int) = m + ((r.length : Int) + 1) by omega]
theorem g_house_post {H : HS} {s : List Lt} (hu : ∀ x ∈ H.under, x.1 ≤ H.many) (hl : H.under.length + s.length < 1000000) : g_House_post H.enc s = some ((), (H.post s).enc) := by
  unfold g_House_post
  rw [show H.enc = ({ H with many := H.many, under := H.under } : HS).enc from rfl, g_post s H.many H.under hu hl]
  rfl
theorem g_note_fold {k : Int} : ∀ (rows : List (Dd × Int)) (H : HS), H.ans.length + rows.length < 1000000 → List.foldlM (m := Option) (fun (s6 : Ty_House) x7 => (appL s6.2.2.2.2.2.2.1 (k, x7.1, x7.2)).bind fun l10 => some (s6.1, s6.2.1, s6.2.2.1, s6.2.2.2.1, s6.2.2.2.2.1, s6.2.2.2.2.2.1, l10, s6.2.2.2.2.2.2.2)) H.enc rows = some (({ H with ans := H.ans ++ rows.map fun r => (k, r.1, r.2) } : HS).enc)
  | [], H, _ => by simp
  | x :: r, H, hl => by
    simp only [List.length_cons] at hl
    rw [List.foldlM_cons]
    have e : appL H.enc.2.2.2.2.2.2.1 (k, x.1, x.2) = some (H.ans ++ [(k, x.1, x.2)]) := appL_of (by show H.ans.length < _; omega)
    rw [e]
    simp only [Option.bind_some]
    have ih := g_note_fold (k := k) r { H with ans := H.ans ++ [(k, x.1, x.2)] } (by simp only [List.length_append, List.length_singleton]; omega)
    refine (show List.foldlM _ (({ H with ans := H.ans ++ [(k, x.1, x.2)] } : HS).enc) r = _ from ih).trans ?_
    simp
theorem ixN_nat {n k : Nat} (h : k < n) : ixN n (k : Int) = some k := by
  unfold ixN
  rw [if_pos (by omega)]
  simp [h]
theorem g_house_note {H : HS} {k : Nat} {n : NS} {v : Int} (hk : H.st[k]? = some n) (hv : H.noted[k]? = some v) (h0 : 0 ≤ v) (hl : H.ans.length + n.done.length < 1000000) : g_House_note H.enc (k : Int) = some ((), (H.note k n).enc) := by
  unfold g_House_note
  have e1 : H.enc.2.2.2.1 = H.st.map NS.enc := rfl
  have e2 : H.enc.2.2.2.2.2.2.2 = H.noted := rfl
  have hkl := get_lt' hk
  rw [e1, e2, List.length_map, ixN_nat hkl, Option.bind_some, List.getElem?_map, hk]
  simp only [Option.map_some, Option.bind_some, g_Near_told]
  rw [getI_nat, hv]
  simp only [Option.bind_some]
  obtain ⟨j, hj⟩ := Int.eq_ofNat_of_zero_le h0
  have hj : v = (j : Int) := hj
  have ed : n.enc.2.2.2.2.2.2 = n.done := rfl
  rw [ed, hj, cutA_drop]
  have := g_note_fold (k := (k : Int)) (n.done.drop j) H (by rw [List.length_drop]; omega)
  rw [this]
  simp only [Option.bind_some]
  have es : setI ({ H with ans := H.ans ++ (n.done.drop j).map fun r => ((k : Int), r.1, r.2) } : HS).enc.2.2.2.2.2.2.2 (k : Int) (n.done.length : Int) = some (H.noted.set k n.done.length) := by
    unfold setI
    show (ixN H.noted.length (k : Int)).map _ = _
    rw [ixN_nat (get_lt' hv)]; rfl
  rw [es, Option.bind_some]
  unfold HS.note
  rw [hv, hj]
  simp [HS.enc]
end PG
namespace PG
open PySem L2 VL
def zeroM : Int → Int := fun _ => 0
def ansMem (ans : List (Int × Dd × Int)) : Int → Int := rowsMem zeroM (ans.map (·.2))
structure HInv (H : HS) (a : Nat) : Prop where
  N1 : 1 ≤ H.st.length
  N2 : H.st.length ≤ 16
  L1 : 1 ≤ H.hm.length
  L2 : H.hm.length ≤ 64
  W1 : 1 ≤ H.width
  W2 : H.width ≤ 16
  V : VInv H.width H.room H.st H.hm (H.under.map (·.2)) (ansMem H.ans)
  set : ∀ (k : Nat) n, H.st[k]? = some n → Settled n
  nums : (keys H.under).Pairwise (· < ·)
  numB : ∀ x ∈ H.under, 1 ≤ x.1 ∧ x.1 ≤ H.many
  manyP : 0 ≤ H.many
  noted : H.noted = H.st.map fun n => (n.done.length : Int)
  trail : ∀ (k : Nat) n, H.st[k]? = some n → (H.ans.filter fun r => decide (r.1 = (k : Int))).map (·.2) = n.done
  ansR : ∀ r ∈ H.ans, ∃ k : Nat, r.1 = k ∧ k < H.st.length
  good : goodRows zeroM (H.ans.map (·.2))
  tot : (H.st.map fun n => n.q.length).sum + H.ans.length = a
theorem rowsMem_app (m : Int → Int) (a b : List (Dd × Int)) : rowsMem m (a ++ b) = rowsMem (rowsMem m a) b := by unfold rowsMem; rw [List.foldl_append]
theorem good_app : ∀ {a b : List (Dd × Int)} {m : Int → Int}, goodRows m (a ++ b) ↔ goodRows m a ∧ goodRows (rowsMem m a) b
  | [], b, m => by simp [goodRows, rowsMem]
  | r :: a, b, m => by
    show r.2 = m r.1.addr ∧ goodRows (memStep m r.1) (a ++ b) ↔ (r.2 = m r.1.addr ∧ goodRows (memStep m r.1) a) ∧ goodRows (rowsMem (memStep m r.1) a) b
    rw [good_app]; exact (and_assoc).symm
theorem nums_nodup {l : List Int} (h : l.Pairwise (· < ·)) : l.Nodup := h.imp fun x => by omega
def clsI (x : String) : Int := if isNr x = true then 0 else if isRq x = true then 1 else 2
theorem cls_b (x : String) : 0 ≤ clsI x ∧ clsI x ≤ 2 := by
  unfold clsI
  split
  · omega
  · split <;> omega
theorem cls_n {x : String} : isNr x = true ↔ clsI x = 0 := by
  unfold clsI
  constructor
  · intro h; rw [if_pos h]
  · intro h
    split at h
    · assumption
    · split at h <;> omega
theorem cls_r {x : String} : isRq x = true ↔ clsI x = 1 := by
  unfold clsI
  constructor
  · intro h; rw [if_neg (by rw [(isRq_not h).2]; simp), if_pos h]
  · intro h
    split at h
    · omega
    · split at h
      · assumption
      · omega
theorem cls_a {x : String} (hw : (isRq x || isAn x || isNr x) = true) : isAn x = true ↔ clsI x = 2 := by
  constructor
  · intro h; unfold clsI; rw [if_neg (by rw [(isAn_not h).2]; simp), if_neg (by rw [(isAn_not h).1]; simp)]
  · intro h
    simp only [Bool.or_eq_true] at hw
    rcases hw with (q | q) | q
    · have := cls_r.mp q; omega
    · exact q
    · have := cls_n.mp q; omega
theorem under_len {w room : Int} {st : List NS} {hm : List HM} {R : List Lt} {m : Int → Int} (V : VInv w room st hm R m) (hN : st.length ≤ 16) (hL : hm.length ≤ 64) : R.length ≤ 3072 := by
  let f : Lt → Int := fun l => (l.2.1 * 16 + l.2.2.1) * 3 + clsI l.1
  have hcls := cls_b
  have hone : ∀ (ln k : Int) (p : String → Bool), (p = isNr ∨ p = isRq ∨ p = isAn) → (sel p R ln k).length ≤ 1 := by
    intro ln k p hp
    by_cases c : 0 ≤ ln ∧ ln < (hm.length : Int) ∧ 0 ≤ k ∧ k < (st.length : Int)
    · obtain ⟨i, hi⟩ := Int.eq_ofNat_of_zero_le c.1
      obtain ⟨j, hj⟩ := Int.eq_ofNat_of_zero_le c.2.2.1
      have hi : ln = (i : Int) := hi
      have hj : k = (j : Int) := hj
      have hil : i < hm.length := by omega
      obtain ⟨h, hh⟩ : ∃ h, hm[i]? = some h := ⟨hm[i], by simp [hil]⟩
      obtain ⟨l1, l2, l3, _⟩ := V.lines i h hh
      have P := p_len (l3.pairs j (by omega))
      rw [l1, ← hi, ← hj] at P
      rcases hp with e | e | e <;> rw [e]
      · exact P.1
      · have := P.2.2; rw [List.length_append] at this; omega
      · exact P.2.1
    · have : sel p R ln k = [] := by
        unfold sel
        rw [List.map_eq_nil_iff, List.filter_eq_nil_iff]
        intro x hx e
        simp only [Bool.and_eq_true, decide_eq_true_eq] at e
        have := V.lets x hx
        exact c ⟨by omega, by omega, by omega, by omega⟩
      rw [this]; simp
  have nd : (R.map f).Nodup := by
    have gen : ∀ (Q : List Lt), (∀ x ∈ Q, x ∈ R) → (∀ (ln k : Int) (p : String → Bool), (p = isNr ∨ p = isRq ∨ p = isAn) → (sel p Q ln k).length ≤ 1) → (Q.map f).Nodup := by
      intro Q
      induction Q with
      | nil => intro _ _; simp
      | cons x Q ih =>
        intro hs hq
        rw [List.map_cons, List.nodup_cons]
        refine ⟨fun hx => ?_, ih (fun y hy => hs y (List.mem_cons_of_mem _ hy)) fun ln k p hp => by
          have := hq ln k p hp
          rw [sel_cons, List.length_append] at this; omega⟩
        obtain ⟨y, hy, e⟩ := List.mem_map.mp hx
        have v1 := V.lets x (hs x List.mem_cons_self)
        have v2 := V.lets y (hs y (List.mem_cons_of_mem _ hy))
        have c1 := hcls x.1
        have c2 := hcls y.1
        have e : (y.2.1 * 16 + y.2.2.1) * 3 + clsI y.1 = (x.2.1 * 16 + x.2.2.1) * 3 + clsI x.1 := e
        have e1 : y.2.1 = x.2.1 := by omega
        have e2 : y.2.2.1 = x.2.2.1 := by omega
        have e3 : clsI y.1 = clsI x.1 := by omega
        obtain ⟨p, hp, px, py⟩ : ∃ p : String → Bool, (p = isNr ∨ p = isRq ∨ p = isAn) ∧ p x.1 = true ∧ p y.1 = true := by
          have := v1.2.2.2.2
          simp only [Bool.or_eq_true] at this
          rcases this with (q | q) | q
          · exact ⟨isRq, .inr (.inl rfl), q, cls_r.mpr (e3.trans (cls_r.mp q))⟩
          · exact ⟨isAn, .inr (.inr rfl), q, (cls_a v2.2.2.2.2).mpr (e3.trans ((cls_a v1.2.2.2.2).mp q))⟩
          · exact ⟨isNr, .inl rfl, q, cls_n.mpr (e3.trans (cls_n.mp q))⟩
        have := hq x.2.1 x.2.2.1 p hp
        rw [sel_cons, if_pos ⟨rfl, rfl, px⟩] at this
        have hmem : ((y.1, y.2.2.2) : String × WD) ∈ sel p Q x.2.1 x.2.2.1 := List.mem_map.mpr ⟨y, List.mem_filter.mpr ⟨hy, by simp [e1, e2, py]⟩, rfl⟩
        have h0 := (app_one (a := []) (x := (x.1, x.2.2.2)) (by rw [List.nil_append]; exact this)).2
        rw [h0] at hmem; cases hmem
    exact gen R (fun _ h => h) hone
  have := len_bound 3072 nd (fun c hc => by
    obtain ⟨y, hy, rfl⟩ := List.mem_map.mp hc
    have v := V.lets y hy
    have c1 := hcls y.1
    show 0 ≤ (y.2.1 * 16 + y.2.2.1) * 3 + clsI y.1 ∧ (y.2.1 * 16 + y.2.2.1) * 3 + clsI y.1 < _
    omega)
  rw [List.length_map] at this
  exact this
theorem sum_set {α : Type} (f : α → Nat) : ∀ {l : List α} {k : Nat} {x y : α}, l[k]? = some x → ((l.set k y).map f).sum + f x = (l.map f).sum + f y
  | [], k, x, y, h => by cases h
  | a :: l, 0, x, y, h => by
    cases h
    simp only [List.set_cons_zero, List.map_cons, List.sum_cons]; omega
  | a :: l, k + 1, x, y, h => by
    have := sum_set f (l := l) (y := y) (k := k) h
    simp only [List.set_cons_succ, List.map_cons, List.sum_cons]; omega
theorem sum_ge {α : Type} (f : α → Nat) : ∀ {l : List α} {k : Nat} {x : α}, l[k]? = some x → f x ≤ (l.map f).sum
  | [], k, x, h => by cases h
  | a :: l, 0, x, h => by cases h; simp
  | a :: l, k + 1, x, h => by
    have := sum_ge f (l := l) (k := k) h
    simp only [List.map_cons, List.sum_cons]; omega
theorem HInv.sizes {H : HS} {a : Nat} (I : HInv H a) {k : Nat} {n : NS} (hk : H.st[k]? = some n) : n.q.length + n.done.length ≤ a ∧ H.ans.length ≤ a := by
  have h1 := sum_ge (fun n : NS => n.q.length) hk
  have h2 := congrArg List.length (I.trail k n hk)
  rw [List.length_map] at h2
  have h3 : (H.ans.filter fun r => decide (r.1 = (k : Int))).length ≤ H.ans.length := List.length_filter_le _ _
  have h4 := I.tot
  have h1 : n.q.length ≤ (H.st.map fun n => n.q.length).sum := h1
  omega
theorem map_k (k : Int) (rows : List (Dd × Int)) : (rows.map fun r => ((k, r.1, r.2) : Int × Dd × Int)).map (·.2) = rows := by
  rw [List.map_map]
  have : (fun (x : Int × Dd × Int) => x.2) ∘ (fun (r : Dd × Int) => (k, r.1, r.2)) = id := by funext r; rfl
  rw [this, List.map_id]
theorem near_inv {H : HS} {a b : Nat} {k : Nat} {n n' : NS} {s : List Lt} {rows : List (Dd × Int)} {under : List (Int × Lt)} (I : HInv H a) (hk : H.st[k]? = some n)
    (hu : (keys under).Pairwise (· < ·)) (hu2 : ∀ x ∈ under, x ∈ H.under) (hd : n'.done = n.done ++ rows) (hg : goodRows (ansMem H.ans) rows) (hs : Settled n')
    (V : VInv H.width H.room (H.st.set k n') H.hm (under.map (·.2) ++ s) (rowsMem (ansMem H.ans) rows)) (hb : n'.q.length + rows.length + a = n.q.length + b) :
    HInv (({ H with under := under } : HS).near k s n') b ∧ (({ H with under := under } : HS).near k s n').ans = H.ans ++ rows.map (fun r => ((k : Int), r.1, r.2)) ∧ (({ H with under := under } : HS).near k s n').st = H.st.set k n' := by
  have hkl := get_lt' hk
  have hnot : (({ H with under := under } : HS).noted[k]?) = some (n.done.length : Int) := by
    show H.noted[k]? = _
    rw [I.noted, List.getElem?_map, hk]; rfl
  have hE : ({ H with under := under } : HS).near k s n' = { H with st := H.st.set k n', many := H.many + s.length, under := under ++ numd H.many s, ans := H.ans ++ rows.map (fun r => ((k : Int), r.1, r.2)), noted := H.noted.set k n'.done.length } := by
    unfold HS.near HS.note HS.post
    dsimp only
    rw [show H.noted[k]? = some (n.done.length : Int) from hnot, Option.getD_some, Int.toNat_natCast, hd, List.drop_left]
  rw [hE]
  refine ⟨?_, rfl, rfl⟩
  obtain ⟨k1, k2⟩ := numd_keys H.many s
  refine ⟨by rw [List.length_set]; exact I.N1, by rw [List.length_set]; exact I.N2, I.L1, I.L2, I.W1, I.W2, ?_, ?_, ?_, ?_, by have := I.manyP; show 0 ≤ H.many + (s.length : Int); omega, ?_, ?_, ?_, ?_, ?_⟩
  · show VInv H.width H.room (H.st.set k n') H.hm ((under ++ numd H.many s).map (·.2)) (ansMem (H.ans ++ rows.map fun r => ((k : Int), r.1, r.2)))
    rw [List.map_append, numd_map]
    have : ansMem (H.ans ++ rows.map fun r => ((k : Int), r.1, r.2)) = rowsMem (ansMem H.ans) rows := by
      unfold ansMem
      rw [List.map_append, rowsMem_app, map_k]
    rw [this]; exact V
  · intro j x hj
    rcases set_get' hk hj with ⟨_, e⟩ | ⟨_, e⟩
    · subst e; exact hs
    · exact I.set j x e
  · show (keys (under ++ numd H.many s)).Pairwise (· < ·)
    unfold keys
    rw [List.map_append, List.pairwise_append]
    refine ⟨hu, k1, fun x hx y hy => ?_⟩
    obtain ⟨p, hp, rfl⟩ := List.mem_map.mp hx
    obtain ⟨q, hq, rfl⟩ := List.mem_map.mp hy
    have := (I.numB p (hu2 p hp)).2
    have := (k2 q hq).1
    omega
  · intro x hx
    show 1 ≤ x.1 ∧ x.1 ≤ H.many + s.length
    rcases List.mem_append.mp hx with q | q
    · have := I.numB x (hu2 x q); omega
    · have h1 := k2 x q
      have h0 := I.manyP
      omega
  · show H.noted.set k (n'.done.length : Int) = (H.st.set k n').map fun n => (n.done.length : Int)
    rw [List.map_set, I.noted]
  · intro j x hj
    show ((H.ans ++ rows.map fun r => ((k : Int), r.1, r.2)).filter fun r => decide (r.1 = (j : Int))).map (·.2) = x.done
    rw [List.filter_append, List.map_append]
    rcases set_get' hk hj with ⟨e1, e⟩ | ⟨e1, e⟩
    · subst e e1
      rw [I.trail j n hk, hd]
      congr 1
      rw [List.filter_eq_self.mpr (fun r hr => by
        obtain ⟨p, _, rfl⟩ := List.mem_map.mp hr; simp), map_k]
    · rw [I.trail j x e]
      have : (rows.map fun r => ((k : Int), r.1, r.2)).filter (fun r => decide (r.1 = (j : Int))) = [] := by
        rw [List.filter_eq_nil_iff]
        intro r hr
        obtain ⟨p, _, rfl⟩ := List.mem_map.mp hr
        simp; omega
      rw [this]; simp
  · intro r hr
    show ∃ k' : Nat, r.1 = k' ∧ k' < (H.st.set k n').length
    rw [List.length_set]
    rcases List.mem_append.mp hr with q | q
    · exact I.ansR r q
    · obtain ⟨p, _, rfl⟩ := List.mem_map.mp q
      exact ⟨k, rfl, hkl⟩
  · show goodRows zeroM ((H.ans ++ rows.map fun r => ((k : Int), r.1, r.2)).map (·.2))
    rw [List.map_append, good_app]
    refine ⟨I.good, ?_⟩
    rw [map_k]
    exact hg
  · show ((H.st.set k n').map fun n => n.q.length).sum + (H.ans ++ rows.map fun r => ((k : Int), r.1, r.2)).length = b
    have := sum_set (fun n : NS => n.q.length) (y := n') hk
    have h2 := I.tot
    rw [List.length_append, List.length_map]
    have this : ((H.st.set k n').map fun n => n.q.length).sum + n.q.length = (H.st.map fun n => n.q.length).sum + n'.q.length := this
    omega
end PG
namespace PG
open PySem L2 VL
section
variable {w room : Int} {st : List NS} {hm : List HM} {R : List Lt} {m : Int → Int}
theorem V_push (V : VInv w room st hm R m) {k : Nat} {n : NS} {d : Dd} (hk : st[k]? = some n) (hd : 0 ≤ d.addr) (hl : d.addr / w < (hm.length : Int)) (hn : n.q.length + n.done.length < 100000) : VInv w room (st.set k { n with q := n.q ++ [d] }) hm R m := by
  obtain ⟨e1, e2, e3, ni, ql, kl⟩ := V.nears k n hk
  have hkl := get_lt' hk
  refine ⟨fun i2 h2 hh2 => ?_, fun k2 n2 hk2 => ?_, fun x hx => by rw [List.length_set]; exact V.lets x hx⟩
  · obtain ⟨a1, a2, a3, cs2, a4, a5⟩ := V.lines i2 h2 hh2
    obtain ⟨g1, g2⟩ := a3.congr (S' := stAt (st.set k { n with q := n.q ++ [d] }) i2) (R' := R) (fun j _ => by
      rw [stAt_set hkl]
      unfold upd
      split
      · rename_i e; subst e
        rw [stAt_get hk]; exact at_st rfl
      · rfl) (fun _ => rfl) (fun _ => rfl) (fun _ => rfl)
    exact ⟨a1, by rw [List.length_set]; exact a2, g1, cs2, g2.trans a4, a5⟩
  · rcases set_get' hk hk2 with ⟨x1, x2⟩ | ⟨x1, x2⟩
    · subst x1 x2
      refine ⟨e1, e2, e3, ni_push ni d hd hn, fun d' hd' => ?_, kl⟩
      rcases List.mem_append.mp hd' with q | q
      · exact ql d' q
      · rw [List.mem_singleton.mp q]
        show d.addr / n.width < _
        rw [e2]; exact hl
    · exact V.nears k2 n2 x2
end
theorem numsNd {H : HS} {a : Nat} (I : HInv H a) : (keys H.under).Nodup := nums_nodup I.nums
theorem HInv.near {H : HS} {a : Nat} (I : HInv H a) {k : Nat} {n : NS} (hk : H.st[k]? = some n) : n.num = k ∧ n.width = H.width ∧ n.room = H.room ∧ NI n ∧ (∀ d ∈ n.q, n.line d < (H.hm.length : Int)) ∧ ∀ l ∈ keys n.st, 0 ≤ l ∧ l < (H.hm.length : Int) := I.V.nears k n hk
theorem house_ask {H : HS} {a : Nat} (I : HInv H a) {k : Nat} {n : NS} {d : Dd} (hk : H.st[k]? = some n) (hd : 0 ≤ d.addr) (hl : d.addr / H.width < (H.hm.length : Int)) (ha : a < 50000) :
    ∃ rows, HInv (H.ask k d) (a + 1) ∧ (H.ask k d).ans = H.ans ++ rows.map (fun r => ((k : Int), r.1, r.2)) ∧ (H.ask k d).st = H.st.set k (n.ask d).2 ∧ (n.ask d).2.done = n.done ++ rows ∧ rows.map (·.1) ++ (n.ask d).2.q = n.q ++ [d] ∧ g_House_ask H.enc (k : Int) d = some ((n.done.length : Int) + (n.q.length : Int), (H.ask k d).enc) := by
  have hsz := I.sizes hk
  have hlt : n.q.length + n.done.length < 100000 := by omega
  obtain ⟨e1, e2, e3, ni, ql, kl⟩ := I.near hk
  have hkl := get_lt' hk
  have V1 := V_push I.V hk hd hl hlt
  have ni1 := ni_push ni d hd hlt
  have hk1 : (H.st.set k { n with q := n.q ++ [d] })[k]? = some { n with q := n.q ++ [d] } := List.getElem?_set_self hkl
  obtain ⟨rows, r1, r2, r3⟩ := V_work (n.q ++ [d]) V1 hk1 rfl
  rw [set_set'] at r3
  obtain ⟨w1, w2, w3, w4, w5, m, w6, w7⟩ := ni_work (n.q ++ [d]) ni1 rfl
  have hrm : rows = m := List.append_cancel_left (r1.symm.trans w6)
  subst hrm
  have hlen : rows.length + (n.ask d).2.q.length = n.q.length + 1 := by
    have := congrArg List.length w7
    rw [List.length_append, List.length_map, List.length_append, List.length_singleton] at this
    exact this
  have askE : H.ask k d = ({ H with under := H.under } : HS).near k (n.ask d).1 (n.ask d).2 := by
    unfold HS.ask; rw [hk]
  obtain ⟨i1, i2, i3⟩ := near_inv (b := a + 1) (s := (n.ask d).1) (n' := (n.ask d).2) (under := H.under) I hk I.nums (fun x hx => hx) r1 r2 w2 r3 (by omega)
  rw [← askE] at i1 i2 i3
  refine ⟨rows, i1, i2, i3, r1, w7, ?_⟩
  -- the program
  have ul := under_len I.V I.N2 I.L2
  rw [List.length_map] at ul
  have sl : (n.ask d).1.length ≤ 1 := work_len _ _
  have hW := I.W1
  have hW2 := I.W2
  have hL2 := I.L2
  have hN2 := I.N2
  obtain ⟨i, hi⟩ := Int.eq_ofNat_of_zero_le (Int.ediv_nonneg hd (show 0 ≤ H.width by omega))
  have hi : d.addr / H.width = (i : Int) := hi
  have hil : i < H.hm.length := by omega
  obtain ⟨h, hh⟩ : ∃ h, H.hm[i]? = some h := ⟨H.hm[i], by simp [hil]⟩
  have eS : H.enc.2.2.2.1 = H.st.map NS.enc := rfl
  have eH : H.enc.2.2.2.2.1 = H.hm.map HM.enc := rfl
  have store : g_House_store H.enc (k : Int) = some k := by
    unfold g_House_store
    rw [eS, List.length_map, if_neg (by simp; omega), ixN_nat hkl, Option.bind_some, List.getElem?_map, hk]; rfl
  have home : g_House_home H.enc (i : Int) = some i := by
    unfold g_House_home
    rw [eH, List.length_map, if_neg (by simp; omega), ixN_nat hil, Option.bind_some, List.getElem?_map, hh]; rfl
  have line : g_line_of d.addr H.enc.1 = some (i : Int) := by
    unfold g_line_of
    show (divI d.addr H.width).bind _ = _
    rw [divI_of (by omega), hi]; rfl
  have wait : g_Near_waiting n.enc = some n.q := by
    unfold g_Near_waiting
    show (lcM _ (fun x1 => (dd_plain x1).bind fun r2 => some r2) n.q).bind _ = _
    have : (fun x1 : Dd => (dd_plain x1).bind fun r2 => some r2) = fun x1 => some x1 := rfl
    rw [this, lcM_map, Option.bind_some, List.map_id', show n.enc.2.2.2.2.2.1 = n.q from rfl, ckL_of (by omega)]; rfl
  have ask := g_ask ni hd hlt
  have post := g_house_post (H := { H with st := H.st.set k (n.ask d).2 }) (s := (n.ask d).1) (fun x hx => (I.numB x hx).2) (by show H.under.length + _ < _; omega)
  have hv : (({ H with st := H.st.set k (n.ask d).2 } : HS).post (n.ask d).1).noted[k]? = some (n.done.length : Int) := by
    show H.noted[k]? = _
    rw [I.noted, List.getElem?_map, hk]; rfl
  have hk2 : (({ H with st := H.st.set k (n.ask d).2 } : HS).post (n.ask d).1).st[k]? = some (n.ask d).2 := List.getElem?_set_self hkl
  have r1' : (n.ask d).2.done = n.done ++ rows := r1
  have note := g_house_note hk2 hv (by omega) (by
    show H.ans.length + (n.ask d).2.done.length < 1000000
    rw [r1', List.length_append]; omega)
  unfold g_House_ask
  rw [store, Option.bind_some, eS, List.getElem?_map, hk]
  simp only [Option.map_some, Option.bind_some, show dd_of d = some d from if_pos hd, dd_place, line, home]
  rw [eH, List.getElem?_map, hh]
  simp only [Option.map_some, Option.bind_some, g_Near_told, wait, ask]
  have ge : ((H.enc.1, H.enc.2.1, H.enc.2.2.1, (H.st.map NS.enc).set k (n.ask d).2.enc, H.hm.map HM.enc, H.enc.2.2.2.2.2.1, H.enc.2.2.2.2.2.2.1, H.enc.2.2.2.2.2.2.2) : Ty_House) = ({ H with st := H.st.set k (n.ask d).2 } : HS).enc := by
    unfold HS.enc; dsimp only; rw [List.map_set]
  rw [ge, post]
  simp only [Option.bind_some, note]
  rw [askE]; rfl
end PG
namespace PG
open PySem L2 VL
def nearNew (w r : Int) (k : Int) : NS := ⟨k, w, r, [], [], [], []⟩
def homeNew (N : Nat) (w : Int) (i : Int) : HM := ⟨i, N, some (List.replicate w.toNat 0), none, List.replicate N false, [], none, []⟩
def HS.new (N L : Nat) (w r : Int) (o : Bool) : HS := ⟨w, r, o, (rng 0 N).map (nearNew w r), (rng 0 L).map (homeNew N w), 0, [], [], List.replicate N 0⟩
section
variable {H : HS} {a : Nat}
end
end PG
namespace PG
open PySem L2 VL
def Dim (H H' : HS) : Prop := H'.width = H.width ∧ H'.room = H.room ∧ H'.ord = H.ord ∧ H'.st.length = H.st.length ∧ H'.hm.length = H.hm.length
theorem Dim.refl (H : HS) : Dim H H := ⟨rfl, rfl, rfl, rfl, rfl⟩
theorem Dim.trans {A B C : HS} (h : Dim A B) (g : Dim B C) : Dim A C := ⟨g.1.trans h.1, g.2.1.trans h.2.1, g.2.2.1.trans h.2.2.1, g.2.2.2.1.trans h.2.2.2.1, g.2.2.2.2.trans h.2.2.2.2⟩
inductive Next : HS → HS → Prop
  | ask {H : HS} {k : Nat} {n : NS} {d : Dd} : H.st[k]? = some n → 0 ≤ d.addr → d.addr / H.width < (H.hm.length : Int) → Next H (H.ask k d)
  | come {H : HS} {c : Int} : c ∈ H.may → Next H (H.come c)
theorem st_some {H : HS} {k : Nat} (h : k < H.st.length) : ∃ n, H.st[k]? = some n := ⟨H.st[k], by simp [h]⟩
end PG
namespace PG
open PySem L2 VL
def letN (N : Int) (x : String) : Int := if x = "read" ∨ x = "write" then 2 * N + 1 else if x = "lowered" ∨ x = "yielded" ∨ x = "took" ∨ x = "gone" then 1 else 2
def ltsN (N : Int) (R : List Lt) : Int := (R.map fun l => letN N l.1).sum
def nearN (E : Int) (n : NS) : Int := match n.q with
  | [] => 0
  | d :: r => if wanted (n.at (n.line d)) = true then E * (r.length : Int) else E * (r.length : Int) + E - 2
section
variable {N E : Int}
end
end PG
namespace PG
open PySem L2 VL
def rowN (N : Int) (q : List Lt) : Int := (q.map fun l => if l.1 = "back" then 1 else 2 * N).sum
def isAw (x : String × Int) : Bool := decide (x.1 = "lowered") || decide (x.1 = "yielded")
def taskN (h : HM) : Int := if h.task.isSome = true ∧ h.due.any isAw = true then 2 else 0
def homeN (N : Int) (h : HM) : Int := rowN N h.q + taskN h
section
variable {w : Int} {h : HM} {S : Nat → Hs} {R : List Lt}
end
end PG
namespace PG
open PySem L2 VL
def HS.M (H : HS) : Int := (H.st.map (nearN (2 * (H.st.length : Int) + 3))).sum + (H.hm.map (homeN (H.st.length : Int))).sum + ltsN (H.st.length : Int) (H.under.map (·.2))
structure Calm (H : HS) : Prop where
  u : H.under = []
  q : ∀ (k : Nat) n, H.st[k]? = some n → n.q = []
  h : ∀ (i : Nat) h, H.hm[i]? = some h → h.task = none ∧ h.q = [] ∧ h.due = []
end PG
namespace PG
open PySem L2 VL
def asked (n : NS) : List Dd := n.done.map (·.1) ++ n.q
def HS.asks (H : HS) : List (List Dd) := H.st.map asked
theorem set_same {α β : Type} {f : α → β} {l : List α} {k : Nat} {x y : α} (h : l[k]? = some x) (e : f y = f x) : (l.set k y).map f = l.map f := by
  apply List.ext_getElem?
  intro j
  rw [List.getElem?_map, List.getElem?_map]
  by_cases c : k = j
  · subst c
    rw [List.getElem?_set_self (get_lt' h), h]
    simp [e]
  · rw [List.getElem?_set_ne c]
theorem ask_asks {H : HS} {a : Nat} (I : HInv H a) {k : Nat} {n : NS} {d : Dd} (hk : H.st[k]? = some n) (hd : 0 ≤ d.addr) (hl : d.addr / H.width < (H.hm.length : Int)) (ha : a < 50000) : (H.ask k d).asks = H.asks.set k (asked n ++ [d]) ∧ H.asks[k]? = some (asked n) := by
  obtain ⟨rows, _, _, e3, e4, e5, _⟩ := house_ask I hk hd hl ha
  constructor
  · unfold HS.asks
    rw [e3, List.map_set]
    congr 1
    unfold asked
    rw [e4, List.map_append, List.append_assoc, e5, List.append_assoc]
  · unfold HS.asks
    rw [List.getElem?_map, hk]; rfl
theorem come_asks {H : HS} {a : Nat} (I : HInv H a) {c : Int} (hc : c ∈ H.may) : (H.come c).asks = H.asks := by
  have hck := may_mem hc
  obtain ⟨A, l, B, hu, hA⟩ := key_split hck (numsNd I)
  obtain ⟨dl, gl⟩ := del_split (b := l) (B := B) hA
  rw [← hu] at dl gl
  have hR : H.under.map (·.2) = A.map (·.2) ++ l :: B.map (·.2) := by rw [hu]; simp
  have V := I.V
  rw [hR] at V
  have comeE : H.come c = ({ H with under := A ++ B } : HS).comeL l := by unfold HS.come; rw [gl, dl]
  rw [comeE]
  cases hw : isNr l.1 with
  | true =>
    obtain ⟨k, n, ans, n1, hk, hn, hmet, hg, V1⟩ := V_met V hw I.set
    obtain ⟨e1, e2, e3, ni, ql, kl⟩ := I.near hn
    have nm := ni_met ni hmet (I.set k n hn) (by rw [e2]; exact hg)
    obtain ⟨w1, w2, w3, w4, w5, m, w6, w7⟩ := ni_work n1.q nm.1 rfl
    have comeN : n.come l = some (ans ++ (NS.work n1.q n1).1, (NS.work n1.q n1).2) := by unfold NS.come; rw [hmet]; rfl
    have hk2 : l.2.2.1.toNat = k := by omega
    have comeE2 : ({ H with under := A ++ B } : HS).comeL l = ({ H with under := A ++ B } : HS).near k (ans ++ (NS.work n1.q n1).1) (NS.work n1.q n1).2 := by
      unfold HS.comeL
      rw [if_pos hw]
      dsimp only
      rw [hk2, hn]
      dsimp only
      rw [comeN]
    rw [comeE2]
    show (H.st.set k (NS.work n1.q n1).2).map asked = H.st.map asked
    refine set_same hn ?_
    have q1 : n1.q = n.q := nm.2.2.2.2.1
    have q2 : n1.done = n.done := nm.2.2.2.2.2.1
    unfold asked
    rw [w6, List.map_append, List.append_assoc, w7, q1, q2]
  | false =>
    obtain ⟨i, h, hi, hh, ok, aw, hlow, hw6, V1⟩ := V_home V hw
    have hi2 : l.2.1.toNat = i := by omega
    have comeE2 : ({ H with under := A ++ B } : HS).comeL l = ({ H with hm := H.hm.set i (h.come l).2, under := A ++ B } : HS).post (h.come l).1 := by
      unfold HS.comeL
      rw [if_neg (by rw [hw]; simp)]
      dsimp only
      rw [hi2, hh]
    rw [comeE2]; rfl
inductive Comes : HS → HS → Prop
  | refl {H : HS} : Comes H H
  | step {H H' : HS} {c : Int} : c ∈ H.may → Comes (H.come c) H' → Comes H H'
end PG
namespace PG
open PySem L2 VL
def Wd (w : Int) (l : Lt) : Prop := (l.1 = "read" ∨ l.1 = "write" → l.2.2.2 = none) ∧ (l.1 = "back" → l.2.2.2 = none ∨ ∃ ws, l.2.2.2 = some ws ∧ (ws.length : Int) = w)
def Nxt (x y : Lt) : Prop := isAn y.1 = false ∧ (y.1 = "gone" → x.1 = "gone") ∧ (y.1 = "yield" → x.1 = "yield" → x.2.2.1 < y.2.2.1)
def Adj : List Lt → Prop
  | [] => True
  | [_] => True
  | x :: y :: r => Nxt x y ∧ Adj (y :: r)
structure Sent (H H' : HS) (u : List (Int × Lt)) (s : List Lt) : Prop where
  under : H'.under = u ++ numd H.many s
  many : H'.many = H.many + s.length
  adj : Adj s
  wd : ∀ l ∈ s, Wd H.width l
end PG
namespace PG
open PySem L2 VL
section
variable {H : HS} {a : Nat}
end
end PG
namespace PG
open PySem L2 VL
section
variable {H : HS} {a : Nat}
end
end PG
namespace PG
open PySem L2 VL
def rds (S : Nat → Hs) (N : Nat) : List Int := (rng 0 N).filter fun x => decide ((S x.toNat).may = "read")
section
variable {H : HS} {a : Nat}
end
end PG
namespace PG
open PySem L2 VL
def AskIn (H : HS) (S : Int) : Prop := ∀ ds ∈ H.asks, ∀ d ∈ ds, 0 ≤ d.addr ∧ d.addr < S
theorem AskIn.come {H : HS} {a : Nat} {S : Int} (h : AskIn H S) (I : HInv H a) {c : Int} (hc : c ∈ H.may) : AskIn (H.come c) S := by
  unfold AskIn; rw [come_asks I hc]; exact h
theorem AskIn.ask {H : HS} {a : Nat} {S : Int} (h : AskIn H S) (I : HInv H a) {k : Nat} {n : NS} {d : Dd} (hk : H.st[k]? = some n) (hd : 0 ≤ d.addr) (hS : d.addr < S) (hl : d.addr / H.width < (H.hm.length : Int)) (ha : a < 50000) : AskIn (H.ask k d) S := by
  obtain ⟨e1, e2⟩ := ask_asks I hk hd hl ha
  unfold AskIn
  rw [e1]
  intro ds hds x hx
  rcases List.mem_or_eq_of_mem_set hds with q | rfl
  · exact h ds q x hx
  · rcases List.mem_append.mp hx with q | q
    · exact h _ (List.mem_of_getElem? e2) x q
    · rw [List.mem_singleton.mp q]; exact ⟨hd, hS⟩
theorem AskIn.ans {H : HS} {a : Nat} {S : Int} (h : AskIn H S) (I : HInv H a) : ∀ r ∈ H.ans, 0 ≤ r.2.1.addr ∧ r.2.1.addr < S := by
  intro r hr
  obtain ⟨k, e, hk⟩ := I.ansR r hr
  obtain ⟨n, hn⟩ := st_some hk
  have tr := I.trail k n hn
  have hm : r.2 ∈ n.done := by
    rw [← tr]; exact List.mem_map_of_mem (List.mem_filter.mpr ⟨hr, by simp [e]⟩)
  exact h (asked n) (List.mem_map_of_mem (List.mem_of_getElem? hn)) r.2.1 (by unfold asked; exact List.mem_append_left _ (List.mem_map_of_mem hm))
structure Mem (mem : List Int) (ans : List (Int × Dd × Int)) (N : Nat) : Prop where
  len : mem.length = N
  cell : ∀ s : Nat, s < N → mem.getD s 0 = ansMem ans s
theorem Mem.zero (N : Nat) : Mem (List.replicate N 0) [] N := ⟨List.length_replicate, fun s hs => by
  rw [List.getD_eq_getElem?_getD, List.getElem?_replicate, if_pos hs]; rfl⟩
theorem ansMem_app (A B : List (Int × Dd × Int)) : ansMem (A ++ B) = rowsMem (ansMem A) (B.map (·.2)) := by
  unfold ansMem; rw [List.map_append, rowsMem_app]
theorem Mem.step {mem : List Int} {ans : List (Int × Dd × Int)} {N : Nat} (m : Mem mem ans N) {k x : Int} {d : Dd} (hd : 0 ≤ d.addr) (hdN : d.addr < (N : Int)) :
    ∃ v, getI mem d.addr = some v ∧ setI mem d.addr (d.behind v) = some (mem.set d.addr.toNat (d.behind v)) ∧ Mem (mem.set d.addr.toNat (d.behind v)) (ans ++ [(k, d, x)]) N := by
  obtain ⟨s, hs⟩ := Int.eq_ofNat_of_zero_le hd
  have hs : d.addr = (s : Int) := hs
  have hsN : s < N := by omega
  have hv : mem[s]? = some (mem.getD s 0) := by
    rw [List.getD_eq_getElem?_getD, List.getElem?_eq_getElem (by rw [m.len]; exact hsN)]; rfl
  have hval := m.cell s hsN
  refine ⟨mem.getD s 0, by rw [hs, getI_nat, hv], ?_, by rw [List.length_set]; exact m.len, ?_⟩
  · unfold setI
    rw [hs, PG.ixN_nat (by rw [m.len]; exact hsN)]; rfl
  · intro t ht
    rw [ansMem_app]
    show _ = memStep (ansMem ans) d t
    unfold memStep
    have ht0 : d.addr.toNat = s := by omega
    rw [List.getD_eq_getElem?_getD, List.getElem?_set, ht0, hs]
    by_cases c : s = t
    · subst c
      rw [if_pos rfl, if_pos (by rw [m.len]; exact ht), if_pos rfl, ← hval]; rfl
    · rw [if_neg c, if_neg (by omega), ← List.getD_eq_getElem?_getD]; exact m.cell t ht
end PG
namespace PG
open PySem L2 VL
section
variable {H : HS} {a : Nat}
end
def AskAll (P : Dd → Prop) (H : HS) : Prop := ∀ ds ∈ H.asks, ∀ d ∈ ds, P d
theorem AskAll.come {P : Dd → Prop} {H : HS} {a : Nat} (h : AskAll P H) (I : HInv H a) {c : Int} (hc : c ∈ H.may) : AskAll P (H.come c) := by
  unfold AskAll; rw [come_asks I hc]; exact h
theorem AskAll.ask {P : Dd → Prop} {H : HS} {a : Nat} (h : AskAll P H) (I : HInv H a) {k : Nat} {n : NS} {d : Dd} (hk : H.st[k]? = some n) (hP : P d) (hd : 0 ≤ d.addr) (hl : d.addr / H.width < (H.hm.length : Int)) (ha : a < 50000) : AskAll P (H.ask k d) := by
  obtain ⟨e1, e2⟩ := ask_asks I hk hd hl ha
  unfold AskAll
  rw [e1]
  intro ds hds x hx
  rcases List.mem_or_eq_of_mem_set hds with q | rfl
  · exact h ds q x hx
  · rcases List.mem_append.mp hx with q | q
    · exact h _ (List.mem_of_getElem? e2) x q
    · rw [List.mem_singleton.mp q]; exact hP
end PG
namespace PG
open PySem L2 VL
end PG
namespace PG
open PySem L2 VL PyProof.Rows PySem.W
def kd (o : Bool) (x : Int × Lt) : tKD := (road x.2, (if o = true then (x.1, "") else ((0 : Int), x.2.1)), x.1)
end PG
namespace VL
open PySem PySem.NumText
def numS (n : Nat) : String := toString (n : Int)
theorem numS_list (n : Nat) : (numS n).toList = Nat.toDigits 10 n := by
  show (Nat.repr n).toList = _
  rw [Nat.toList_repr]
theorem numS_digit (n : Nat) : ∀ c ∈ (numS n).toList, c.isDigit = true := fun c hc => by
  rw [numS_list] at hc
  exact Nat.isDigit_of_mem_toDigits (by decide) (by decide) hc
theorem numS_len (n : Nat) : (numS n).length = (Nat.toDigits 10 n).length := by rw [← String.length_toList, numS_list]
theorem head_digits (m : Nat) : 1 ≤ m → (Nat.toDigits 10 m).head? ≠ some '0' := by
  induction m using Nat.strongRecOn with
  | _ m ih =>
    intro hm
    by_cases h : m < 10
    · rw [Nat.toDigits_of_lt_base h]
      have : ∀ d : Nat, d < 10 → 1 ≤ d → some (Nat.digitChar d) ≠ some '0' := by decide
      exact this m h hm
    · have h2 : m % 10 < 10 := Nat.mod_lt m (by decide)
      have t : Nat.toDigits 10 (m / 10) ++ Nat.toDigits 10 (m % 10) = Nat.toDigits 10 (10 * (m / 10) + m % 10) := Nat.toDigits_append_toDigits (by decide) (by omega) h2
      rw [Nat.div_add_mod] at t
      rw [← t]
      have i := ih (m / 10) (by omega) (by omega)
      cases e : Nat.toDigits 10 (m / 10) with
      | nil =>
        have := PySem.toDigits_len_ge 10 (m / 10)
        rw [e] at this
        exact absurd this (by decide)
      | cons c r => rw [e] at i; exact i
theorem numS_le {n : Nat} (h : n < 10 ^ 60) : (numS n).length ≤ 60 := by
  rw [numS_len]; exact PyProof.Rows.digits10_le (by decide) h
theorem numS_pos (n : Nat) : 1 ≤ (numS n).length := by
  rw [numS_len]; exact PySem.toDigits_len_ge 10 n
theorem intText_num {m : Nat} (h : m < 10 ^ 60) : intText? (Str.ofString (numS m)) = some (m : Int) := by
  have hd : AllDigits (Str.ofString (numS m)).cps.toList := by
    intro c hc
    rw [show (Str.ofString (numS m)).cps.toList = _ from PySem.W.KIN.signs_num m] at hc
    obtain ⟨ch, hch, e⟩ := List.mem_map.mp hc
    have r := PyProof.Rows.digit_range (Nat.isDigit_of_mem_toDigits (by decide) (by decide) hch)
    rw [← e]
    exact r
  have hne : (Str.ofString (numS m)).cps.toList ≠ [] := by
    rw [show (Str.ofString (numS m)).cps.toList = _ from PySem.W.KIN.signs_num m]
    intro e
    have h := PySem.toDigits_len_ge 10 m
    rw [List.map_eq_nil_iff.mp e] at h
    exact absurd h (by decide)
  have hl := numS_le h
  have e := intText_digits hd hne (by rw [ofString_len]; omega)
  rw [show (Str.ofString (numS m)).cps.toList = _ from PySem.W.KIN.signs_num m, PySem.W.KIN.val_back] at e
  exact e
end VL
namespace K81
open PySem L2 PyProof.Rows VL
noncomputable section
variable {P : Program} {w : World} {K : PySem.W.Frag} {mg : Str → Option Value} {base : Heap}
theorem sc_L_bad : FnScope ["_law_cell", "_law_text", "_law_number", "_law_some"] ["_law_cell", "_law_text", "_law_number"] (defScope s_L_bad) := ⟨rfl, rfl, rfl, by decide +kernel, rfl, by decide +kernel, by decide +kernel⟩
def t_L_bad_2 : S3 :=
  sSeq (sAsg (eFrzL (eOp fCat (eVar 3) (eLst (eCons (eOp fAdd (eC (.str "_")) (eVar 1)) (eCons (eC .non) (eCons (eC (.bl true)) (eCons (eVar 2) (eCons (eFrzL (eLst (eCons (eVar 1) (eNil)))) (eCons (eTup (eCons (eVar 1) (eNil))) (eNil)))))))))) (gName 3)) (sRet (eIxD (eVar 3) (eOp fMod (eVar 0) (eC (.int 23)))))
def t_L_bad_1 : S3 :=
  sSeq (sAsg (eFrzL (eOp fCat (eVar 3) (eLst (eCons (eOp fAdd (eC (.str "--")) (eVar 1)) (eCons (eC (.str "-0")) (eCons (eC (.str "")) (eCons (eC (.str "-")) (eCons (eOp fAdd (eC (.str "9")) (eOp fMulT (eC (.str "0")) (eC (.int 60)))) (eCons (eOp fAdd (eVar 1) (eC (.str ".0"))) (eCons (eOp fAdd (eC (.str "-0")) (eVar 1)) (eCons (eOp fAdd (eC (.str "x")) (eVar 1)) (eCons (eOp fAdd (eVar 1) (eC (.str "e1"))) (eNil))))))))))))) (gName 3)) (t_L_bad_2)
def m_L_bad : S3 :=
  sSeq (sAsg (eFrzL (eLst (eCons (eOp fAdd (eC (.str "0")) (eVar 1)) (eCons (eOp fAdd (eC (.str "+")) (eVar 1)) (eCons (eOp fAdd (eC (.str " ")) (eVar 1)) (eCons (eOp fAdd (eVar 1) (eC (.str " "))) (eCons (eOp fAdd (eVar 1) (eC (.str "\n"))) (eCons (eOp fAdd (eC (.str "\n")) (eVar 1)) (eCons (eOp fAdd (eVar 1) (eC (.str "_0"))) (eCons (eOp fAdd (eVar 1) (eC (.str "a"))) (eNil))))))))))) (gName 3)) (t_L_bad_1)
noncomputable def f_L_bad : Fn := bodyP 4 m_L_bad
theorem d_L_bad {f : Addr} {fd : FuncData} (F : FunD K "_law_bad" "_law_bad" (defArgs s_L_bad) (defBody s_L_bad) (defScope s_L_bad) [] [] f fd)  :
    FnOk P w K mg base (L2.CX P w) 1 f fd ["_law_cell", "_law_text", "_law_number"] (spP (GK P w K) 3 f_L_bad) :=
  fn_okP2 F sc_L_bad (by decide) fun cdv A outer s H E hr tk0 po0 => (sss_cons (ss_set (i := 3) sc_L_bad.nd rfl (by first | exact Or.inl rfl | exact Or.inr rfl) (se_frzL (se_lst (sa_cons (se_add (se_str) (sv 1)) (sa_cons (se_add (se_str) (sv 1)) (sa_cons (se_add (se_str) (sv 1)) (sa_cons (se_add (sv 1) (se_str)) (sa_cons (se_add (sv 1) (se_str)) (sa_cons (se_add (se_str) (sv 1)) (sa_cons (se_add (sv 1) (se_str)) (sa_cons (se_add (sv 1) (se_str)) (sa_nil)))))))))))) (sss_cons (ss_set (i := 3) sc_L_bad.nd rfl (by first | exact Or.inl rfl | exact Or.inr rfl) (se_frzL (se_cat (sv 3) (se_lst (sa_cons (se_add (se_str) (sv 1)) (sa_cons (se_str) (sa_cons (se_str) (sa_cons (se_str) (sa_cons (se_add (se_str) (se_mulT (se_str) (se_int))) (sa_cons (se_add (sv 1) (se_str)) (sa_cons (se_add (se_str) (sv 1)) (sa_cons (se_add (se_str) (sv 1)) (sa_cons (se_add (sv 1) (se_str)) (sa_nil)))))))))))))) (sss_cons (ss_set (i := 3) sc_L_bad.nd rfl (by first | exact Or.inl rfl | exact Or.inr rfl) (se_frzL (se_cat (sv 3) (se_lst (sa_cons (se_add (se_str) (sv 1)) (sa_cons (se_non) (sa_cons (se_bl) (sa_cons (sv 2) (sa_cons (se_frzL (se_lst (sa_cons (sv 1) (sa_nil)))) (sa_cons (se_tup (sa_cons (sv 1) (sa_nil))) (sa_nil))))))))))) (sss_one (ss_ret (se_ixD (u65 hr) (sv 3) (se_mod (sv 0) (se_int))))))))
theorem sc_read_number : FnScope ["text", "sign"] ["text"] (defScope s_read_number) := ⟨rfl, rfl, rfl, by decide +kernel, rfl, by decide +kernel, by decide +kernel⟩
def b_read_number_1 : S3 :=
  sIf (bVal (eOp fNotInD (eVar 1) (eC (.str "0123456789")))) (sRaise "NoRow") (sNx)
def t_read_number_2 : S3 :=
  sSeq (sIf (bAnd (bVal (eOp fEq (eIxD (eVar 0) (eC (.int 0))) (eC (.str "0")))) (bVal (eOp fGt (eCB rLenD (eCons (eVar 0) (eNil))) (eC (.int 1))))) (sRaise "NoRow") (sNx)) (sRet (eCB rIntT3 (eCons (eVar 0) (eNil))))
def t_read_number_1 : S3 :=
  sSeq (sFor (iRow (eVar 0)) (gName 1) b_read_number_1) (t_read_number_2)
def m_read_number : S3 :=
  sSeq (sIf (bOr (bNot (bVal (eIsi "str" (eVar 0)))) (bOr (bVal (eOp fLt (eCB rLenD (eCons (eVar 0) (eNil))) (eC (.int 1)))) (bVal (eOp fGt (eCB rLenD (eCons (eVar 0) (eNil))) (eC (.int 60)))))) (sRaise "NoRow") (sNx)) (t_read_number_1)
noncomputable def f_read_number : Fn := bodyP 2 m_read_number
theorem d_read_number {f : Addr} {fd : FuncData} (F : FunD K "read_number" "read_number" (defArgs s_read_number) (defBody s_read_number) (defScope s_read_number) [] [] f fd) (b_isinstance : mg "isinstance" = Option.none) (b_str : mg "str" = Option.none) (b_len : mg "len" = Option.none) (x_NoRow : ExcK K mg "NoRow") (g_FIGURES : GlobS K mg (GK P w K) "FIGURES" (.str "0123456789")) (b_int : mg "int" = Option.none) :
    FnOk P w K mg base (L2.CX P w) 1 f fd ["text"] (spP (GK P w K) 1 f_read_number) :=
  fn_okP2 F sc_read_number (by decide) fun cdv A outer s H E hr tk0 po0 => (sss_cons (ss_if (sw_sb (sw_or (sb_not (sb_val (se_isi (b := "str") (by rfl) b_isinstance (by rfl) b_str (by decide +kernel) (by decide) (sv 0)))) (sw_or (sb_lt (se_lenD (by rfl) b_len (sa_cons (sv 0) (sa_nil))) (se_int)) (sw_or1 (sb_gt (se_lenD (by rfl) b_len (sa_cons (sv 0) (sa_nil))) (se_int)))))) (sss_one (ss_raise x_NoRow.at rfl tk0 (by rfl))) (sss_nil)) (sss_cons (ss_for po0 rfl (si_row (sv 0)) (sg_name (i := 1) sc_read_number.nd rfl (by first | exact Or.inl rfl | exact Or.inr rfl)) (sss_one (ss_if (sb_notinD (u65 hr) (sv 1) ((g_FIGURES).se (by rfl))) (sss_one (ss_raise x_NoRow.at rfl tk0 (by rfl))) (sss_nil)))) (sss_cons (ss_if (sw_sb (sw_and (sb_eq hr.units (se_ixD (u65 hr) (sv 0) (se_int)) (se_str)) (sw_and1 (sb_gt (se_lenD (by rfl) b_len (sa_cons (sv 0) (sa_nil))) (se_int))))) (sss_one (ss_raise x_NoRow.at rfl tk0 (by rfl))) (sss_nil)) (sss_one (ss_ret (se_intT (by rfl) b_int (sa_cons (sv 0) (sa_nil))))))))
theorem sc_read_value : FnScope ["text", "number"] ["text"] (defScope s_read_value) := ⟨rfl, rfl, rfl, by decide +kernel, rfl, by decide +kernel, by decide +kernel⟩
def t_read_value_2 : S3 :=
  sSeq (sIf (bVal (eOp fEq (eVar 1) (eC (.int 0)))) (sRaise "NoRow") (sNx)) (sRet (eUn fNeg (eVar 1)))
def t_read_value_1 : S3 :=
  sSeq (sAsg (eCallP 1 [] f_read_number (eCons (eFrzL (eSl (eVar 0) (oPart (eC (.int 1))) (oNo))) (eNil))) (gName 1)) (t_read_value_2)
def m_read_value : S3 :=
  sSeq (sIf (bOr (bNot (bVal (eIsi "str" (eVar 0)))) (bVal (eOp fNe (eFrzL (eSl (eVar 0) (oNo) (oPart (eC (.int 1))))) (eC (.str "-"))))) (sRet (eCallP 1 [] f_read_number (eCons (eVar 0) (eNil)))) (sNx)) (t_read_value_1)
noncomputable def f_read_value : Fn := bodyP 2 m_read_value
theorem d_read_value {f : Addr} {fd : FuncData} (F : FunD K "read_value" "read_value" (defArgs s_read_value) (defBody s_read_value) (defScope s_read_value) [] [] f fd) (b_isinstance : mg "isinstance" = Option.none) (b_str : mg "str" = Option.none) (c_read_number_1 : CallPS P w K mg base (GK P w K) "read_number" 1 1 [] f_read_number) (x_NoRow : ExcK K mg "NoRow") :
    FnOk P w K mg base (L2.CX P w) 2 f fd ["text"] (spP (GK P w K) 1 f_read_value) :=
  fn_okP2 F sc_read_value (by decide) fun cdv A outer s H E hr tk0 po0 => (sss_cons (ss_if (sw_sb (sw_or (sb_not (sb_val (se_isi (b := "str") (by rfl) b_isinstance (by rfl) b_str (by decide +kernel) (by decide) (sv 0)))) (sw_or1 (sb_ne hr.units (se_frzL (se_sl (sv 0) (so_none) (so_some (se_int)))) (se_str))))) (sss_one (ss_ret (se_callP c_read_number_1 (mo hr) (by rfl) tk0 (sa_cons (sv 0) (sa_nil))))) (sss_nil)) (sss_cons (ss_set (i := 1) sc_read_value.nd rfl (by first | exact Or.inl rfl | exact Or.inr rfl) (se_callP c_read_number_1 (mo hr) (by rfl) tk0 (sa_cons (se_frzL (se_sl (sv 0) (so_some (se_int)) (so_none))) (sa_nil)))) (sss_cons (ss_if (sb_eq hr.units (sv 1) (se_int)) (sss_one (ss_raise x_NoRow.at rfl tk0 (by rfl))) (sss_nil)) (sss_one (ss_ret (se_neg (sv 1)))))))
theorem sc_L_refused : FnScope ["_law_thing", "_law_value", "_law_named", "_law_others", "_law_more", "e"] ["_law_thing", "_law_value"] (defScope s_L_refused) := ⟨rfl, rfl, rfl, by decide +kernel, rfl, by decide +kernel, by decide +kernel⟩
def b_L_refused_1 : S3 :=
  sIf (bVal (eVar 1)) (sExpr (eCallP 1 [] f_read_value (eCons (eVar 0) (eNil)))) (sExpr (eCallP 1 [] f_read_number (eCons (eVar 0) (eNil))))
def b_L_refused_2 : String → S3 :=
  fun c =>
  sSeq (sAsg (eFrzL (eLst (eCons (eXIs 5 c (isx c "NoRow")) (eCons (eXIs 5 c true) (eCons (eXIs 5 c (isx c "NoWord")) (eCons (eXIs 5 c (isx c "NoDeed")) (eNil))))))) (gName 2)) (sSeq (sAsg (eFrzL (eLst (eCons (eXIs 5 c (isx c "NoHouse")) (eCons (eXIs 5 c (isx c "NoPlace")) (eCons (eXIs 5 c (isx c "NoLetter")) (eCons (eXIs 5 c (isx c "Early")) (eNil))))))) (gName 3)) (sAsg (eFrzL (eLst (eCons (eXIs 5 c (isx c "TooMany")) (eCons (eXIs 5 c (isx c "Unawaited")) (eNil))))) (gName 4)))
def t_L_refused_4 : S3 :=
  sRet (eAnd (eOp fEq (eVar 2) (eFrzL (eLst (eCons (eC (.bl true)) (eCons (eC (.bl true)) (eCons (eC (.bl false)) (eCons (eC (.bl false)) (eNil)))))))) (eAnd (eOp fEq (eVar 3) (eFrzL (eLst (eCons (eC (.bl false)) (eCons (eC (.bl false)) (eCons (eC (.bl false)) (eCons (eC (.bl false)) (eNil)))))))) (eOp fEq (eVar 4) (eFrzL (eLst (eCons (eC (.bl false)) (eCons (eC (.bl false)) (eNil))))))))
def t_L_refused_3 : S3 :=
  sSeq (sTry 5 "WardenError" xns b_L_refused_1 b_L_refused_2) (t_L_refused_4)
def t_L_refused_2 : S3 :=
  sSeq (sAsg (eFrzL (eLst (eNil))) (gName 4)) (t_L_refused_3)
def t_L_refused_1 : S3 :=
  sSeq (sAsg (eFrzL (eLst (eNil))) (gName 3)) (t_L_refused_2)
def m_L_refused : S3 :=
  sSeq (sAsg (eFrzL (eLst (eNil))) (gName 2)) (t_L_refused_1)
noncomputable def f_L_refused : Fn := bodyP 6 m_L_refused
theorem d_L_refused {f : Addr} {fd : FuncData} (F : FunD K "_law_refused" "_law_refused" (defArgs s_L_refused) (defBody s_L_refused) (defScope s_L_refused) [] [] f fd) (c_read_value_1 : CallPS P w K mg base (GK P w K) "read_value" 2 1 [] f_read_value) (c_read_number_1 : CallPS P w K mg base (GK P w K) "read_number" 1 1 [] f_read_number) (xt : XTab K (GK P w K) xns) (gx_NoRow : mg "NoRow" = some (.ref ((GK P w K).cA "NoRow"))) (b_isinstance : mg "isinstance" = Option.none) (b_ValueError : mg "ValueError" = Option.none) (gx_NoWord : mg "NoWord" = some (.ref ((GK P w K).cA "NoWord"))) (gx_NoDeed : mg "NoDeed" = some (.ref ((GK P w K).cA "NoDeed"))) (gx_NoHouse : mg "NoHouse" = some (.ref ((GK P w K).cA "NoHouse"))) (gx_NoPlace : mg "NoPlace" = some (.ref ((GK P w K).cA "NoPlace"))) (gx_NoLetter : mg "NoLetter" = some (.ref ((GK P w K).cA "NoLetter"))) (gx_Early : mg "Early" = some (.ref ((GK P w K).cA "Early"))) (gx_TooMany : mg "TooMany" = some (.ref ((GK P w K).cA "TooMany"))) (gx_Unawaited : mg "Unawaited" = some (.ref ((GK P w K).cA "Unawaited"))) (gx_WardenError : mg "WardenError" = some (.ref ((GK P w K).cA "WardenError"))) :
    FnOk P w K mg base (L2.CX P w) 3 f fd ["_law_thing", "_law_value"] (spP (GK P w K) 2 f_L_refused) :=
  fn_okP2 F sc_L_refused (by decide) fun cdv A outer s H E hr tk0 po0 => (sss_cons (ss_set (i := 2) sc_L_refused.nd rfl (by first | exact Or.inl rfl | exact Or.inr rfl) (se_frzL (se_lst (sa_nil)))) (sss_cons (ss_set (i := 3) sc_L_refused.nd rfl (by first | exact Or.inl rfl | exact Or.inr rfl) (se_frzL (se_lst (sa_nil)))) (sss_cons (ss_set (i := 4) sc_L_refused.nd rfl (by first | exact Or.inl rfl | exact Or.inr rfl) (se_frzL (se_lst (sa_nil)))) (sss_cons (ss_try (i := 5) xt (by decide) (by rfl) gx_WardenError tk0 sc_L_refused.nd rfl (fun W pn xe tk1 po1 => sss_one (ss_if (sb_val (sv 1)) (sss_one (ss_expr (se_callP c_read_value_1 (mo hr) (by rfl) tk1 (sa_cons (sv 0) (sa_nil))))) (sss_one (ss_expr (se_callP c_read_number_1 (mo hr) (by rfl) tk1 (sa_cons (sv 0) (sa_nil))))))) (fun a oe c pn hc hz hv => sss_cons (ss_set (i := 2) sc_L_refused.nd rfl (by first | exact Or.inl rfl | exact Or.inr rfl) (se_frzL (se_lst (sa_cons (se_xis xt hc (by decide) hz hv (by rfl) b_isinstance (by rfl) gx_NoRow rfl (by first | exact Or.inl rfl | exact Or.inr (Or.inl rfl) | exact Or.inr (Or.inr rfl))) (sa_cons (se_xisB xt hc hz hv (by rfl) b_isinstance (by rfl) b_ValueError rfl (by first | exact Or.inl rfl | exact Or.inr (Or.inl rfl) | exact Or.inr (Or.inr rfl))) (sa_cons (se_xis xt hc (by decide) hz hv (by rfl) b_isinstance (by rfl) gx_NoWord rfl (by first | exact Or.inl rfl | exact Or.inr (Or.inl rfl) | exact Or.inr (Or.inr rfl))) (sa_cons (se_xis xt hc (by decide) hz hv (by rfl) b_isinstance (by rfl) gx_NoDeed rfl (by first | exact Or.inl rfl | exact Or.inr (Or.inl rfl) | exact Or.inr (Or.inr rfl))) (sa_nil)))))))) (sss_cons (ss_set (i := 3) sc_L_refused.nd rfl (by first | exact Or.inl rfl | exact Or.inr rfl) (se_frzL (se_lst (sa_cons (se_xis xt hc (by decide) hz hv (by rfl) b_isinstance (by rfl) gx_NoHouse rfl (by first | exact Or.inl rfl | exact Or.inr (Or.inl rfl) | exact Or.inr (Or.inr rfl))) (sa_cons (se_xis xt hc (by decide) hz hv (by rfl) b_isinstance (by rfl) gx_NoPlace rfl (by first | exact Or.inl rfl | exact Or.inr (Or.inl rfl) | exact Or.inr (Or.inr rfl))) (sa_cons (se_xis xt hc (by decide) hz hv (by rfl) b_isinstance (by rfl) gx_NoLetter rfl (by first | exact Or.inl rfl | exact Or.inr (Or.inl rfl) | exact Or.inr (Or.inr rfl))) (sa_cons (se_xis xt hc (by decide) hz hv (by rfl) b_isinstance (by rfl) gx_Early rfl (by first | exact Or.inl rfl | exact Or.inr (Or.inl rfl) | exact Or.inr (Or.inr rfl))) (sa_nil)))))))) (sss_one (ss_set (i := 4) sc_L_refused.nd rfl (by first | exact Or.inl rfl | exact Or.inr rfl) (se_frzL (se_lst (sa_cons (se_xis xt hc (by decide) hz hv (by rfl) b_isinstance (by rfl) gx_TooMany rfl (by first | exact Or.inl rfl | exact Or.inr (Or.inl rfl) | exact Or.inr (Or.inr rfl))) (sa_cons (se_xis xt hc (by decide) hz hv (by rfl) b_isinstance (by rfl) gx_Unawaited rfl (by first | exact Or.inl rfl | exact Or.inr (Or.inl rfl) | exact Or.inr (Or.inr rfl))) (sa_nil)))))))))) (sss_one (ss_ret (se_and (se_eq hr.units (sv 2) (se_frzL (se_lst (sa_cons (se_bl) (sa_cons (se_bl) (sa_cons (se_bl) (sa_cons (se_bl) (sa_nil)))))))) (se_and (se_eq hr.units (sv 3) (se_frzL (se_lst (sa_cons (se_bl) (sa_cons (se_bl) (sa_cons (se_bl) (sa_cons (se_bl) (sa_nil)))))))) (se_one (se_eq hr.units (sv 4) (se_frzL (se_lst (sa_cons (se_bl) (sa_cons (se_bl) (sa_nil)))))))))))))))
theorem sc_L_whole : FnScope ["_law_found", "_law_due"] ["_law_found", "_law_due"] (defScope s_L_whole) := ⟨rfl, rfl, rfl, by decide +kernel, rfl, by decide +kernel, by decide +kernel⟩
def m_L_whole : S3 :=
  sRet (eAnd (eIsi "int" (eVar 0)) (eAnd (eNot (eIsi "bool" (eVar 0))) (eOp fEq (eVar 0) (eVar 1))))
noncomputable def f_L_whole : Fn := bodyP 2 m_L_whole
theorem d_L_whole {f : Addr} {fd : FuncData} (F : FunD K "_law_whole" "_law_whole" (defArgs s_L_whole) (defBody s_L_whole) (defScope s_L_whole) [] [] f fd) (b_isinstance : mg "isinstance" = Option.none) (b_int : mg "int" = Option.none) (b_bool : mg "bool" = Option.none) :
    FnOk P w K mg base (L2.CX P w) 1 f fd ["_law_found", "_law_due"] (spP (GK P w K) 2 f_L_whole) :=
  fn_okP2 F sc_L_whole (by decide) fun cdv A outer s H E hr tk0 po0 => (sss_one (ss_ret (se_and (se_isi (b := "int") (by rfl) b_isinstance (by rfl) b_int (by decide +kernel) (by decide) (sv 0)) (se_and (se_not (se_isi (b := "bool") (by rfl) b_isinstance (by rfl) b_bool (by decide +kernel) (by decide) (sv 0))) (se_one (se_eq hr.units (sv 0) (sv 1)))))))
theorem sc_L_one : FnScope ["_law_cell", "_law_number", "_law_text", "_law_bad_here"] ["_law_cell"] (defScope s_L_one) := ⟨rfl, rfl, rfl, by decide +kernel, rfl, by decide +kernel, by decide +kernel⟩
def t_L_one_4 : S3 :=
  sSeq (sAsg (eCallP 3 [] f_L_bad (eCons (eOp fDiv (eVar 0) (eC (.int 3))) (eCons (eVar 2) (eCons (eVar 1) (eNil))))) (gName 3)) (sRet (eAnd (eCallP 2 [] f_L_refused (eCons (eVar 3) (eCons (eC (.bl true)) (eNil)))) (eCallP 2 [] f_L_refused (eCons (eVar 3) (eCons (eC (.bl false)) (eNil))))))
def t_L_one_3 : S3 :=
  sSeq (sIf (bVal (eOp fGt (eVar 1) (eC (.int 0)))) (sIf (bOr (bNot (bVal (eCallP 2 [] f_L_whole (eCons (eCallP 1 [] f_read_value (eCons (eOp fAdd (eC (.str "-")) (eVar 2)) (eNil))) (eCons (eUn fNeg (eVar 1)) (eNil)))))) (bNot (bVal (eCallP 2 [] f_L_refused (eCons (eOp fAdd (eC (.str "-")) (eVar 2)) (eCons (eC (.bl false)) (eNil))))))) (sRet (eC (.bl false))) (sNx)) (sNx)) (t_L_one_4)
def t_L_one_2 : S3 :=
  sSeq (sIf (bOr (bNot (bVal (eCallP 2 [] f_L_whole (eCons (eCallP 1 [] f_read_number (eCons (eVar 2) (eNil))) (eCons (eVar 1) (eNil)))))) (bNot (bVal (eCallP 2 [] f_L_whole (eCons (eCallP 1 [] f_read_value (eCons (eVar 2) (eNil))) (eCons (eVar 1) (eNil))))))) (sRet (eC (.bl false))) (sNx)) (t_L_one_3)
def t_L_one_1 : S3 :=
  sSeq (sAsg (eCB rStr3 (eCons (eVar 1) (eNil))) (gName 2)) (t_L_one_2)
def m_L_one : S3 :=
  sSeq (sAsg (eOp fMod (eCB rAbs3 (eCons (eVar 0) (eNil))) (eOp fPow (eC (.int 10)) (eC (.int 60)))) (gName 1)) (t_L_one_1)
noncomputable def f_L_one : Fn := bodyP 4 m_L_one
theorem d_L_one {f : Addr} {fd : FuncData} (F : FunD K "_law_one" "_law_one" (defArgs s_L_one) (defBody s_L_one) (defScope s_L_one) [] [] f fd) (b_abs : mg "abs" = Option.none) (b_str : mg "str" = Option.none) (c_L_whole_2 : CallPS P w K mg base (GK P w K) "_law_whole" 1 2 [] f_L_whole) (c_read_number_1 : CallPS P w K mg base (GK P w K) "read_number" 1 1 [] f_read_number) (c_read_value_1 : CallPS P w K mg base (GK P w K) "read_value" 2 1 [] f_read_value) (c_L_refused_2 : CallPS P w K mg base (GK P w K) "_law_refused" 3 2 [] f_L_refused) (c_L_bad_3 : CallPS P w K mg base (GK P w K) "_law_bad" 1 3 [] f_L_bad) :
    FnOk P w K mg base (L2.CX P w) 4 f fd ["_law_cell"] (spP (GK P w K) 1 f_L_one) :=
  fn_okP2 F sc_L_one (by decide) fun cdv A outer s H E hr tk0 po0 => (sss_cons (ss_set (i := 1) sc_L_one.nd rfl (by first | exact Or.inl rfl | exact Or.inr rfl) (se_mod (se_abs (by rfl) b_abs (sa_cons (sv 0) (sa_nil))) (se_pow (se_int) (se_int)))) (sss_cons (ss_set (i := 2) sc_L_one.nd rfl (by first | exact Or.inl rfl | exact Or.inr rfl) (se_stri (by rfl) b_str (sa_cons (sv 1) (sa_nil)))) (sss_cons (ss_if (sw_sb (sw_or (sb_not (sb_val (se_callP c_L_whole_2 (mo hr) (by rfl) tk0 (sa_cons (se_callP c_read_number_1 (mo hr) (by rfl) tk0 (sa_cons (sv 2) (sa_nil))) (sa_cons (sv 1) (sa_nil)))))) (sw_or1 (sb_not (sb_val (se_callP c_L_whole_2 (mo hr) (by rfl) tk0 (sa_cons (se_callP c_read_value_1 (mo hr) (by rfl) tk0 (sa_cons (sv 2) (sa_nil))) (sa_cons (sv 1) (sa_nil))))))))) (sss_one (ss_ret (se_bl))) (sss_nil)) (sss_cons (ss_if (sb_gt (sv 1) (se_int)) (sss_one (ss_if (sw_sb (sw_or (sb_not (sb_val (se_callP c_L_whole_2 (mo hr) (by rfl) tk0 (sa_cons (se_callP c_read_value_1 (mo hr) (by rfl) tk0 (sa_cons (se_add (se_str) (sv 2)) (sa_nil))) (sa_cons (se_neg (sv 1)) (sa_nil)))))) (sw_or1 (sb_not (sb_val (se_callP c_L_refused_2 (mo hr) (by rfl) tk0 (sa_cons (se_add (se_str) (sv 2)) (sa_cons (se_bl) (sa_nil))))))))) (sss_one (ss_ret (se_bl))) (sss_nil))) (sss_nil)) (sss_cons (ss_set (i := 3) sc_L_one.nd rfl (by first | exact Or.inl rfl | exact Or.inr rfl) (se_callP c_L_bad_3 (mo hr) (by rfl) tk0 (sa_cons (se_fdiv (sv 0) (se_int)) (sa_cons (sv 2) (sa_cons (sv 1) (sa_nil)))))) (sss_one (ss_ret (se_and (se_callP c_L_refused_2 (mo hr) (by rfl) tk0 (sa_cons (sv 3) (sa_cons (se_bl) (sa_nil)))) (se_one (se_callP c_L_refused_2 (mo hr) (by rfl) tk0 (sa_cons (sv 3) (sa_cons (se_bl) (sa_nil)))))))))))))
theorem sc_law : FnScope ["_law_script", "_law_cell"] ["_law_script"] (defScope s_law) := ⟨rfl, rfl, rfl, by decide +kernel, rfl, by decide +kernel, by decide +kernel⟩
def b_law_1 : S3 :=
  sIf (bNot (bVal (eCallP 1 [] f_L_one (eCons (eVar 1) (eNil))))) (sRet (eC (.bl false))) (sNx)
def t_law_1 : S3 :=
  sRet (eAnd (eCallP 1 [] f_L_one (eCons (eC (.int 0)) (eNil))) (eAnd (eCallP 1 [] f_L_one (eCons (eOp fSub (eOp fPow (eC (.int 10)) (eC (.int 60))) (eC (.int 1))) (eNil))) (eCallP 1 [] f_L_one (eCons (eUn fNeg (eC (.int 7))) (eNil)))))
def m_law : S3 :=
  sSeq (sFor (iRow (eFrzL (eSl (eVar 0) (oNo) (oPart (eC (.int 98)))))) (gName 1) b_law_1) (t_law_1)
def f_law : Fn := bodyF 2 m_law
theorem d_law {f : Addr} {fd : FuncData} (F : FunD K "law" "law" (defArgs s_law) (defBody s_law) (defScope s_law) [] [] f fd) (c_L_one_1 : CallPS P w K mg base (GK P w K) "_law_one" 4 1 [] f_L_one) :
    FnOk P w K mg base (L2.CX P w) 5 f fd ["_law_script"] (spOf (GK P w K) 1 f_law) :=
  fn_ok2 F sc_law (by decide) fun cdv A outer s H E hr tk0 po0 => (sss_cons (ss_for po0 rfl (si_row (se_frzL (se_sl (sv 0) (so_none) (so_some (se_int))))) (sg_name (i := 1) sc_law.nd rfl (by first | exact Or.inl rfl | exact Or.inr rfl)) (sss_one (ss_if (sb_not (sb_val (se_callP c_L_one_1 (mo hr) (by rfl) tk0 (sa_cons (sv 1) (sa_nil))))) (sss_one (ss_ret (se_bl))) (sss_nil)))) (sss_one (ss_ret (se_and (se_callP c_L_one_1 (mo hr) (by rfl) tk0 (sa_cons (se_int) (sa_nil))) (se_and (se_callP c_L_one_1 (mo hr) (by rfl) tk0 (sa_cons (se_sub (se_pow (se_int) (se_int)) (se_int)) (sa_nil))) (se_one (se_callP c_L_one_1 (mo hr) (by rfl) tk0 (sa_cons (se_neg (se_int)) (sa_nil)))))))))
end
theorem exAt {K : PySem.W.Frag} (h : ex K = true) (i : Nat) {b : Bool} (e : (exL K)[i]? = some b) : b = true := List.all_eq_true.mp h b (List.mem_of_getElem? e)
theorem facts {P : Program} {w : World} {K : PySem.W.Frag} {h : Heap} {mg : Str → Option Value} {f : Addr} (X : K.In h) (Gn : h.Ns mainGlobals mg) (hfa : mg ("law" : Str) = some (.ref f)) (c : SaysY fa fn ex K) :
    ∃ fd : FuncData, (∀ (s : Shared) (v : Value), BindsTo s fd ⟨[v], []⟩ [("_law_script", v)]) ∧ ∀ base : Heap, K.In base → base.Ns mainGlobals mg → FnOk P w K mg base (L2.CX P w) 5 f fd ["_law_script"] (spOf (GK P w K) 1 f_law) := by
  obtain ⟨fd_L_bad, F_L_bad⟩ := c.d.def_ 0 (d := D_L_bad) rfl
  obtain ⟨fd_read_number, F_read_number⟩ := c.d.def_ 1 (d := D_read_number) rfl
  obtain ⟨fd_read_value, F_read_value⟩ := c.d.def_ 2 (d := D_read_value) rfl
  obtain ⟨fd_L_refused, F_L_refused⟩ := c.d.def_ 3 (d := D_L_refused) rfl
  obtain ⟨fd_L_whole, F_L_whole⟩ := c.d.def_ 4 (d := D_L_whole) rfl
  obtain ⟨fd_L_one, F_L_one⟩ := c.d.def_ 5 (d := D_L_one) rfl
  obtain ⟨fd_law, F_law⟩ := c.d.def_ 6 (d := D_law) rfl
  have e := hfa.symm.trans (He.glo_ok X Gn (c.d.fact 25 rfl))
  cases e
  have b_isinstance : mg "isinstance" = Option.none := He.free_ok X Gn (c.d.fact 0 rfl)
  have b_str : mg "str" = Option.none := He.free_ok X Gn (c.d.fact 1 rfl)
  have b_len : mg "len" = Option.none := He.free_ok X Gn (c.d.fact 2 rfl)
  have x_NoRow : ExcK K mg "NoRow" := ⟨(He.exc_ok (c.d.fact 3 rfl)).1, He.glo_ok X Gn (c.d.fact 4 rfl), (He.exc_ok (c.d.fact 3 rfl)).2.1, (He.exc_ok (c.d.fact 3 rfl)).2.2.1, (He.exc_ok (c.d.fact 3 rfl)).2.2.2⟩
  have g_FIGURES : GlobS K mg (GK P w K) "FIGURES" (.str "0123456789") := gstr_ok (He.str_ok X Gn (c.d.fact 5 rfl))
  have b_int : mg "int" = Option.none := He.free_ok X Gn (c.d.fact 6 rfl)
  have xt : XTab K (GK P w K) xns := xtabB_ok (exAt c.more 0 rfl)
  have gx_NoRow : mg "NoRow" = some (.ref ((GK P w K).cA "NoRow")) := He.glo_ok X Gn (c.d.fact 4 rfl)
  have b_ValueError : mg "ValueError" = Option.none := He.free_ok X Gn (c.d.fact 7 rfl)
  have gx_NoWord : mg "NoWord" = some (.ref ((GK P w K).cA "NoWord")) := He.glo_ok X Gn (c.d.fact 8 rfl)
  have gx_NoDeed : mg "NoDeed" = some (.ref ((GK P w K).cA "NoDeed")) := He.glo_ok X Gn (c.d.fact 9 rfl)
  have gx_NoHouse : mg "NoHouse" = some (.ref ((GK P w K).cA "NoHouse")) := He.glo_ok X Gn (c.d.fact 10 rfl)
  have gx_NoPlace : mg "NoPlace" = some (.ref ((GK P w K).cA "NoPlace")) := He.glo_ok X Gn (c.d.fact 11 rfl)
  have gx_NoLetter : mg "NoLetter" = some (.ref ((GK P w K).cA "NoLetter")) := He.glo_ok X Gn (c.d.fact 12 rfl)
  have gx_Early : mg "Early" = some (.ref ((GK P w K).cA "Early")) := He.glo_ok X Gn (c.d.fact 13 rfl)
  have gx_TooMany : mg "TooMany" = some (.ref ((GK P w K).cA "TooMany")) := He.glo_ok X Gn (c.d.fact 14 rfl)
  have gx_Unawaited : mg "Unawaited" = some (.ref ((GK P w K).cA "Unawaited")) := He.glo_ok X Gn (c.d.fact 15 rfl)
  have gx_WardenError : mg "WardenError" = some (.ref ((GK P w K).cA "WardenError")) := He.glo_ok X Gn (c.d.fact 16 rfl)
  have b_bool : mg "bool" = Option.none := He.free_ok X Gn (c.d.fact 17 rfl)
  have b_abs : mg "abs" = Option.none := He.free_ok X Gn (c.d.fact 18 rfl)
  have bl := FunD.bindsA (ps := ["_law_script"]) F_law fun _ _ _ _ _ _ us hl => match us, hl with | [_], _ => rfl
  refine ⟨fd_law, fun s v => bl s [v] rfl, fun base _ _ => ?_⟩
  have O_L_bad := d_L_bad (P := P) (w := w) (mg := mg) (base := base) F_L_bad 
  have O_read_number := d_read_number (P := P) (w := w) (mg := mg) (base := base) F_read_number b_isinstance b_str b_len x_NoRow g_FIGURES b_int
  have c_read_number_1 : CallPS P w K mg base (GK P w K) "read_number" 1 1 [] f_read_number := by
    obtain ⟨ds, hv, hb⟩ := bn0 (FunD.bindsN (ps := ["text"]) F_read_number fun _ _ _ _ _ _ us hl => match us, hl with | [_], _ => rfl)
    exact ⟨_, _, _, _, ds, O_read_number, He.glo_ok X Gn (c.d.fact 19 rfl), F_read_number.kp, hb, hv, fun _ _ => rfl⟩
  have O_read_value := d_read_value (P := P) (w := w) (mg := mg) (base := base) F_read_value b_isinstance b_str c_read_number_1 x_NoRow
  have c_read_value_1 : CallPS P w K mg base (GK P w K) "read_value" 2 1 [] f_read_value := by
    obtain ⟨ds, hv, hb⟩ := bn0 (FunD.bindsN (ps := ["text"]) F_read_value fun _ _ _ _ _ _ us hl => match us, hl with | [_], _ => rfl)
    exact ⟨_, _, _, _, ds, O_read_value, He.glo_ok X Gn (c.d.fact 20 rfl), F_read_value.kp, hb, hv, fun _ _ => rfl⟩
  have O_L_refused := d_L_refused (P := P) (w := w) (mg := mg) (base := base) F_L_refused c_read_value_1 c_read_number_1 xt gx_NoRow b_isinstance b_ValueError gx_NoWord gx_NoDeed gx_NoHouse gx_NoPlace gx_NoLetter gx_Early gx_TooMany gx_Unawaited gx_WardenError
  have O_L_whole := d_L_whole (P := P) (w := w) (mg := mg) (base := base) F_L_whole b_isinstance b_int b_bool
  have c_L_whole_2 : CallPS P w K mg base (GK P w K) "_law_whole" 1 2 [] f_L_whole := by
    obtain ⟨ds, hv, hb⟩ := bn0 (FunD.bindsN (ps := ["_law_found", "_law_due"]) F_L_whole fun _ _ _ _ _ _ us hl => match us, hl with | [_, _], _ => rfl)
    exact ⟨_, _, _, _, ds, O_L_whole, He.glo_ok X Gn (c.d.fact 21 rfl), F_L_whole.kp, hb, hv, fun _ _ => rfl⟩
  have c_L_refused_2 : CallPS P w K mg base (GK P w K) "_law_refused" 3 2 [] f_L_refused := by
    obtain ⟨ds, hv, hb⟩ := bn0 (FunD.bindsN (ps := ["_law_thing", "_law_value"]) F_L_refused fun _ _ _ _ _ _ us hl => match us, hl with | [_, _], _ => rfl)
    exact ⟨_, _, _, _, ds, O_L_refused, He.glo_ok X Gn (c.d.fact 22 rfl), F_L_refused.kp, hb, hv, fun _ _ => rfl⟩
  have c_L_bad_3 : CallPS P w K mg base (GK P w K) "_law_bad" 1 3 [] f_L_bad := by
    obtain ⟨ds, hv, hb⟩ := bn0 (FunD.bindsN (ps := ["_law_cell", "_law_text", "_law_number"]) F_L_bad fun _ _ _ _ _ _ us hl => match us, hl with | [_, _, _], _ => rfl)
    exact ⟨_, _, _, _, ds, O_L_bad, He.glo_ok X Gn (c.d.fact 23 rfl), F_L_bad.kp, hb, hv, fun _ _ => rfl⟩
  have O_L_one := d_L_one (P := P) (w := w) (mg := mg) (base := base) F_L_one b_abs b_str c_L_whole_2 c_read_number_1 c_read_value_1 c_L_refused_2 c_L_bad_3
  have c_L_one_1 : CallPS P w K mg base (GK P w K) "_law_one" 4 1 [] f_L_one := by
    obtain ⟨ds, hv, hb⟩ := bn0 (FunD.bindsN (ps := ["_law_cell"]) F_L_one fun _ _ _ _ _ _ us hl => match us, hl with | [_], _ => rfl)
    exact ⟨_, _, _, _, ds, O_L_one, He.glo_ok X Gn (c.d.fact 24 rfl), F_L_one.kp, hb, hv, fun _ _ => rfl⟩
  have O_law := d_law (P := P) (w := w) (mg := mg) (base := base) F_law c_L_one_1
  exact O_law
theorem ob_eq (s : PySem.W.SharedT) : ob s = hk.obs s.abs := obsY_eq (HandSHeadRun.getT_eq s)
end K81
namespace K81
open PySem L2 VL
end K81
namespace K81
open PySem L2 VL
theorem rIntT_num {n : Nat} (h : n < 10 ^ 60) (env : Env3) : rIntT3 [.im (.str (numS n))] env = some (.im (.int n)) := by
  unfold rIntT3
  dsimp only
  rw [intText_num h, Option.bind_some, ofString_len, if_pos (Nat.le_trans (numS_le h) (by decide))]
theorem fig_in (c : Char) (h : c.isDigit = true) : inT (.im (.str (String.singleton c))) (.im (.str "0123456789")) = some true := by
  have hm : ∀ c : Char, c.isDigit = true → c ∈ "0123456789".toList := by
    intro c h
    unfold Char.isDigit at h
    simp only [Bool.and_eq_true, decide_eq_true_eq] at h
    have h1 : 48 ≤ c.toNat := h.1
    have h2 : c.toNat ≤ 57 := h.2
    have e : c = Char.ofNat c.toNat := by rw [Char.ofNat_toNat]
    have : c.toNat = 48 ∨ c.toNat = 49 ∨ c.toNat = 50 ∨ c.toNat = 51 ∨ c.toNat = 52 ∨ c.toNat = 53 ∨ c.toNat = 54 ∨ c.toNat = 55 ∨ c.toNat = 56 ∨ c.toNat = 57 := by omega
    rcases this with q | q | q | q | q | q | q | q | q | q <;> rw [e, q] <;> decide
  unfold inT
  dsimp only
  have e : (String.singleton c).toList = [c] := by simp
  rw [e]
  simp only [hm c h, decide_true]
theorem signs_loop (n : Nat) (k : Option W) : ∃ k', forF (gName 1) b_read_number_1 ((numS n).toList.map fun c => EV.im (.str (String.singleton c))) [some (.val (.str (numS n))), jk k] = .nx [some (.val (.str (numS n))), jk k'] := by
  obtain ⟨e, h1, k', h2⟩ := forF_map (tg := gName 1) (b := b_read_number_1) (fun c : Char => W.str (String.singleton c)) (numS n).toList (fun _ env => ∃ k, env = [some (.val (.str (numS n))), jk k]) [some (.val (.str (numS n))), jk k]
    (by
      rintro pre c r env hq ⟨k, rfl⟩
      have hd := fig_in c (numS_digit n c (by rw [hq]; simp))
      exact ⟨_, Turn.im (by simp; rfl) (by simp [b_read_number_1, fNotIn, hd]), some (.str (String.singleton c)), rfl⟩) ⟨k, rfl⟩
  subst h2
  refine ⟨k', ?_⟩
  rw [← h1]
  congr 1
  simp [ime]
theorem read_ok {n : Nat} (h : n < 10 ^ 60) : f_read_number [.im (.str (numS n))] = .ok (.im (.int n)) [.im (.str (numS n))] := by
  obtain ⟨k', hk⟩ := signs_loop n none
  simp only [jk_none] at hk
  have l1 := numS_pos n
  have l2 := numS_le h
  have hi := rIntT_num h
  have h3 : decide (((numS n).length : Int) < 1) = false := decide_eq_false (by omega)
  have h4 : decide ((60 : Int) < ((numS n).length : Int)) = false := decide_eq_false (by omega)
  obtain ⟨c, r, hcs⟩ : ∃ c r, (numS n).toList = c :: r := by
    cases e : (numS n).toList with
    | nil => rw [← String.length_toList, e] at l1; exact absurd l1 (by decide)
    | cons c r => exact ⟨c, r, rfl⟩
  have hz : c = '0' → (numS n).length = 1 := fun e => by
    have h0 : n = 0 := by
      by_cases q : 1 ≤ n
      · have := head_digits n q
        rw [← numS_list, hcs, e] at this
        exact absurd rfl this
      · omega
    rw [h0]; decide
  have ha : atI (numS n).toList 0 = some c := by rw [hcs]; simp [atI, ixN]
  have hL : lenT (T.im (W.str (numS n))) = some (numS n).length := by
    unfold lenT
    simp
    try omega
  have hX : ixI (EV.im (W.str (numS n))) (T.im (W.str (numS n))) 0 = some (.im (.str (String.singleton c))) := by
    unfold ixI
    dsimp only
    rw [if_pos (by omega), ha]; rfl
  have hs : (String.singleton c = "0") ↔ c = '0' := by
    constructor
    · intro e
      have := congrArg String.toList e
      simpa using this
    · intro e; rw [e]; rfl
  by_cases q : c = '0'
  · have hl := hz q
    have h5 : decide ((1 : Int) < ((numS n).length : Int)) = false := decide_eq_false (by omega)
    simp [f_read_number, bodyP_ev, m_read_number, t_read_number_1, t_read_number_2, isB, hk, hi, h3, h4, h5, hL, hX, hs, q]
  · simp [f_read_number, bodyP_ev, m_read_number, t_read_number_1, t_read_number_2, isB, hk, hi, h3, h4, hL, hX, hs, q]
theorem fig_out (c : Char) (h : c.isDigit = false) : inT (.im (.str (String.singleton c))) (.im (.str "0123456789")) = some false := by
  have hm : ∀ c : Char, c ∈ "0123456789".toList → c.isDigit = true := by
    have : ∀ c ∈ "0123456789".toList, c.isDigit = true := by decide
    exact this
  have hn : c ∉ "0123456789".toList := fun q => by rw [hm c q] at h; exact absurd h (by decide)
  unfold inT
  dsimp only
  have e : (String.singleton c).toList = [c] := by simp
  rw [e]
  simp only [hn, decide_false]
theorem turn_fig (s : String) (c : Char) (h : c.isDigit = true) (k : Option W) : Turn (gName 1) b_read_number_1 (.im (.str (String.singleton c))) [some (.val (.str s)), jk k] [some (.val (.str s)), jk (some (.str (String.singleton c)))] :=
  Turn.im (by simp; rfl) (by simp [b_read_number_1, fNotIn, fig_in c h])
theorem signs_all (s : String) : ∀ (cs : List Char) (k : Option W), (∀ c ∈ cs, c.isDigit = true) → ∃ k', forF (gName 1) b_read_number_1 (cs.map fun c => EV.im (.str (String.singleton c))) [some (.val (.str s)), jk k] = .nx [some (.val (.str s)), jk k']
  | [], k, _ => ⟨k, rfl⟩
  | c :: r, k, h => by
    obtain ⟨k', e⟩ := signs_all s r (some (.str (String.singleton c))) fun d hd => h d (List.mem_cons_of_mem _ hd)
    exact ⟨k', by rw [List.map_cons, (turn_fig s c (h c List.mem_cons_self) k).go]; exact e⟩
theorem signs_bad (s : String) : ∀ (cs : List Char) (k : Option W), (∃ c ∈ cs, c.isDigit = false) → ∃ k', forF (gName 1) b_read_number_1 (cs.map fun c => EV.im (.str (String.singleton c))) [some (.val (.str s)), jk k] = .ex "NoRow" [some (.val (.str s)), jk k']
  | [], k, h => by obtain ⟨c, h, _⟩ := h; cases h
  | c :: r, k, h => by
    rw [List.map_cons]
    by_cases hd : c.isDigit = true
    · obtain ⟨k', e⟩ := signs_bad s r (some (.str (String.singleton c))) (by
        obtain ⟨d, h1, h2⟩ := h
        rcases List.mem_cons.mp h1 with rfl | h1
        · rw [hd] at h2; exact absurd h2 (by decide)
        · exact ⟨d, h1, h2⟩)
      exact ⟨k', by rw [(turn_fig s c hd k).go]; exact e⟩
    · have hd : c.isDigit = false := by simpa using hd
      exact ⟨some (.str (String.singleton c)), forF_ex _ rfl (e1 := [some (.val (.str s)), jk (some (.str (String.singleton c)))]) (by simp) (by simp [b_read_number_1, fNotIn, fig_out c hd])⟩
abbrev NoN (w : W) : Prop := f_read_number [.im w] = .exc "NoRow" [.im w]
abbrev NoV (w : W) : Prop := f_read_value [.im w] = .exc "NoRow" [.im w]
theorem len_ev {s : String} (h : s.length ≤ 10000000) : lenT (T.im (W.str s)) = some s.length := by
  unfold lenT
  simp
  try omega
theorem num_sign {s : String} (hb : s.length ≤ 10000000) (h : ∃ c ∈ s.toList, c.isDigit = false) : NoN (.str s) := by
  obtain ⟨k', hk⟩ := signs_bad s s.toList none h
  simp only [jk_none] at hk
  have hL := len_ev hb
  unfold NoN
  by_cases h3 : (s.length : Int) < 1
  · simp [f_read_number, bodyP_ev, m_read_number, t_read_number_1, t_read_number_2, isB, hL, h3]
  · by_cases h4 : (60 : Int) < (s.length : Int)
    · simp [f_read_number, bodyP_ev, m_read_number, t_read_number_1, t_read_number_2, isB, hL, h3, h4]
    · simp [f_read_number, bodyP_ev, m_read_number, t_read_number_1, t_read_number_2, isB, hL, h3, h4, hk]
theorem num_short : NoN (.str "") := by
  have hL := len_ev (s := "") (by decide)
  have h3 : ((("" : String).length : Int) < 1) := by decide
  unfold NoN
  simp [f_read_number, bodyP_ev, m_read_number, t_read_number_1, t_read_number_2, isB, hL, h3]
theorem num_long {s : String} (hb : s.length ≤ 10000000) (h : 60 < s.length) : NoN (.str s) := by
  have hL := len_ev hb
  have h3 : ¬ (s.length : Int) < 1 := by omega
  have h4 : (60 : Int) < (s.length : Int) := by omega
  unfold NoN
  simp [f_read_number, bodyP_ev, m_read_number, t_read_number_1, t_read_number_2, isB, hL, h3, h4]
theorem num_nought {s : String} (hb : s.length ≤ 10000000) (h2 : 2 ≤ s.length) (h : ∃ r, s.toList = '0' :: r) (hd : ∀ c ∈ s.toList, c.isDigit = true) : NoN (.str s) := by
  obtain ⟨k', hk⟩ := signs_all s s.toList none hd
  simp only [jk_none] at hk
  have hL := len_ev hb
  have h3 : ¬ (s.length : Int) < 1 := by omega
  have h5 : (1 : Int) < (s.length : Int) := by omega
  obtain ⟨r, hr⟩ := h
  have ha : atI s.toList 0 = some '0' := by rw [hr]; simp
  have hX : ixI (EV.im (W.str s)) (T.im (W.str s)) 0 = some (.im (.str "0")) := by
    unfold ixI
    dsimp only
    rw [if_pos hb, ha]; rfl
  unfold NoN
  by_cases h4 : (60 : Int) < (s.length : Int)
  · simp [f_read_number, bodyP_ev, m_read_number, t_read_number_1, t_read_number_2, isB, hL, h3, h4]
  · simp [f_read_number, bodyP_ev, m_read_number, t_read_number_1, t_read_number_2, isB, hL, h3, h4, h5, hk, hX]
theorem num_kind {w : W} {t : String} (h : tyT (.im w) = some t) (hs : isB t "str" = false) : NoN w := by
  unfold NoN
  simp [f_read_number, bodyP_ev, m_read_number, h, hs]
theorem val_kind {w : W} {t : String} (ht : tyT (.im w) = some t) (hs : isB t "str" = false) (h : NoN w) : NoV w := by
  unfold NoV
  unfold NoN at h
  simp [f_read_value, bodyP_ev, m_read_value, ht, hs, h]
theorem cut1 (s : String) : cutT s none (some 1) = String.ofList (s.toList.take 1) := by
  unfold cutT
  rw [show (some (1 : Int)) = some ((1 : Nat) : Int) from rfl, cutA_take]
theorem cut2 (s : String) : cutT s (some 1) none = String.ofList (s.toList.drop 1) := by
  unfold cutT
  rw [show (some (1 : Int)) = some ((1 : Nat) : Int) from rfl, cutA_drop]
theorem cutX_str {s : String} (h : s.length ≤ 10000000) (lo hi : Option Int) : cutX (.im (.str s)) lo hi = some (.im (.str (cutT s lo hi))) := if_pos h
theorem ofL_eq {a b : List Char} : String.ofList a = String.ofList b ↔ a = b := by
  constructor
  · intro e
    have := congrArg String.toList e
    simpa using this
  · intro e; rw [e]
theorem val_same_ex {s : String} (hb : s.length ≤ 10000000) (h : s.toList.take 1 ≠ ['-']) (hr : NoN (.str s)) : NoV (.str s) := by
  have hc := cutX_str hb none (some 1)
  rw [cut1] at hc
  have hne : (String.ofList (s.toList.take 1) = "-") ↔ False := by
    rw [show ("-" : String) = String.ofList ['-'] from rfl, ofL_eq]
    exact ⟨fun q => h q, False.elim⟩
  unfold NoN at hr
  unfold NoV
  simp [f_read_value, bodyP_ev, m_read_value, isB, hc, hne, hr]
theorem val_same_ok {s : String} {n : Int} (hb : s.length ≤ 10000000) (h : s.toList.take 1 ≠ ['-']) (hr : f_read_number [.im (.str s)] = .ok (.im (.int n)) [.im (.str s)]) : f_read_value [.im (.str s)] = .ok (.im (.int n)) [.im (.str s)] := by
  have hc := cutX_str hb none (some 1)
  rw [cut1] at hc
  have hne : (String.ofList (s.toList.take 1) = "-") ↔ False := by
    rw [show ("-" : String) = String.ofList ['-'] from rfl, ofL_eq]
    exact ⟨fun q => h q, False.elim⟩
  simp [f_read_value, bodyP_ev, m_read_value, isB, hc, hne, hr]
theorem minus_list (t : String) : ("-" ++ t).toList = '-' :: t.toList := by simp
theorem minus_len (t : String) : ("-" ++ t).length = t.length + 1 := by
  rw [← String.length_toList, minus_list, List.length_cons, String.length_toList]
theorem val_minus_ex {t : String} (hb : t.length ≤ 1000) (hr : NoN (.str t)) : NoV (.str ("-" ++ t)) := by
  have hb' : ("-" ++ t).length ≤ 10000000 := by rw [minus_len]; omega
  have hc := cutX_str hb' none (some 1)
  have hc2 := cutX_str hb' (some 1) none
  rw [cut1, minus_list] at hc
  rw [cut2, minus_list] at hc2
  simp only [List.take_succ_cons, List.take_zero, List.drop_succ_cons, List.drop_zero, String.ofList_toList] at hc hc2
  have hq : String.ofList ['-'] = "-" := rfl
  rw [hq] at hc
  unfold NoN at hr
  unfold NoV
  simp [f_read_value, bodyP_ev, m_read_value, t_read_value_1, t_read_value_2, isB, hc, hc2, hr]
theorem val_minus_ok {t : String} {n : Int} (hb : t.length ≤ 1000) (hn : n ≠ 0) (hr : f_read_number [.im (.str t)] = .ok (.im (.int n)) [.im (.str t)]) : f_read_value [.im (.str ("-" ++ t))] = .ok (.im (.int (-n))) [.im (.str ("-" ++ t))] := by
  have hb' : ("-" ++ t).length ≤ 10000000 := by rw [minus_len]; omega
  have hc := cutX_str hb' none (some 1)
  have hc2 := cutX_str hb' (some 1) none
  rw [cut1, minus_list] at hc
  rw [cut2, minus_list] at hc2
  simp only [List.take_succ_cons, List.take_zero, List.drop_succ_cons, List.drop_zero, String.ofList_toList] at hc hc2
  have hq : String.ofList ['-'] = "-" := rfl
  rw [hq] at hc
  simp [f_read_value, bodyP_ev, m_read_value, t_read_value_1, t_read_value_2, isB, hc, hc2, hr, hn]
theorem val_minus_zero : NoV (.str "-0") := by
  have hr : f_read_number [.im (.str "0")] = .ok (.im (.int 0)) [.im (.str "0")] := read_ok (n := 0) (by decide)
  have hb' : ("-0" : String).length ≤ 10000000 := by decide
  have hc := cutX_str hb' none (some 1)
  have hc2 := cutX_str hb' (some 1) none
  rw [cut1, show String.ofList (("-0" : String).toList.take 1) = "-" from rfl] at hc
  rw [cut2, show String.ofList (("-0" : String).toList.drop 1) = "0" from rfl] at hc2
  unfold NoV
  simp [f_read_value, bodyP_ev, m_read_value, t_read_value_1, t_read_value_2, isB, hc, hc2, hr]
theorem refused_v {w : W} (h : NoV w) : f_L_refused [.im w, .im (.bl true)] = .ok (.im (.bl true)) [.im w, .im (.bl true)] := by
  unfold NoV at h
  simp [f_L_refused, bodyP_ev, m_L_refused, t_L_refused_1, t_L_refused_2, t_L_refused_3, t_L_refused_4, b_L_refused_1, b_L_refused_2, h]
theorem refused_n {w : W} (h : NoN w) : f_L_refused [.im w, .im (.bl false)] = .ok (.im (.bl true)) [.im w, .im (.bl false)] := by
  unfold NoN at h
  simp [f_L_refused, bodyP_ev, m_L_refused, t_L_refused_1, t_L_refused_2, t_L_refused_3, t_L_refused_4, b_L_refused_1, b_L_refused_2, h]
theorem whole_ev (a : Int) : f_L_whole [.im (.int a), .im (.int a)] = .ok (.im (.bl true)) [.im (.int a), .im (.int a)] := by
  simp [f_L_whole, bodyP_ev, m_L_whole, isB]
theorem tl_app (a b : String) : (a ++ b).toList = a.toList ++ b.toList := by simp
theorem ln_app (a b : String) : (a ++ b).length = a.length + b.length := by
  rw [← String.length_toList, tl_app, List.length_append, String.length_toList, String.length_toList]
theorem add_ev {a b : String} (h : a.length + b.length ≤ 10000000) : fAdd (.im (.str a)) (.im (.str b)) = some (.im (.str (a ++ b))) := fAdd_str h
theorem nine_ev : fMulT (.im (.str "0")) (.im (.int 60)) = some (.im (.str (repS "0" 60))) := rfl
theorem nine_len : (repS "0" 60).length = 60 := by decide
abbrev Bad (w : W) : Prop := NoV w ∧ NoN w
theorem bad_sign {s : String} (hb : s.length ≤ 1000) (h1 : s.toList.take 1 ≠ ['-']) (h : ∃ c ∈ s.toList, c.isDigit = false) : Bad (.str s) :=
  ⟨val_same_ex (by omega) h1 (num_sign (by omega) h), num_sign (by omega) h⟩
theorem bad_minus {t : String} (hb : t.length ≤ 1000) (h : NoN (.str t)) : Bad (.str ("-" ++ t)) :=
  ⟨val_minus_ex hb h, num_sign (by rw [minus_len]; omega) ⟨'-', by rw [minus_list]; simp, by decide⟩⟩
theorem dig_ne {c : Char} (h : c.isDigit = true) : c ≠ '-' := fun e => by subst e; exact absurd h (by decide)
theorem take_dig {n : Nat} : (numS n).toList.take 1 ≠ ['-'] := fun e => by
  have : '-' ∈ (numS n).toList := List.mem_of_mem_take (i := 1) (by rw [e]; simp)
  exact dig_ne (numS_digit n _ this) rfl
theorem take_app {a b : String} (h : 1 ≤ a.length) (h2 : a.toList.take 1 ≠ ['-']) : (a ++ b).toList.take 1 ≠ ['-'] := by
  rw [tl_app, List.take_append_of_le_length (by rw [String.length_toList]; exact h)]
  exact h2
theorem bad_pre (p : String) (n : Nat) (hn : n < 10 ^ 60) (hp : p.length ≤ 10) (h1 : 1 ≤ p.length) (h2 : p.toList.take 1 ≠ ['-']) (h3 : ∃ c ∈ p.toList, c.isDigit = false) : Bad (.str (p ++ numS n)) := by
  have hl := numS_le hn
  obtain ⟨c, hc, hd⟩ := h3
  exact bad_sign (by rw [ln_app]; omega) (take_app h1 h2) ⟨c, by rw [tl_app]; exact List.mem_append_left _ hc, hd⟩
theorem bad_post (p : String) (n : Nat) (hn : n < 10 ^ 60) (hp : p.length ≤ 10) (h3 : ∃ c ∈ p.toList, c.isDigit = false) : Bad (.str (numS n ++ p)) := by
  have hl := numS_le hn
  obtain ⟨c, hc, hd⟩ := h3
  exact bad_sign (by rw [ln_app]; omega) (take_app (numS_pos n) take_dig) ⟨c, by rw [tl_app]; exact List.mem_append_right _ hc, hd⟩
theorem nought_n (n : Nat) (hn : n < 10 ^ 60) : NoN (.str ("0" ++ numS n)) := by
  have hl := numS_le hn
  have hp := numS_pos n
  refine num_nought (by rw [ln_app, show ("0" : String).length = 1 from rfl]; omega) (by rw [ln_app, show ("0" : String).length = 1 from rfl]; omega) ⟨(numS n).toList, by rw [tl_app]; rfl⟩ fun c hc => ?_
  rw [tl_app] at hc
  rcases List.mem_append.mp hc with hc | hc
  · have : c = '0' := by simpa using hc
    rw [this]; decide
  · exact numS_digit n c hc
theorem kind_bad {w : W} {t : String} (h : tyT (.im w) = some t) (hs : isB t "str" = false) : Bad w :=
  ⟨val_kind h hs (num_kind h hs), num_kind h hs⟩
def badW (n : Nat) : List W :=
  [.str ("0" ++ numS n), .str ("+" ++ numS n), .str (" " ++ numS n), .str (numS n ++ " "), .str (numS n ++ "\n"), .str ("\n" ++ numS n), .str (numS n ++ "_0"), .str (numS n ++ "a"),
   .str ("--" ++ numS n), .str "-0", .str "", .str "-", .str ("9" ++ repS "0" 60), .str (numS n ++ ".0"), .str ("-0" ++ numS n), .str ("x" ++ numS n), .str (numS n ++ "e1"),
   .str ("_" ++ numS n), .non, .bl true, .int n, .lst [.str (numS n)], .tup [.str (numS n)]]
theorem badW_bad (n : Nat) (hn : n < 10 ^ 60) : ∀ w ∈ badW n, Bad w := by
  have hl := numS_le hn
  have h9 : Bad (.str ("9" ++ repS "0" 60)) := by
    have hL : ("9" ++ repS "0" 60).length = 61 := by rw [ln_app, nine_len]; rfl
    have hN : NoN (.str ("9" ++ repS "0" 60)) := num_long (by rw [hL]; omega) (by rw [hL]; omega)
    exact ⟨val_same_ex (by rw [hL]; omega) (take_app (by decide) (by decide)) hN, hN⟩
  have hmm : Bad (.str ("--" ++ numS n)) := by
    have e : "--" ++ numS n = "-" ++ ("-" ++ numS n) := by rw [← String.append_assoc]; rfl
    rw [e]
    exact bad_minus (by rw [minus_len]; omega) (num_sign (by rw [minus_len]; omega) ⟨'-', by rw [minus_list]; simp, by decide⟩)
  have hm0 : Bad (.str ("-0" ++ numS n)) := by
    have e : "-0" ++ numS n = "-" ++ ("0" ++ numS n) := by rw [← String.append_assoc]; rfl
    rw [e]
    exact bad_minus (by rw [ln_app, show ("0" : String).length = 1 from rfl]; omega) (nought_n n hn)
  have h0 : Bad (.str ("0" ++ numS n)) := ⟨val_same_ex (by rw [ln_app, show ("0" : String).length = 1 from rfl]; omega) (take_app (by decide) (by decide)) (nought_n n hn), nought_n n hn⟩
  have hz : Bad (.str "-0") := ⟨val_minus_zero, num_sign (by decide) ⟨'-', by decide, by decide⟩⟩
  have he : Bad (.str "") := ⟨val_same_ex (by decide) (by decide) num_short, num_short⟩
  have hm : Bad (.str "-") := bad_minus (t := "") (by decide) num_short
  intro w hw
  unfold badW at hw
  simp only [List.mem_cons, List.not_mem_nil, or_false] at hw
  rcases hw with rfl | rfl | rfl | rfl | rfl | rfl | rfl | rfl | rfl | rfl | rfl | rfl | rfl | rfl | rfl | rfl | rfl | rfl | rfl | rfl | rfl | rfl | rfl
  · exact h0
  · exact bad_pre "+" n hn (by decide) (by decide) (by decide) ⟨'+', by decide, by decide⟩
  · exact bad_pre " " n hn (by decide) (by decide) (by decide) ⟨' ', by decide, by decide⟩
  · exact bad_post " " n hn (by decide) ⟨' ', by decide, by decide⟩
  · exact bad_post "\n" n hn (by decide) ⟨'\n', by decide, by decide⟩
  · exact bad_pre "\n" n hn (by decide) (by decide) (by decide) ⟨'\n', by decide, by decide⟩
  · exact bad_post "_0" n hn (by decide) ⟨'_', by decide, by decide⟩
  · exact bad_post "a" n hn (by decide) ⟨'a', by decide, by decide⟩
  · exact hmm
  · exact hz
  · exact he
  · exact hm
  · exact h9
  · exact bad_post ".0" n hn (by decide) ⟨'.', by decide, by decide⟩
  · exact hm0
  · exact bad_pre "x" n hn (by decide) (by decide) (by decide) ⟨'x', by decide, by decide⟩
  · exact bad_post "e1" n hn (by decide) ⟨'e', by decide, by decide⟩
  · exact bad_pre "_" n hn (by decide) (by decide) (by decide) ⟨'_', by decide, by decide⟩
  · exact kind_bad (t := "NoneType") rfl (by decide)
  · exact kind_bad (t := "bool") rfl (by decide)
  · exact kind_bad (t := "int") rfl (by decide)
  · exact kind_bad (t := "list") rfl (by decide)
  · exact kind_bad (t := "tuple") rfl (by decide)
theorem bad_ev (z : Int) (n : Nat) (hn : n < 10 ^ 60) : ∃ w, w ∈ badW n ∧ f_L_bad [.im (.int z), .im (.str (numS n)), .im (.int n)] = .ok (.im w) [.im (.int z), .im (.str (numS n)), .im (.int n)] := by
  have hl := numS_le hn
  have hc : (badW n).length = 23 := rfl
  obtain ⟨i, hi, hkk⟩ : ∃ i : Nat, i < 23 ∧ z % 23 = (i : Int) := by
    have hk1 := Int.emod_nonneg z (show (23 : Int) ≠ 0 by decide)
    have hk2 := Int.emod_lt_of_pos z (show (0 : Int) < 23 by decide)
    exact ⟨(z % 23).toNat, by omega, by omega⟩
  have hat : atI (badW n) (z % 23) = some ((badW n)[i]'(by rw [hc]; omega)) := by
    rw [hkk, atI_int (by omega) (by rw [hc]; omega)]
    simp
  refine ⟨(badW n)[i]'(by rw [hc]; omega), List.getElem_mem _, ?_⟩
  generalize (badW n)[i]'(by rw [hc]; omega) = w at hat
  unfold badW at hat
  have q : ∀ p : String, p.length ≤ 10 → fAdd (.im (.str p)) (.im (.str (numS n))) = some (.im (.str (p ++ numS n))) := fun p hp => add_ev (by omega)
  have r : ∀ p : String, p.length ≤ 10 → fAdd (.im (.str (numS n))) (.im (.str p)) = some (.im (.str (numS n ++ p))) := fun p hp => add_ev (by omega)
  have n9 : fAdd (.im (.str "9")) (.im (.str (repS "0" 60))) = some (.im (.str ("9" ++ repS "0" 60))) := add_ev (by rw [nine_len]; decide)
  have q1 := q "0" (by decide)
  have q2 := q "+" (by decide)
  have q3 := q " " (by decide)
  have q4 := r " " (by decide)
  have q5 := r "\n" (by decide)
  have q6 := q "\n" (by decide)
  have q7 := r "_0" (by decide)
  have q8 := r "a" (by decide)
  have q9 := q "--" (by decide)
  have qa := r ".0" (by decide)
  have qb := q "-0" (by decide)
  have qc := q "x" (by decide)
  have qd := r "e1" (by decide)
  have qe := q "_" (by decide)
  clear q r
  generalize hs : numS n = s at *
  generalize hz9 : repS "0" 60 = z9 at *
  have nn := nine_ev
  rw [hz9] at nn
  simp [f_L_bad, bodyP_ev, m_L_bad, t_L_bad_1, t_L_bad_2, q1, q2, q3, q4, q5, q6, q7, q8, q9, qa, qb, qc, qd, qe, n9, nn, hat, -fAdd_str]
theorem log60 {n : Nat} (h : n < 10 ^ 60) : ((n : Int).natAbs).log2 < 1920 := by
  rw [Int.natAbs_natCast]
  by_cases h0 : n = 0
  · subst h0; decide
  · exact (Nat.log2_lt h0).mpr (Nat.lt_of_lt_of_le h (by decide))
theorem str_ev {n : Nat} (h : n < 10 ^ 60) (env : Env3) : rStr3 [.im (.int n)] env = some (.im (.str (numS n))) := by
  unfold rStr3
  dsimp only
  rw [if_pos (log60 h)]
  rfl
theorem one_ev (z : Int) : f_L_one [.im (.int z)] = .ok (.im (.bl true)) [.im (.int z)] := by
  obtain ⟨n, hn, hz⟩ : ∃ n : Nat, n < 10 ^ 60 ∧ (if z < 0 then -z else z) % 1000000000000000000000000000000000000000000000000000000000000 = (n : Int) := by
    refine ⟨((if z < 0 then -z else z) % 1000000000000000000000000000000000000000000000000000000000000).toNat, ?_, ?_⟩ <;> split <;> omega
  have hl := numS_le hn
  obtain ⟨w, hw, hb⟩ := bad_ev (z / 3) n hn
  obtain ⟨hv, hm⟩ := badW_bad n hn w hw
  have r1 := refused_v hv
  have r2 := refused_n hm
  have hs := str_ev hn
  have k1 := read_ok hn
  have k2 := val_same_ok (n := (n : Int)) (by omega) take_dig k1
  have k3 := whole_ev (n : Int)
  have hm' : fAdd (.im (.str "-")) (.im (.str (numS n))) = some (.im (.str ("-" ++ numS n))) := add_ev (by rw [show ("-" : String).length = 1 from rfl]; omega)
  have r3 := refused_n (w := .str ("-" ++ numS n)) (num_sign (by rw [minus_len]; omega) ⟨'-', by rw [minus_list]; simp, by decide⟩)
  by_cases h0 : n = 0
  · have hp : ¬ (0 : Int) < (n : Int) := by omega
    have hp' : ¬ 0 < n := by omega
    generalize numS n = s at *
    simp [f_L_one, bodyP_ev, m_L_one, t_L_one_1, t_L_one_2, t_L_one_3, t_L_one_4, hz, hs, k1, k2, k3, hb, r1, r2, hp, hp']
  · have k4 := val_minus_ok (t := numS n) (n := (n : Int)) (by omega) (by omega) k1
    have k5 := whole_ev (-(n : Int))
    have hp : (0 : Int) < (n : Int) := by omega
    have hp' : 0 < n := by omega
    generalize numS n = s at *
    simp [f_L_one, bodyP_ev, m_L_one, t_L_one_1, t_L_one_2, t_L_one_3, t_L_one_4, hz, hs, k1, k2, k3, k4, k5, hm', hb, r1, r2, r3, hp, hp', -fAdd_str]
theorem law_ok (ns : List Int) (hn : ns.length ≤ 63) : ∃ ts, f_law [.im (.scr (ns.map W.int))] = .ok (.im (.bl true)) ts := by
  have hcut : cutA (ns.map W.int) none (some (98 : Int)) = ns.map W.int := by
    rw [show (some (98 : Int)) = some ((98 : Nat) : Int) from rfl, cutA_take, List.take_of_length_le (by simp; omega)]
  obtain ⟨env, h1, k, h2⟩ := forF_map (tg := gName 1) (b := b_law_1) W.int ns (fun _ env => ∃ k, env = [some (.val (.scr (ns.map W.int))), jk k]) [some (.val (.scr (ns.map W.int))), none]
    (by
      rintro pre x r env hq ⟨k, rfl⟩
      have h1 := one_ev x
      exact ⟨_, Turn.im (by simp; rfl) (by simp [b_law_1, h1]), some (.int x), rfl⟩)
    ⟨none, rfl⟩
  subst h2
  have h0 := one_ev 0
  have h9 := one_ev 999999999999999999999999999999999999999999999999999999999999
  have h7 := one_ev (-7)
  refine ⟨[.im (.scr (ns.map W.int))], ?_⟩
  simp [f_law, bodyF_ev, m_law, t_law_1, hcut, h1, h0, h9, h7]
end K81
namespace K81
open PySem L2 PyProof.Rows VL
end K81
open PySem PySem.W PySem.Calls PyProof.Rows
theorem K81.holds_of (law_ok : ∀ ns : List Int, ns.length ≤ 63 → ∃ ts, K81.f_law [.im (.scr (ns.map VL.W.int))] = .ok (.im (.bl true)) ts) : PySem.Challenge.rw_linewarden_k81_numbers_read.Holds := by
  w_on; o_law
  refine HandSHeadRun.head_any (r := OpenLaw.row PySem.Challenge.rw_linewarden_k81_numbers_read) (q := view (OpenLaw.row PySem.Challenge.rw_linewarden_k81_numbers_read).prog [20]) (H := K81.hk) (ob := K81.ob) (M := 9000) (loose := K81.loose) (d := HandSHeadRun.topDef (OpenLaw.row PySem.Challenge.rw_linewarden_k81_numbers_read).prog 20) (kwd := []) K81.ob_eq
    (by kernel_rfl) (fun s => by kernel_rfl) K81.run (by kernel_rfl) (by kernel_rfl) (by kernel_rfl) (by rfl) (by first | assumption | decide +kernel) (by decide +kernel) ⟨rfl, rfl, rfl, rfl, rfl, by decide +kernel⟩ ?hw ?hc
  case hw => w_witness2
  case hc =>
    refine VL.walk_ofX (l := PySem.Challenge.rw_linewarden_k81_numbers_read) (n := 63) (k := 5) (x := "_law_script") rfl (by decide) (by kernel_rfl) ⟨rfl, by decide, by decide⟩ ?F
    intro w mg fa h Y G hmg0
    obtain ⟨K, KX, c⟩ := Y
    have hmg : mg ("law" : PySem.Str) = some (.ref fa) := by
      have e : (HandSHeadRun.topDef (OpenLaw.row PySem.Challenge.rw_linewarden_k81_numbers_read).prog 20).name = ("law" : PySem.Str) := by kernel_rfl
      rw [← e]
      exact hmg0
    obtain ⟨fd, hb, hF⟩ := K81.facts (P := (PySem.Challenge.rw_linewarden_k81_numbers_read).prog) (w := w) KX G hmg c
    exact ⟨K, fd, K81.f_law, KX, hb, law_ok, hF⟩
theorem PySem.Challenge.cw_linewarden_k81_numbers_read_holds : PySem.Challenge.rw_linewarden_k81_numbers_read.Holds :=
  K81.holds_of K81.law_ok
#print axioms PySem.Challenge.cw_linewarden_k81_numbers_read_holds
