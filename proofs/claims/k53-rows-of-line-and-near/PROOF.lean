import PyProof.Rows.All
import Wide.All
import OpenK.AllK
import Wide.FinOn
import HandS.ForMost
import HandS.ForExc
import HandS.DictTup
import HandS.SortKw
import HandS.Deep
import HandS.Defaults
import HandS.IsInst
import HandS.TupAny
import HandS.HeadHook2
import HandS.HeadEnd
import HandS.Ends
import HandS.Head0
import HandS.Head1
import HandS.Head2
import HandS.Comp
import HandS.Rev
import HandS.Zip
import HandS.Small
import PySem.Challenge.RW_linewarden_k53_rows_of_line_and_near
set_option Elab.async false
set_option linter.all false
set_option maxRecDepth 100000
set_option maxHeartbeats 4000000
namespace LW
open PySem L2

/-- a value: what never changes is a tree -/
inductive W where
  | non | bl (b : Bool) | int (i : Int) | str (s : String)
  | tup (xs : List W) | lst (xs : List W) | scr (xs : List W)
  | ins (C : String) (fs : List (String × W))
  | ref (a : Addr)
  | exn (C : String)
  | ktp (xs : List W)

/-- what a cell holds: a list, a dict, an instance; or a whole object that is opened before use -/
inductive MO where
  | lst (xs : List W)
  | dic (kvs : List (W × W))
  | ins (C : String) (fs : List (String × W))
inductive BX where
  | val (w : W)
  | lst (xs : List W)
  | dic (kvs : List (W × W))
  | obj (C : String) (fs : List (String × BX))
  | lob (ts : List BX)
inductive Cell where
  | flat (m : MO)
  | box (t : BX)
abbrev Heap2 := Addr → Option Cell
def upd2 (M : Heap2) (a : Addr) (c : Option Cell) : Heap2 := fun b => if b = a then c else M b
theorem upd2_same {M : Heap2} {a : Addr} {c : Option Cell} : upd2 M a c a = c := by unfold upd2; rw [if_pos rfl]
theorem upd2_ne {M : Heap2} {a b : Addr} {c : Option Cell} (h : b ≠ a) : upd2 M a c b = M b := by unfold upd2; rw [if_neg h]
abbrev Env2 := List (Option W)

/-- the world of one run: the written part, the classes' addresses, the program and world -/
structure Gm where
  K : PySem.W.Frag
  cA : String → Addr

/-- ghosts: Z frozen, P kept for others, ft a cell's addresses -/
structure Gh where
  Z : Addr → Prop
  P : Addr → Prop
  ft : Addr → List Addr

/-- a key of a dict as the hand layer has it -/
def keyOf : W → Option Key
  | .int i => some (.inl i)
  | .str s => some (.inr (Str.ofString s))
  | _ => none

/-- a list that never changes: the script -/
def SqF (K : PySem.W.Frag) (H : Hp) (a : Addr) (xs : List V) : Prop :=
  (∃ o, H a = some (.frz o (.lst xs))) ∨
    ∃ (o : Obj) (its : Array Value) (n : Nat), K.lookup a = some o ∧ o.cls = .type "list" ∧ o.dict = none ∧ o.data = .seq its n ∧ its.size ≤ sizeLine ∧ Vals xs its.toList
theorem SqF.seq {K : PySem.W.Frag} {H : Hp} {a : Addr} {xs : List V} (h : SqF K H a xs) : SqL K H a xs := h.elim (fun h => .inl (.inr h)) .inr
section
variable (G : Gm) (Z : Addr → Prop) (H : Hp)
mutual
def Rep : W → V → Prop
  | .non, v => v = .non
  | .bl b, v => v = .bl b
  | .int i, v => v = .int i
  | .str s, v => v = .str (Str.ofString s)
  | .tup xs, v => ∃ p vs, v = .ref p ∧ H p = some (.tup vs) ∧ RepL xs vs
  | .lst xs, v => ∃ p vs, v = .ref p ∧ Z p ∧ H p = some (.lst vs) ∧ RepL xs vs
  | .scr xs, v => ∃ p vs, v = .ref p ∧ SqF G.K H p vs ∧ RepL xs vs
  | .ins C fs, v => ∃ p dx vs, v = .ref p ∧ Z p ∧ H p = some (.ins (G.cA C) dx vs) ∧ RepF fs vs
  | .ref a, v => v = .ref a
  | .exn _, _ => False
  | .ktp xs, v => ∃ p vs, v = .ref p ∧ SqT G.K H p vs ∧ RepL xs vs
def RepL : List W → List V → Prop
  | [], vs => vs = []
  | x :: xs, vs => ∃ v r, vs = v :: r ∧ Rep x v ∧ RepL xs r
def RepF : List (String × W) → List (Str × V) → Prop
  | [], vs => vs = []
  | (f, x) :: xs, vs => ∃ v r, vs = (Str.ofString f, v) :: r ∧ Rep x v ∧ RepF xs r
end
def RepD : List (W × W) → List (Key × V) → Prop
  | [], vs => vs = []
  | (k, x) :: xs, vs => ∃ kk v r, vs = (kk, v) :: r ∧ keyOf k = some kk ∧ Rep G Z H x v ∧ RepD xs r
def RepT : List (W × W) → List (List Key × V) → Prop
  | [], vs => vs = []
  | (k, x) :: xs, vs => ∃ ks kk v r, vs = (kk, v) :: r ∧ k = .tup ks ∧ ks.map keyOf = kk.map some ∧ Rep G Z H x v ∧ RepT xs r
def FlatR (a : Addr) : MO → Prop
  | .lst xs => ∃ vs, H a = some (.lst vs) ∧ RepL G Z H xs vs
  | .dic kvs => (∃ vs, H a = some (.dK vs) ∧ RepD G Z H kvs vs) ∨ (∃ vs, H a = some (.dT vs) ∧ RepT G Z H kvs vs)
  | .ins C fs => ∃ dx vs, H a = some (.ins (G.cA C) dx vs) ∧ RepF G Z H fs vs
mutual
def BoxR : BX → V → List Addr → Prop
  | .val w, v, A => A = [] ∧ Rep G Z H w v
  | .lst xs, v, A => ∃ p, v = .ref p ∧ A = [p] ∧ FlatR G Z H p (.lst xs)
  | .dic kvs, v, A => ∃ p, v = .ref p ∧ A = [p] ∧ FlatR G Z H p (.dic kvs)
  | .obj C fs, v, A => ∃ p dx vs B, v = .ref p ∧ A = p :: B ∧ H p = some (.ins (G.cA C) dx vs) ∧ BoxF fs vs B
  | .lob ts, v, A => ∃ p vs B, v = .ref p ∧ A = p :: B ∧ H p = some (.lst vs) ∧ BoxL ts vs B
def BoxL : List BX → List V → List Addr → Prop
  | [], vs, A => vs = [] ∧ A = []
  | t :: ts, vs, A => ∃ v r B C, vs = v :: r ∧ A = B ++ C ∧ BoxR t v B ∧ BoxL ts r C
def BoxF : List (String × BX) → List (Str × V) → List Addr → Prop
  | [], vs, A => vs = [] ∧ A = []
  | (f, t) :: ts, vs, A => ∃ v r B C, vs = (Str.ofString f, v) :: r ∧ A = B ++ C ∧ BoxR t v B ∧ BoxF ts r C
end
def CellR (a : Addr) : Cell → List Addr → Prop
  | .flat m, A => A = [a] ∧ FlatR G Z H a m
  | .box t, A => BoxR G Z H t (.ref a) A
end

/-- what is kept of the heap by every step -/
structure Keep (g : Gh) (H : Hp) (g' : Gh) (H' : Hp) : Prop where
  z : ∀ p, g.Z p → g'.Z p ∧ H' p = H p
  p : ∀ p, g.P p → g'.P p ∧ H' p = H p
  q : ∀ p, g'.P p → g.P p
  tups : ∀ b xs, H b = some (.tup xs) → H' b = some (.tup xs)
  frzs : ∀ b o u, H b = some (.frz o u) → H' b = some (.frz o u)
theorem Keep.refl (g : Gh) (H : Hp) : Keep g H g H := ⟨fun _ h => ⟨h, rfl⟩, fun _ h => ⟨h, rfl⟩, fun _ h => h, fun _ _ h => h, fun _ _ _ h => h⟩
theorem Keep.trans {g1 g2 g3 : Gh} {H1 H2 H3 : Hp} (a : Keep g1 H1 g2 H2) (b : Keep g2 H2 g3 H3) : Keep g1 H1 g3 H3 :=
  ⟨fun p h => ⟨(b.z p (a.z p h).1).1, ((b.z p (a.z p h).1).2).trans (a.z p h).2⟩, fun p h => ⟨(b.p p (a.p p h).1).1, ((b.p p (a.p p h).1).2).trans (a.p p h).2⟩,
    fun p h => a.q p (b.q p h), fun c xs h => b.tups c xs (a.tups c xs h), fun c o u h => b.frzs c o u (a.frzs c o u h)⟩

/-- the part of Keep that values lean on -/
structure KeepZ (Z : Addr → Prop) (H : Hp) (Z' : Addr → Prop) (H' : Hp) : Prop where
  z : ∀ p, Z p → Z' p ∧ H' p = H p
  tups : ∀ b xs, H b = some (.tup xs) → H' b = some (.tup xs)
  frzs : ∀ b o u, H b = some (.frz o u) → H' b = some (.frz o u)
theorem Keep.kz {g g' : Gh} {H H' : Hp} (k : Keep g H g' H') : KeepZ g.Z H g'.Z H' := ⟨k.z, k.tups, k.frzs⟩

section
variable {G : Gm} {Z Z' : Addr → Prop} {H H' : Hp}
theorem sqT_keep (k : KeepZ Z H Z' H') {p : Addr} {vs : List V} (h : SqT G.K H p vs) : SqT G.K H' p vs := by
  rcases h with (h | ⟨o, h⟩) | h
  · exact .inl (.inl (k.tups _ _ h))
  · exact .inl (.inr ⟨o, k.frzs _ _ _ h⟩)
  · exact .inr h
mutual
theorem Rep.keep (k : KeepZ Z H Z' H') : ∀ {w : W} {v : V}, Rep G Z H w v → Rep G Z' H' w v
  | .non, _, h => h
  | .bl _, _, h => h
  | .int _, _, h => h
  | .str _, _, h => h
  | .tup xs, _, ⟨p, vs, e, q, r⟩ => ⟨p, vs, e, k.tups _ _ q, RepL.keep k r⟩
  | .lst xs, _, ⟨p, vs, e, q, q2, r⟩ => ⟨p, vs, e, (k.z p q).1, (k.z p q).2.trans q2, RepL.keep k r⟩
  | .scr xs, _, ⟨p, vs, e, q, r⟩ => ⟨p, vs, e, q.imp (fun ⟨o, q⟩ => ⟨o, k.frzs _ _ _ q⟩) id, RepL.keep k r⟩
  | .ins C fs, _, ⟨p, dx, vs, e, q, q2, r⟩ => ⟨p, dx, vs, e, (k.z p q).1, (k.z p q).2.trans q2, RepF.keep k r⟩
  | .ref _, _, h => h
  | .exn _, _, h => h
  | .ktp xs, _, ⟨p, vs, e, q, r⟩ => ⟨p, vs, e, sqT_keep k q, RepL.keep k r⟩
theorem RepL.keep (k : KeepZ Z H Z' H') : ∀ {xs : List W} {vs : List V}, RepL G Z H xs vs → RepL G Z' H' xs vs
  | [], _, h => h
  | x :: xs, _, ⟨v, r, e, a, b⟩ => ⟨v, r, e, Rep.keep k a, RepL.keep k b⟩
theorem RepF.keep (k : KeepZ Z H Z' H') : ∀ {xs : List (String × W)} {vs : List (Str × V)}, RepF G Z H xs vs → RepF G Z' H' xs vs
  | [], _, h => h
  | (f, x) :: xs, _, ⟨v, r, e, a, b⟩ => ⟨v, r, e, Rep.keep k a, RepF.keep k b⟩
end
theorem RepD.keep (k : KeepZ Z H Z' H') : ∀ {xs : List (W × W)} {vs : List (Key × V)}, RepD G Z H xs vs → RepD G Z' H' xs vs
  | [], _, h => h
  | (f, x) :: xs, _, ⟨kk, v, r, e, q, a, b⟩ => ⟨kk, v, r, e, q, Rep.keep k a, RepD.keep k b⟩
theorem RepT.keep (k : KeepZ Z H Z' H') : ∀ {xs : List (W × W)} {vs : List (List Key × V)}, RepT G Z H xs vs → RepT G Z' H' xs vs
  | [], _, h => h
  | (f, x) :: xs, _, ⟨ks, kk, v, r, e, q, q2, a, b⟩ => ⟨ks, kk, v, r, e, q, q2, Rep.keep k a, RepT.keep k b⟩
theorem FlatR.keep (k : KeepZ Z H Z' H') {a : Addr} (e : H' a = H a) : ∀ {m : MO}, FlatR G Z H a m → FlatR G Z' H' a m
  | .lst _, ⟨vs, q, r⟩ => ⟨vs, e.trans q, RepL.keep k r⟩
  | .dic _, .inl ⟨vs, q, r⟩ => .inl ⟨vs, e.trans q, RepD.keep k r⟩
  | .dic _, .inr ⟨vs, q, r⟩ => .inr ⟨vs, e.trans q, RepT.keep k r⟩
  | .ins _ _, ⟨dx, vs, q, r⟩ => ⟨dx, vs, e.trans q, RepF.keep k r⟩
mutual
theorem BoxR.keep (k : KeepZ Z H Z' H') : ∀ {t : BX} {v : V} {A : List Addr}, (∀ p ∈ A, H' p = H p) → BoxR G Z H t v A → BoxR G Z' H' t v A
  | .val _, _, _, _, ⟨e, q⟩ => ⟨e, Rep.keep k q⟩
  | .lst _, _, _, u, ⟨p, e, e2, q⟩ => ⟨p, e, e2, FlatR.keep k (u p (by simp [e2])) q⟩
  | .dic _, _, _, u, ⟨p, e, e2, q⟩ => ⟨p, e, e2, FlatR.keep k (u p (by simp [e2])) q⟩
  | .obj C fs, _, _, u, ⟨p, dx, vs, B, e, e2, q, r⟩ => ⟨p, dx, vs, B, e, e2, (u p (by simp [e2])).trans q, BoxF.keep k (fun x hx => u x (by simp [e2, hx])) r⟩
  | .lob ts, _, _, u, ⟨p, vs, B, e, e2, q, r⟩ => ⟨p, vs, B, e, e2, (u p (by simp [e2])).trans q, BoxL.keep k (fun x hx => u x (by simp [e2, hx])) r⟩
theorem BoxL.keep (k : KeepZ Z H Z' H') : ∀ {ts : List BX} {vs : List V} {A : List Addr}, (∀ p ∈ A, H' p = H p) → BoxL G Z H ts vs A → BoxL G Z' H' ts vs A
  | [], _, _, _, h => h
  | t :: ts, _, _, u, ⟨v, r, B, C, e, e2, a, b⟩ => ⟨v, r, B, C, e, e2, BoxR.keep k (fun x hx => u x (by simp [e2, hx])) a, BoxL.keep k (fun x hx => u x (by simp [e2, hx])) b⟩
theorem BoxF.keep (k : KeepZ Z H Z' H') : ∀ {ts : List (String × BX)} {vs : List (Str × V)} {A : List Addr}, (∀ p ∈ A, H' p = H p) → BoxF G Z H ts vs A → BoxF G Z' H' ts vs A
  | [], _, _, _, h => h
  | (f, t) :: ts, _, _, u, ⟨v, r, B, C, e, e2, a, b⟩ => ⟨v, r, B, C, e, e2, BoxR.keep k (fun x hx => u x (by simp [e2, hx])) a, BoxF.keep k (fun x hx => u x (by simp [e2, hx])) b⟩
end
theorem CellR.keep (k : KeepZ Z H Z' H') {a : Addr} {A : List Addr} (u : ∀ p ∈ A, H' p = H p) : ∀ {c : Cell}, CellR G Z H a c A → CellR G Z' H' a c A
  | .flat _, ⟨e, q⟩ => ⟨e, FlatR.keep k (u a (by simp [e])) q⟩
  | .box _, q => BoxR.keep k u q
/-- each of a cell's addresses is tracked -/
theorem FlatR.there {a : Addr} : ∀ {m : MO}, FlatR G Z H a m → ∃ o, H a = some o ∧ Mut (some o)
  | .lst _, ⟨vs, q, _⟩ => ⟨_, q, trivial⟩
  | .dic _, .inl ⟨vs, q, _⟩ => ⟨_, q, trivial⟩
  | .dic _, .inr ⟨vs, q, _⟩ => ⟨_, q, trivial⟩
  | .ins _ _, ⟨dx, vs, q, _⟩ => ⟨_, q, trivial⟩
mutual
theorem BoxR.there : ∀ {t : BX} {v : V} {A : List Addr}, BoxR G Z H t v A → ∀ p ∈ A, ∃ o, H p = some o ∧ Mut (some o)
  | .val _, _, _, ⟨e, _⟩ => by simp [e]
  | .lst _, _, _, ⟨p, _, e2, q⟩ => by
    intro x hx
    rw [e2] at hx
    rw [List.mem_singleton.mp hx]; exact q.there
  | .dic _, _, _, ⟨p, _, e2, q⟩ => by
    intro x hx
    rw [e2] at hx
    rw [List.mem_singleton.mp hx]; exact q.there
  | .obj C fs, _, _, ⟨p, dx, vs, B, _, e2, q, r⟩ => by
    intro x hx
    rw [e2] at hx
    rcases List.mem_cons.mp hx with e | h
    · rw [e]; exact ⟨_, q, trivial⟩
    · exact BoxF.there r x h
  | .lob ts, _, _, ⟨p, vs, B, _, e2, q, r⟩ => by
    intro x hx
    rw [e2] at hx
    rcases List.mem_cons.mp hx with e | h
    · rw [e]; exact ⟨_, q, trivial⟩
    · exact BoxL.there r x h
theorem BoxL.there : ∀ {ts : List BX} {vs : List V} {A : List Addr}, BoxL G Z H ts vs A → ∀ p ∈ A, ∃ o, H p = some o ∧ Mut (some o)
  | [], _, _, ⟨_, e⟩ => by simp [e]
  | t :: ts, _, _, ⟨v, r, B, C, _, e2, a, b⟩ => by
    intro x hx
    rw [e2] at hx
    rcases List.mem_append.mp hx with h | h
    · exact BoxR.there a x h
    · exact BoxL.there b x h
theorem BoxF.there : ∀ {ts : List (String × BX)} {vs : List (Str × V)} {A : List Addr}, BoxF G Z H ts vs A → ∀ p ∈ A, ∃ o, H p = some o ∧ Mut (some o)
  | [], _, _, ⟨_, e⟩ => by simp [e]
  | (f, t) :: ts, _, _, ⟨v, r, B, C, _, e2, a, b⟩ => by
    intro x hx
    rw [e2] at hx
    rcases List.mem_append.mp hx with h | h
    · exact BoxR.there a x h
    · exact BoxF.there b x h
end
theorem CellR.there {a : Addr} {A : List Addr} : ∀ {c : Cell}, CellR G Z H a c A → ∀ p ∈ A, ∃ o, H p = some o ∧ Mut (some o)
  | .flat _, ⟨e, q⟩ => by
    intro x hx
    rw [e] at hx
    rw [List.mem_singleton.mp hx]; exact q.there
  | .box _, q => BoxR.there q
end

structure Sim (G : Gm) (g : Gh) (M : Heap2) (H : Hp) : Prop where
  cell : ∀ a c, M a = some c → CellR G g.Z H a c (g.ft a)
  nd : ∀ a c, M a = some c → (g.ft a).Nodup ∧ a ∈ g.ft a
  no : ∀ a c p, M a = some c → p ∈ g.ft a → ¬ g.Z p ∧ ¬ g.P p
  dj : ∀ a b c d p, M a = some c → M b = some d → p ∈ g.ft a → p ∈ g.ft b → a = b
  zt : ∀ p, g.Z p → ¬ g.P p ∧ ∃ o, H p = some o
  pt : ∀ p, g.P p → ∃ o, H p = some o

def EnvR (G : Gm) (Z : Addr → Prop) (H : Hp) : Env2 → St → Prop
  | [], σ => σ = []
  | none :: e, σ => ∃ v r, σ = v :: r ∧ EnvR G Z H e r
  | some w :: e, σ => ∃ v r, σ = some v :: r ∧ Rep G Z H w v ∧ EnvR G Z H e r
theorem EnvR.keep {G : Gm} {Z Z' : Addr → Prop} {H H' : Hp} (k : KeepZ Z H Z' H') : ∀ {e : Env2} {σ : St}, EnvR G Z H e σ → EnvR G Z' H' e σ
  | [], _, h => h
  | none :: _, _, ⟨v, r, e, q⟩ => ⟨v, r, e, EnvR.keep k q⟩
  | some _ :: _, _, ⟨v, r, e, a, q⟩ => ⟨v, r, e, a.keep k, EnvR.keep k q⟩
theorem EnvR.get {G : Gm} {Z : Addr → Prop} {H : Hp} : ∀ {e : Env2} {σ : St} {i : Nat} {w : W}, EnvR G Z H e σ → e[i]? = some (some w) → ∃ v, σ[i]? = some (some v) ∧ Rep G Z H w v
  | none :: _, _, 0, _, ⟨v, r, e, q⟩, h => by simp at h
  | none :: _, _, i + 1, _, ⟨v, r, e, q⟩, h => by
    subst e
    simpa using EnvR.get (i := i) q (by simpa using h)
  | some _ :: _, _, 0, _, ⟨v, r, e, a, q⟩, h => by
    subst e
    rw [List.getElem?_cons_zero] at h
    cases h
    exact ⟨v, rfl, a⟩
  | some _ :: _, _, i + 1, _, ⟨v, r, e, a, q⟩, h => by
    subst e
    simpa using EnvR.get (i := i) q (by simpa using h)
theorem EnvR.set {G : Gm} {Z : Addr → Prop} {H : Hp} {w : W} {v : V} (rw : Rep G Z H w v) : ∀ {e : Env2} {σ : St} {i : Nat}, EnvR G Z H e σ → EnvR G Z H (e.set i (some w)) (σ.set i (some v))
  | [], _, _, h => by
    have h' : _ = [] := h
    subst h'
    exact rfl
  | none :: _, _, 0, ⟨v, r, e, q⟩ => by subst e; exact ⟨_, r, rfl, rw, q⟩
  | none :: _, _, i + 1, ⟨v, r, e, q⟩ => by subst e; exact ⟨v, _, rfl, EnvR.set rw (i := i) q⟩
  | some _ :: _, _, 0, ⟨v, r, e, a, q⟩ => by subst e; exact ⟨_, r, rfl, rw, q⟩
  | some _ :: _, _, i + 1, ⟨v, r, e, a, q⟩ => by subst e; exact ⟨v, _, rfl, a, EnvR.set rw (i := i) q⟩
theorem EnvR.unset {G : Gm} {Z : Addr → Prop} {H : Hp} {x : Option V} : ∀ {e : Env2} {σ : St} {i : Nat}, EnvR G Z H e σ → EnvR G Z H (e.set i none) (σ.set i x)
  | [], _, _, h => by
    have h' : _ = [] := h
    subst h'
    exact rfl
  | none :: _, _, 0, ⟨v, r, e, q⟩ => by subst e; exact ⟨_, r, rfl, q⟩
  | none :: _, _, i + 1, ⟨v, r, e, q⟩ => by subst e; exact ⟨v, _, rfl, EnvR.unset (i := i) q⟩
  | some _ :: _, _, 0, ⟨v, r, e, a, q⟩ => by subst e; exact ⟨_, r, rfl, q⟩
  | some _ :: _, _, i + 1, ⟨v, r, e, a, q⟩ => by subst e; exact ⟨v, _, rfl, a, EnvR.unset (i := i) q⟩

abbrev Q2 := W → Heap2 → Prop
abbrev X2 := String → Env2 → Heap2 → Prop
abbrev T2 := Env2 → Heap2 → Q2 → X2 → Prop
abbrev TT2 := Env2 → Heap2 → (Bool → Heap2 → Prop) → X2 → Prop
abbrev TA2 := Env2 → Heap2 → (List W → Heap2 → Prop) → X2 → Prop
structure Ends2 where
  nx : Env2 → Heap2 → Prop
  rt : Q2
  bk : Env2 → Heap2 → Prop
  ct : Env2 → Heap2 → Prop
  ex : X2
abbrev TS2 := Ends2 → Env2 → Heap2 → Prop

/-- what the wish of exceptions takes -/
def ExOk (G : Gm) (Wx : WX) (g : Gh) (H : Hp) (E : X2) : Prop :=
  ∀ c env M, E c env M → ∀ g' σ' H', Keep g H g' H' → Sim G g' M H' → EnvR G g'.Z H' env σ' → Wx (.ref (G.cA c)) none σ' H'
def liftE (G : Gm) (Wx : WX) (t : T2) : TE := fun σ H Q => ∃ g env M Q0 E0, Sim G g M H ∧ EnvR G g.Z H env σ ∧ t env M Q0 E0 ∧
  (∀ w M', Q0 w M' → ∀ g' v H', Keep g H g' H' → Sim G g' M' H' → Rep G g'.Z H' w v → Q v H') ∧ ExOk G Wx g H E0
def liftT (G : Gm) (Wx : WX) (t : TT2) : TT := fun σ H Q => ∃ g env M Q0 E0, Sim G g M H ∧ EnvR G g.Z H env σ ∧ t env M Q0 E0 ∧
  (∀ b M', Q0 b M' → ∀ g' H', Keep g H g' H' → Sim G g' M' H' → Q b H') ∧ ExOk G Wx g H E0
def liftA (G : Gm) (Wx : WX) (t : TA2) : TA := fun σ H Q => ∃ g env M Q0 E0, Sim G g M H ∧ EnvR G g.Z H env σ ∧ t env M Q0 E0 ∧
  (∀ ws M', Q0 ws M' → ∀ g' vs H', Keep g H g' H' → Sim G g' M' H' → RepL G g'.Z H' ws vs → Q vs H') ∧ ExOk G Wx g H E0
def liftS (G : Gm) (Wx : WX) (t : TS2) : TS := fun D σ H => ∃ g env M D0, Sim G g M H ∧ EnvR G g.Z H env σ ∧ t D0 env M ∧
  (∀ env' M', D0.nx env' M' → ∀ g' σ' H', Keep g H g' H' → Sim G g' M' H' → EnvR G g'.Z H' env' σ' → D.nx σ' H') ∧
  (∀ w M', D0.rt w M' → ∀ g' v H', Keep g H g' H' → Sim G g' M' H' → Rep G g'.Z H' w v → D.rt v H') ∧
  (∀ env' M', D0.bk env' M' → ∀ g' σ' H', Keep g H g' H' → Sim G g' M' H' → EnvR G g'.Z H' env' σ' → D.bk σ' H') ∧
  (∀ env' M', D0.ct env' M' → ∀ g' σ' H', Keep g H g' H' → Sim G g' M' H' → EnvR G g'.Z H' env' σ' → D.ct σ' H') ∧ ExOk G Wx g H D0.ex

/-- an expression is what t says -/
abbrev SE (G : Gm) (X : Cx) (Wx : WX) (e : Expr) (t : T2) : Prop := PE X e (liftE G Wx t)
abbrev SB (G : Gm) (X : Cx) (Wx : WX) (e : Expr) (t : TT2) : Prop := PT X e (liftT G Wx t)
abbrev SA (G : Gm) (X : Cx) (Wx : WX) (es : List Expr) (t : TA2) : Prop := PA X es (liftA G Wx t)
abbrev SS (G : Gm) (X : Cx) (Wx : WX) (s : Stmt) (t : TS2) : Prop := PS X s (liftS G Wx t)
abbrev SSs (G : Gm) (X : Cx) (Wx : WX) (s : List Stmt) (t : TS2) : Prop := PSs X s (liftS G Wx t)

theorem pe_imp {X : Cx} {e : Expr} {t t' : TE} (h : PE X e t) (i : ∀ σ H Q, t' σ H Q → t σ H Q) : PE X e t' := ⟨fun pins s σ H Q I q => h.run pins s σ H Q I (i _ _ _ q)⟩
theorem pt_imp {X : Cx} {e : Expr} {t t' : TT} (h : PT X e t) (i : ∀ σ H Q, t' σ H Q → t σ H Q) : PT X e t' := ⟨fun pins s σ H Q I q => h.run pins s σ H Q I (i _ _ _ q)⟩
theorem pw_imp {X : Cx} {e : Expr} {t t' : TT} (h : PW X e t) (i : ∀ σ H Q, t' σ H Q → t σ H Q) : PW X e t' := ⟨fun wh pins s σ H Q I q => h.run wh pins s σ H Q I (i _ _ _ q)⟩
theorem pa_imp {X : Cx} {e : List Expr} {t t' : TA} (h : PA X e t) (i : ∀ σ H Q, t' σ H Q → t σ H Q) : PA X e t' := ⟨fun pos pins s σ H Q I q => h.run pos pins s σ H Q I (i _ _ _ q)⟩
theorem ps_imp {X : Cx} {e : Stmt} {t t' : TS} (h : PS X e t) (i : ∀ D σ H, t' D σ H → t D σ H) : PS X e t' := ⟨fun pins s σ H D I q => h.run pins s σ H D I (i _ _ _ q)⟩
theorem pss_imp {X : Cx} {e : List Stmt} {t t' : TS} (h : PSs X e t) (i : ∀ D σ H, t' D σ H → t D σ H) : PSs X e t' := ⟨fun pins s σ H D I q => h.run pins s σ H D I (i _ _ _ q)⟩

theorem ExOk.keep {G : Gm} {Wx : WX} {g g' : Gh} {H H' : Hp} {E : X2} (x : ExOk G Wx g H E) (k : Keep g H g' H') : ExOk G Wx g' H' E :=
  fun c env M h g2 σ2 H2 k2 s2 e2 => x c env M h g2 σ2 H2 (k.trans k2) s2 e2
end LW

namespace LW
open PySem L2
section
variable {G : Gm} {g : Gh} {M : Heap2} {H : Hp} {a p : Addr} {o : HO} {c : Cell} {m m' : MO}

theorem Sim.free (s : Sim G g M H) (h : H p = none) : M p = none ∧ ¬ g.Z p ∧ ¬ g.P p ∧ ∀ a c, M a = some c → p ∉ g.ft a := by
  refine ⟨?_, ?_, ?_, fun a c hc hp => ?_⟩
  · cases q : M p with
    | none => rfl
    | some c =>
      obtain ⟨o, e, _⟩ := (s.cell p c q).there p (s.nd p c q).2
      rw [h] at e; cases e
  · intro z
    obtain ⟨_, o, e⟩ := s.zt p z
    rw [h] at e; cases e
  · intro z
    obtain ⟨o, e⟩ := s.pt p z
    rw [h] at e; cases e
  · obtain ⟨o, e, _⟩ := (s.cell a c hc).there p hp
    rw [h] at e; cases e
theorem Keep.new (h : H p = none) (s : Sim G g M H) : Keep g H g (upd H p o) := by
  have f := s.free h
  refine ⟨fun q z => ⟨z, upd_ne fun e => ?_⟩, fun q z => ⟨z, upd_ne fun e => ?_⟩, fun _ z => z, fun b xs e => ?_, fun b x u e => ?_⟩
  · subst e; exact f.2.1 z
  · subst e; exact f.2.2.1 z
  · rw [upd_ne (ne_of_none e h)]; exact e
  · rw [upd_ne (ne_of_none e h)]; exact e
/-- a new thing that is no cell -/
theorem Sim.new (s : Sim G g M H) (h : H p = none) : Sim G g M (upd H p o) := by
  have k : Keep g H g (upd H p o) := Keep.new h s
  have f := s.free h
  have st : ∀ q : Addr, (∃ x, H q = some x) → ∃ x, upd H p o q = some x := fun q ⟨x, e⟩ => ⟨x, by rw [upd_ne (ne_of_none e h)]; exact e⟩
  refine ⟨fun a c hc => (s.cell a c hc).keep k.kz fun q hq => upd_ne fun e => ?_, s.nd, s.no, s.dj, fun q z => ⟨(s.zt q z).1, st q (s.zt q z).2⟩, fun q z => st q (s.pt q z)⟩
  subst e
  exact f.2.2.2 a c hc hq
/-- a new cell -/
def Gh.add (g : Gh) (p : Addr) : Gh := { g with ft := fun b => if b = p then [p] else g.ft b }
theorem Sim.alloc (s : Sim G g M H) (h : H p = none) (r : FlatR G g.Z (upd H p o) p m) : Sim G (g.add p) (upd2 M p (some (.flat m))) (upd H p o) ∧ Keep g H (g.add p) (upd H p o) := by
  have s1 : Sim G g M (upd H p o) := s.new h
  have f := s.free h
  have k : Keep g H g (upd H p o) := Keep.new h s
  have fp : (g.add p).ft p = [p] := if_pos rfl
  have fn : ∀ b, b ≠ p → (g.add p).ft b = g.ft b := fun b hb => if_neg hb
  have nf := f.2.2.2
  refine ⟨⟨fun a c hc => ?_, fun a c hc => ?_, fun a c q hc hq => ?_, fun a b c d q hc hd hq hq' => ?_, s1.zt, s1.pt⟩, ⟨k.z, k.p, k.q, k.tups, k.frzs⟩⟩
  · by_cases e : a = p
    · subst e
      rw [upd2_same] at hc; cases hc
      rw [fp]
      exact ⟨rfl, r⟩
    · rw [upd2_ne e] at hc
      rw [fn a e]
      exact s1.cell a c hc
  · by_cases e : a = p
    · subst e
      rw [fp]
      simp
    · rw [upd2_ne e] at hc
      rw [fn a e]
      exact s1.nd a c hc
  · by_cases e : a = p
    · subst e
      rw [fp] at hq
      rw [List.mem_singleton.mp hq]
      exact ⟨f.2.1, f.2.2.1⟩
    · rw [upd2_ne e] at hc
      rw [fn a e] at hq
      exact s1.no a c q hc hq
  · by_cases e : a = p
    · by_cases e' : b = p
      · rw [e, e']
      · rw [upd2_ne e'] at hd
        rw [fn b e'] at hq'
        subst e
        rw [fp] at hq
        rw [List.mem_singleton.mp hq] at hq'
        exact absurd hq' (nf b d hd)
    · rw [upd2_ne e] at hc
      rw [fn a e] at hq
      by_cases e' : b = p
      · subst e'
        rw [fp] at hq'
        rw [List.mem_singleton.mp hq'] at hq
        exact absurd hq (nf a c hc)
      · rw [upd2_ne e'] at hd
        rw [fn b e'] at hq'
        exact s1.dj a b c d q hc hd hq hq'
/-- a flat cell is written -/
theorem Sim.write (s : Sim G g M H) (h : M a = some (.flat m)) (r : Keep g H g (upd H a o) → FlatR G g.Z (upd H a o) a m') : Sim G g (upd2 M a (some (.flat m'))) (upd H a o) ∧ Keep g H g (upd H a o) := by
  obtain ⟨hft, hm⟩ := s.cell a _ h
  have no := s.no a _ a h (s.nd a _ h).2
  obtain ⟨oa, ea, mu⟩ := hm.there
  have k : Keep g H g (upd H a o) := by
    refine ⟨fun q z => ⟨z, upd_ne fun e => ?_⟩, fun q z => ⟨z, upd_ne fun e => ?_⟩, fun _ z => z, fun b xs e => ?_, fun b x u e => ?_⟩
    · subst e; exact no.1 z
    · subst e; exact no.2 z
    · rw [upd_ne fun q => ?_]; exact e
      subst q
      rw [ea] at e; cases e
      exact mu
    · rw [upd_ne fun q => ?_]; exact e
      subst q
      rw [ea] at e; cases e
      exact mu
  have st : ∀ q : Addr, (∃ x, H q = some x) → ∃ x, upd H a o q = some x := fun q ⟨x, e⟩ => by
    by_cases z : q = a
    · subst z; exact ⟨_, upd_same⟩
    · exact ⟨x, by rw [upd_ne z]; exact e⟩
  refine ⟨⟨fun b c hc => ?_, fun b c hc => ?_, fun b c q hc hq => ?_, fun b b' c d q hc hd hq hq' => ?_, fun q z => ⟨(s.zt q z).1, st q (s.zt q z).2⟩, fun q z => st q (s.pt q z)⟩, k⟩
  · by_cases e : b = a
    · subst e
      rw [upd2_same] at hc; cases hc
      exact ⟨hft, r k⟩
    · rw [upd2_ne e] at hc
      refine (s.cell b c hc).keep k.kz fun q hq => upd_ne fun z => ?_
      subst z
      exact e (s.dj b q c _ q hc h hq (s.nd q _ h).2)
  · by_cases e : b = a
    · subst e; exact s.nd b _ h
    · rw [upd2_ne e] at hc; exact s.nd b c hc
  · by_cases e : b = a
    · subst e; exact s.no b _ q h hq
    · rw [upd2_ne e] at hc; exact s.no b c q hc hq
  · have h1 : ∃ c', M b = some c' := by
      by_cases e : b = a
      · subst e; exact ⟨_, h⟩
      · rw [upd2_ne e] at hc; exact ⟨_, hc⟩
    have h2 : ∃ c', M b' = some c' := by
      by_cases e : b' = a
      · subst e; exact ⟨_, h⟩
      · rw [upd2_ne e] at hd; exact ⟨_, hd⟩
    obtain ⟨c1, h1⟩ := h1
    obtain ⟨c2, h2⟩ := h2
    exact s.dj b b' c1 c2 q h1 h2 hq hq'
/-- a cell is given up -/
theorem Sim.drop (s : Sim G g M H) : Sim G g (upd2 M a none) H := by
  have nm : ∀ b c, upd2 M a none b = some c → M b = some c := fun b c h => by
    by_cases e : b = a
    · subst e; rw [upd2_same] at h; cases h
    · rw [upd2_ne e] at h; exact h
  exact ⟨fun b c h => s.cell b c (nm b c h), fun b c h => s.nd b c (nm b c h), fun b c p h => s.no b c p (nm b c h), fun b b' c d p h h' => s.dj b b' c d p (nm b c h) (nm b' d h'), s.zt, s.pt⟩
/-- a flat cell is frozen -/
def Gh.frz (g : Gh) (a : Addr) : Gh := { g with Z := fun p => g.Z p ∨ p = a }
theorem Sim.freeze (s : Sim G g M H) (h : M a = some (.flat m)) : Sim G (g.frz a) (upd2 M a none) H ∧ Keep g H (g.frz a) H ∧ FlatR G (g.frz a).Z H a m := by
  obtain ⟨hft, hm⟩ := s.cell a _ h
  have no := s.no a _ a h (s.nd a _ h).2
  obtain ⟨oa, ea, mu⟩ := hm.there
  have k : Keep g H (g.frz a) H := ⟨fun q z => ⟨.inl z, rfl⟩, fun q z => ⟨z, rfl⟩, fun _ z => z, fun _ _ e => e, fun _ _ _ e => e⟩
  have nm : ∀ b c, upd2 M a none b = some c → M b = some c ∧ b ≠ a := fun b c h => by
    by_cases e : b = a
    · subst e; rw [upd2_same] at h; cases h
    · rw [upd2_ne e] at h; exact ⟨h, e⟩
  refine ⟨⟨fun b c hc => (s.cell b c (nm b c hc).1).keep k.kz fun _ _ => rfl, fun b c hc => s.nd b c (nm b c hc).1, fun b c q hc hq => ⟨?_, (s.no b c q (nm b c hc).1 hq).2⟩, fun b b' c d p h h' => s.dj b b' c d p (nm b c h).1 (nm b' d h').1, fun q z => ?_, s.pt⟩, k, hm.keep k.kz rfl⟩
  · rintro (z | z)
    · exact (s.no b c q (nm b c hc).1 hq).1 z
    · subst z
      exact (nm b c hc).2 (s.dj b q c _ q (nm b c hc).1 h hq (s.nd q _ h).2)
  · rcases z with z | z
    · exact s.zt q z
    · subst z; exact ⟨no.2, _, ea⟩
/-- a new frozen thing -/
theorem Sim.newZ (s : Sim G g M H) (h : H p = none) : Sim G (g.frz p) M (upd H p o) ∧ Keep g H (g.frz p) (upd H p o) := by
  have s1 : Sim G g M (upd H p o) := s.new h
  have f := s.free h
  have k : Keep g H g (upd H p o) := Keep.new h s
  have k2 : Keep g (upd H p o) (g.frz p) (upd H p o) := ⟨fun q z => ⟨.inl z, rfl⟩, fun q z => ⟨z, rfl⟩, fun _ z => z, fun _ _ e => e, fun _ _ _ e => e⟩
  refine ⟨⟨fun b c hc => (s1.cell b c hc).keep k2.kz fun _ _ => rfl, s1.nd, fun b c q hc hq => ⟨?_, (s1.no b c q hc hq).2⟩, s1.dj, fun q z => ?_, s1.pt⟩, k.trans k2⟩
  · rintro (z | z)
    · exact (s1.no b c q hc hq).1 z
    · subst z; exact f.2.2.2 b c hc hq
  · rcases z with z | z
    · exact s1.zt q z
    · subst z; exact ⟨f.2.2.1, _, upd_same⟩
end
end LW

namespace LW
open PySem L2

@[simp] def listOf (M : Heap2) : W → Option (List W)
  | .lst xs => some xs
  | .scr xs => some xs
  | .ref a => match M a with
    | some (.flat (.lst xs)) => some xs
    | _ => none
  | _ => none
section
variable {G : Gm} {g : Gh} {M : Heap2} {H : Hp}
theorem RepL.length {Z : Addr → Prop} : ∀ {xs : List W} {vs : List V}, RepL G Z H xs vs → vs.length = xs.length
  | [], _, h => by
    have h' : _ = [] := h
    subst h'; rfl
  | x :: xs, _, ⟨v, r, e, a, b⟩ => by subst e; simp [RepL.length b]
theorem RepL.get {Z : Addr → Prop} : ∀ {xs : List W} {vs : List V} {i : Nat} {w : W}, RepL G Z H xs vs → xs[i]? = some w → ∃ v, vs[i]? = some v ∧ Rep G Z H w v
  | x :: xs, _, 0, w, ⟨v, r, e, a, b⟩, h => by
    subst e
    rw [List.getElem?_cons_zero] at h
    cases h
    exact ⟨v, rfl, a⟩
  | x :: xs, _, i + 1, w, ⟨v, r, e, a, b⟩, h => by
    subst e
    rw [List.getElem?_cons_succ] at h
    simpa using RepL.get b h
theorem RepL.append {Z : Addr → Prop} : ∀ {xs ys : List W} {vs us : List V}, RepL G Z H xs vs → RepL G Z H ys us → RepL G Z H (xs ++ ys) (vs ++ us)
  | [], _, _, _, h, h2 => by
    have h' : _ = [] := h
    subst h'; exact h2
  | x :: xs, _, _, _, ⟨v, r, e, a, b⟩, h2 => by subst e; exact ⟨v, _, rfl, a, RepL.append b h2⟩
theorem RepL.drop {Z : Addr → Prop} : ∀ {xs : List W} {vs : List V} (n : Nat), RepL G Z H xs vs → RepL G Z H (xs.drop n) (vs.drop n)
  | _, _, 0, h => h
  | [], _, n + 1, h => by
    have h' : _ = [] := h
    subst h'; exact rfl
  | x :: xs, _, n + 1, ⟨v, r, e, a, b⟩ => by subst e; exact RepL.drop n b
theorem RepL.take {Z : Addr → Prop} : ∀ {xs : List W} {vs : List V} (n : Nat), RepL G Z H xs vs → RepL G Z H (xs.take n) (vs.take n)
  | _, _, 0, h => rfl
  | [], _, n + 1, h => by
    have h' : _ = [] := h
    subst h'; exact rfl
  | x :: xs, _, n + 1, ⟨v, r, e, a, b⟩ => by subst e; exact ⟨v, _, rfl, a, RepL.take n b⟩
theorem RepL.set {Z : Addr → Prop} {w : W} {v : V} (hw : Rep G Z H w v) : ∀ {xs : List W} {vs : List V} (n : Nat), RepL G Z H xs vs → RepL G Z H (xs.set n w) (vs.set n v)
  | [], _, n, h => by
    have h' : _ = [] := h
    subst h'; exact rfl
  | x :: xs, _, 0, ⟨u, r, e, a, b⟩ => by subst e; exact ⟨_, _, rfl, hw, b⟩
  | x :: xs, _, n + 1, ⟨u, r, e, a, b⟩ => by subst e; exact ⟨_, _, rfl, a, RepL.set hw n b⟩
theorem RepL.eraseIdx {Z : Addr → Prop} : ∀ {xs : List W} {vs : List V} (n : Nat), RepL G Z H xs vs → RepL G Z H (xs.eraseIdx n) (vs.eraseIdx n)
  | [], _, n, h => by
    have h' : _ = [] := h
    subst h'; exact rfl
  | x :: xs, _, 0, ⟨u, r, e, a, b⟩ => by subst e; exact b
  | x :: xs, _, n + 1, ⟨u, r, e, a, b⟩ => by subst e; exact ⟨_, _, rfl, a, RepL.eraseIdx n b⟩
theorem RepL.reverse {Z : Addr → Prop} : ∀ {xs : List W} {vs : List V}, RepL G Z H xs vs → RepL G Z H xs.reverse vs.reverse
  | [], _, h => by
    have h' : _ = [] := h
    subst h'; exact rfl
  | x :: xs, _, ⟨u, r, e, a, b⟩ => by
    subst e
    rw [List.reverse_cons, List.reverse_cons]
    exact (RepL.reverse b).append ⟨_, _, rfl, a, rfl⟩
theorem listOf_rep {w : W} {v : V} {xs : List W} (e : listOf M w = some xs) (s : Sim G g M H) (r : Rep G g.Z H w v) : ∃ p vs, v = .ref p ∧ SqL G.K H p vs ∧ RepL G g.Z H xs vs := by
  cases w with
  | lst ys => cases e; obtain ⟨p, vs, e1, z, h, q⟩ := r; exact ⟨p, vs, e1, SqL.of h, q⟩
  | scr ys => cases e; obtain ⟨p, vs, e1, h, q⟩ := r; exact ⟨p, vs, e1, h.seq, q⟩
  | ref a =>
    have e' : (match M a with | some (.flat (.lst xs)) => some xs | _ => none) = some xs := e
    split at e'
    · rename_i ys hm
      cases e'
      obtain ⟨_, vs, h, q⟩ := s.cell a _ hm
      exact ⟨a, vs, r, SqL.of h, q⟩
    · cases e'
  | non => cases e
  | bl _ => cases e
  | int _ => cases e
  | str _ => cases e
  | tup _ => cases e
  | ins _ _ => cases e
  | exn _ => cases e
  | ktp _ => cases e
end

abbrev R22 := W → W → Heap2 → Q2 → Prop
abbrev R12 := W → Heap2 → Q2 → Prop
def liftR (G : Gm) (r : R22) : R2 := fun x y H Q => ∃ g M wx wy Q0, Sim G g M H ∧ Rep G g.Z H wx x ∧ Rep G g.Z H wy y ∧ r wx wy M Q0 ∧
  ∀ w M', Q0 w M' → ∀ g' v H', Keep g H g' H' → Sim G g' M' H' → Rep G g'.Z H' w v → Q v H'
def liftR1 (G : Gm) (r : R12) : V → Hp → VK → Prop := fun x H Q => ∃ g M wx Q0, Sim G g M H ∧ Rep G g.Z H wx x ∧ r wx M Q0 ∧
  ∀ w M', Q0 w M' → ∀ g' v H', Keep g H g' H' → Sim G g' M' H' → Rep G g'.Z H' w v → Q v H'
def liftRL (G : Gm) (r : List W → Heap2 → Q2 → Prop) : List V → Hp → VK → Prop := fun xs H Q => ∃ g M ws Q0, Sim G g M H ∧ RepL G g.Z H ws xs ∧ r ws M Q0 ∧
  ∀ w M', Q0 w M' → ∀ g' v H', Keep g H g' H' → Sim G g' M' H' → Rep G g'.Z H' w v → Q v H'
@[simp] def tOp2 (r : R22) (ta tb : T2) : T2 := fun env M Q E => ta env M (fun x M1 => tb env M1 (fun y M2 => r x y M2 Q) E) E
@[simp] def tUn2 (r : R12) (ta : T2) : T2 := fun env M Q E => ta env M (fun x M1 => r x M1 Q) E
section
variable {G : Gm} {X : Cx} {Wx : WX} {a b : Expr} {ta tb : T2} {pos : Pos}
/-- two readings in a row -/
theorem bin2 {r : R22} : ∀ σ H Q, liftE G Wx (tOp2 r ta tb) σ H Q → tOp (liftR G r) (liftE G Wx ta) (liftE G Wx tb) σ H Q := by
  rintro σ H Q ⟨g, env, M, Q0, E0, s, ev, t, k, x⟩
  refine ⟨g, env, M, _, E0, s, ev, t, fun wx M1 h g1 vx H1 k1 s1 r1 => ?_, x⟩
  refine ⟨g1, env, M1, _, E0, s1, ev.keep k1.kz, h, fun wy M2 h2 g2 vy H2 k2 s2 r2 => ?_, x.keep k1⟩
  exact ⟨g2, M2, wx, wy, Q0, s2, r1.keep k2.kz, r2, h2, fun w M' h3 g' v H' k3 s3 r3 => k w M' h3 g' v H' ((k1.trans k2).trans k3) s3 r3⟩
theorem un2 {r : R12} : ∀ σ H Q, liftE G Wx (tUn2 r ta) σ H Q → tUn (liftR1 G r) (liftE G Wx ta) σ H Q := by
  rintro σ H Q ⟨g, env, M, Q0, E0, s, ev, t, k, x⟩
  refine ⟨g, env, M, _, E0, s, ev, t, fun wx M1 h g1 vx H1 k1 s1 r1 => ?_, x⟩
  exact ⟨g1, M1, wx, Q0, s1, r1, h, fun w M' h3 g' v H' k3 s3 r3 => k w M' h3 g' v H' (k1.trans k3) s3 r3⟩
theorem se_bin {op : Operator} {r : R22} (ho : OpR X (binaryOp op) (liftR G r)) (ha : SE G X Wx a ta) (hb : SE G X Wx b tb) : SE G X Wx (.BinOp a op b pos) (tOp2 r ta tb) := pe_imp (pe_op ho ha hb) bin2
theorem se_cmp {op : CmpOp} {r : R22} (ho : OpR X (compareOp op) (liftR G r)) (ha : SE G X Wx a ta) (hb : SE G X Wx b tb) (hm : behindInMarks op b = false) : SE G X Wx (.Compare a [op] [b] pos) (tOp2 r ta tb) := pe_imp (pe_cmpR ho ha hb hm) bin2
theorem se_un {op : UnaryOp} {r : R12} (ho : UnR X (unaryOp op) (liftR1 G r)) (ha : SE G X Wx a ta) : SE G X Wx (.UnaryOp op a pos) (tUn2 r ta) := pe_imp (pe_un ho ha) un2

/-- weaker wishes of an operator -/
theorem opR_imp {f : Value → Value → Sem Value} {r r' : R2} (h : OpR X f r) (i : ∀ x y H Q, r' x y H Q → r x y H Q) : OpR X f r' := fun pins s σ H x y v u Q I rx ry q => h pins s σ H x y v u Q I rx ry (i _ _ _ _ q)
theorem unR_imp {f : Value → Sem Value} {r r' : V → Hp → VK → Prop} (h : UnR X f r) (i : ∀ x H Q, r' x H Q → r x H Q) : UnR X f r' := fun pins s σ H x v Q I rx q => h pins s σ H x v Q I rx (i _ _ _ q)
theorem opR_or {f : Value → Value → Sem Value} {r1 r2 : R2} (h1 : OpR X f r1) (h2 : OpR X f r2) : OpR X f (fun x y H Q => r1 x y H Q ∨ r2 x y H Q) := fun pins s σ H x y v u Q I rx ry q => q.elim (h1 pins s σ H x y v u Q I rx ry) (h2 pins s σ H x y v u Q I rx ry)

@[simp] def rInt (C : Int → Int → Prop) (f : Int → Int → W) : R22 := fun x y M Q => match x, y with
  | .int i, .int j => C i j ∧ Q (f i j) M
  | _, _ => False
theorem rInt_lift {C : Int → Int → Prop} {f : Int → Int → Int} : ∀ x y H Q, liftR G (rInt C fun i j => .int (f i j)) x y H Q → rI C (fun i j => .int (f i j)) x y H Q := by
  rintro x y H Q ⟨g, M, wx, wy, Q0, s, rx, ry, q, k⟩
  cases wx <;> try exact q.elim
  cases wy <;> try exact q.elim
  rename_i i j
  obtain ⟨hc, q⟩ := q
  exact ⟨i, j, rx, ry, hc, k _ _ q g _ H (Keep.refl g H) s rfl⟩
theorem rIntB_lift {f : Int → Int → Bool} : ∀ x y H Q, liftR G (rInt (fun _ _ => True) fun i j => .bl (f i j)) x y H Q → rI0 (fun i j => .bl (f i j)) x y H Q := by
  rintro x y H Q ⟨g, M, wx, wy, Q0, s, rx, ry, q, k⟩
  cases wx <;> try exact q.elim
  cases wy <;> try exact q.elim
  rename_i i j
  obtain ⟨hc, q⟩ := q
  exact ⟨i, j, rx, ry, k _ _ q g _ H (Keep.refl g H) s rfl⟩
theorem rInt0_lift {f : Int → Int → Int} : ∀ x y H Q, liftR G (rInt (fun _ _ => True) fun i j => .int (f i j)) x y H Q → rI0 (fun i j => .int (f i j)) x y H Q := by
  rintro x y H Q ⟨g, M, wx, wy, Q0, s, rx, ry, q, k⟩
  cases wx <;> try exact q.elim
  cases wy <;> try exact q.elim
  rename_i i j
  obtain ⟨hc, q⟩ := q
  exact ⟨i, j, rx, ry, k _ _ q g _ H (Keep.refl g H) s rfl⟩
@[simp] abbrev rSubW : R22 := rInt (fun _ _ => True) fun i j => .int (i - j)
@[simp] abbrev rMulW : R22 := rInt CMul fun i j => .int (i * j)
@[simp] abbrev rFdivW : R22 := rInt CDiv fun i j => .int (i / j)
@[simp] abbrev rModW : R22 := rInt (fun _ j => 0 < j) fun i j => .int (i % j)
@[simp] abbrev rPowW : R22 := rInt CPow fun i j => .int (i ^ j.toNat)
@[simp] abbrev rShlW : R22 := rInt CPow fun i j => .int (i * 2 ^ j.toNat)
@[simp] abbrev rAndW : R22 := rInt (fun _ _ => True) fun i j => .int (Builtin.bitAnd i j)
@[simp] abbrev rOrW : R22 := rInt (fun _ _ => True) fun i j => .int (Builtin.bitOr i j)
theorem se_sub (ha : SE G X Wx a ta) (hb : SE G X Wx b tb) : SE G X Wx (.BinOp a .Sub b pos) (tOp2 rSubW ta tb) := se_bin (opR_imp op_sub rInt0_lift) ha hb
theorem se_mul (ha : SE G X Wx a ta) (hb : SE G X Wx b tb) : SE G X Wx (.BinOp a .Mult b pos) (tOp2 rMulW ta tb) := se_bin (opR_imp op_mul rInt_lift) ha hb
theorem se_fdiv (ha : SE G X Wx a ta) (hb : SE G X Wx b tb) : SE G X Wx (.BinOp a .FloorDiv b pos) (tOp2 rFdivW ta tb) := se_bin (opR_imp op_fdiv rInt_lift) ha hb
theorem se_mod (ha : SE G X Wx a ta) (hb : SE G X Wx b tb) : SE G X Wx (.BinOp a .Mod b pos) (tOp2 rModW ta tb) := se_bin (opR_imp op_mod rInt_lift) ha hb
theorem se_pow (ha : SE G X Wx a ta) (hb : SE G X Wx b tb) : SE G X Wx (.BinOp a .Pow b pos) (tOp2 rPowW ta tb) := se_bin (opR_imp op_pow rInt_lift) ha hb
theorem se_shl (ha : SE G X Wx a ta) (hb : SE G X Wx b tb) : SE G X Wx (.BinOp a .LShift b pos) (tOp2 rShlW ta tb) := se_bin (opR_imp op_shl rInt_lift) ha hb
theorem se_band (ha : SE G X Wx a ta) (hb : SE G X Wx b tb) : SE G X Wx (.BinOp a .BitAnd b pos) (tOp2 rAndW ta tb) := se_bin (opR_imp op_and rInt0_lift) ha hb
theorem se_bor (ha : SE G X Wx a ta) (hb : SE G X Wx b tb) : SE G X Wx (.BinOp a .BitOr b pos) (tOp2 rOrW ta tb) := se_bin (opR_imp op_or rInt0_lift) ha hb

theorem ofString_len (s : String) : (Str.ofString s).length = s.length := by
  rw [Str.ofString_eq_toList]
  show (s.toList.map Char.toNat).toArray.size = _
  rw [List.size_toArray, List.length_map, String.length_toList]
theorem ofString_inj {s t : String} (h : Str.ofString s = Str.ofString t) : s = t := by
  rw [Str.ofString_eq_toList, Str.ofString_eq_toList] at h
  have h1 : (s.toList.map Char.toNat) = (t.toList.map Char.toNat) := by
    have h2 := congrArg Str.cps h
    simpa using congrArg Array.toList h2
  have h3 : s.toList = t.toList := by
    have inj : ∀ (l m : List Char), l.map Char.toNat = m.map Char.toNat → l = m := by
      intro l
      induction l with
      | nil => intro m h; cases m with
        | nil => rfl
        | cons _ _ => cases h
      | cons c l ih => intro m h; cases m with
        | nil => cases h
        | cons d m =>
          rw [List.map_cons, List.map_cons] at h
          injection h with h1 h2
          rw [ih m h2, Char.toNat_inj.mp h1]
    exact inj _ _ h1
  exact String.ext (by simpa using h3)
theorem ofString_app (s t : String) : Str.ofString (s ++ t) = Str.ofString s ++ Str.ofString t := by
  rw [Str.ofString_eq_toList, Str.ofString_eq_toList, Str.ofString_eq_toList]
  show _ = (⟨_ ++ _⟩ : Str)
  simp

@[simp] def rAddW : R22 := fun x y M Q => match x, y with
  | .int i, .int j => Q (.int (i + j)) M
  | .str s, .str t => s.length + t.length ≤ 10000000 ∧ Q (.str (s ++ t)) M
  | .tup xs, .tup ys => xs.length + ys.length ≤ 10000000 ∧ Q (.tup (xs ++ ys)) M
  | _, _ => False
theorem big_size {n : Nat} (h : n ≤ 10000000) : n ≤ sizeLine := Nat.le_trans h (by decide)
theorem big_lt {n : Nat} (h : n < 10000000) : n < sizeLine := Nat.lt_of_lt_of_le h (by decide)
theorem op_rAdd (hK : X.K = G.K) : OpR X (binaryOp .Add) (liftR G rAddW) := by
  refine opR_imp (opR_or op_add (opR_or op_add_str op_catA)) ?_
  rintro x y H Q ⟨g, M, wx, wy, Q0, s, rx, ry, q, k⟩
  cases wx <;> try exact q.elim
  · cases wy <;> try exact q.elim
    exact .inl ⟨_, _, rx, ry, k _ _ q g _ H (Keep.refl g H) s rfl⟩
  · cases wy <;> try exact q.elim
    rename_i a b
    obtain ⟨hz, q⟩ := q
    refine .inr (.inl ⟨_, _, rx, ry, ?_, k _ _ q g _ H (Keep.refl g H) s ?_⟩)
    · rw [ofString_len, ofString_len]; exact big_size hz
    · rw [← ofString_app]; exact rfl
  · cases wy <;> try exact q.elim
    rename_i xs ys
    obtain ⟨hz, q⟩ := q
    obtain ⟨p, vs, rfl, hp, r1⟩ := rx
    obtain ⟨p', vs', rfl, hp', r2⟩ := ry
    refine .inr (.inr ⟨p, p', vs, vs', rfl, rfl, SqT.of hp, SqT.of hp', ?_, fun e => ?_, fun e e' => ?_, fun e e' p2 hn => ?_⟩)
    · rw [r1.length, r2.length]; exact big_size hz
    · have : xs = [] := List.length_eq_zero_iff.mp (by rw [← r1.length, e]; rfl)
      subst this
      exact k _ _ q g _ H (Keep.refl g H) s ⟨p', vs', rfl, hp', r2⟩
    · have : ys = [] := List.length_eq_zero_iff.mp (by rw [← r2.length, e']; rfl)
      subst this
      rw [List.append_nil] at q
      exact k _ _ q g _ H (Keep.refl g H) s ⟨p, vs, rfl, hp, r1⟩
    · have kn := Keep.new (o := .tup (vs ++ vs')) hn s
      exact k _ _ q g _ _ kn (s.new hn) ⟨p2, _, rfl, upd_same, (r1.keep kn.kz).append (r2.keep kn.kz)⟩
end
end LW

namespace LW
open PySem L2

mutual
def W.dat : W → PyData
  | .non => .none
  | .bl b => .bool b
  | .int i => .int i
  | .str s => .str (Str.ofString s)
  | .tup xs => .tuple (W.dats xs)
  | .lst xs => .list (W.dats xs)
  | .scr xs => .list (W.dats xs)
  | .ins _ _ => .none
  | .ref _ => .none
  | .exn _ => .none
  | .ktp _ => .none
def W.dats : List W → List PyData
  | [] => []
  | x :: xs => W.dat x :: W.dats xs
end
mutual
/-- no object in it -/
@[simp] def W.pure : W → Bool
  | .non => true
  | .bl _ => true
  | .int _ => true
  | .str _ => true
  | .tup xs => W.pures xs
  | .lst xs => W.pures xs
  | .scr xs => W.pures xs
  | .ins _ _ => false
  | .ref _ => false
  | .exn _ => false
  | .ktp _ => false
@[simp] def W.pures : List W → Bool
  | [] => true
  | x :: xs => W.pure x && W.pures xs
end
mutual
@[simp] def W.dep : W → Nat
  | .tup xs => W.deps xs + 1
  | .lst xs => W.deps xs + 1
  | .scr xs => W.deps xs + 1
  | _ => 0
@[simp] def W.deps : List W → Nat
  | [] => 0
  | x :: xs => max (W.dep x) (W.deps xs)
end
mutual
/-- == as Python has it -/
@[simp] def W.eqv : W → W → Bool
  | .non, .non => true
  | .bl a, .bl b => a == b
  | .bl a, .int j => decide ((if a then 1 else 0) = j)
  | .int i, .bl b => decide (i = (if b then 1 else 0))
  | .int i, .int j => decide (i = j)
  | .str x, .str y => decide (x = y)
  | .tup xs, .tup ys => W.eqvs xs ys
  | .lst xs, .lst ys => W.eqvs xs ys
  | .lst xs, .scr ys => W.eqvs xs ys
  | .scr xs, .lst ys => W.eqvs xs ys
  | .scr xs, .scr ys => W.eqvs xs ys
  | _, _ => false
@[simp] def W.eqvs : List W → List W → Bool
  | [], [] => true
  | x :: xs, y :: ys => W.eqv x y && W.eqvs xs ys
  | _, _ => false
end
mutual
/-- cells seen as lists: one step of looks -/
@[simp] def W.seen (look : Addr → Option (List W)) : W → Option W
  | .ref a => (look a).map .lst
  | .tup xs => (W.seens look xs).map .tup
  | .lst xs => (W.seens look xs).map .lst
  | .scr xs => (W.seens look xs).map .scr
  | .ins _ _ => none
  | .exn _ => none
  | .ktp _ => none
  | w => some w
@[simp] def W.seens (look : Addr → Option (List W)) : List W → Option (List W)
  | [] => some []
  | x :: xs => (W.seen look x).bind fun y => (W.seens look xs).map fun ys => y :: ys
end
@[simp] def cellList (M : Heap2) (a : Addr) : Option (List W) := match M a with
  | some (.flat (.lst xs)) => some xs
  | _ => none
@[simp] def drf (M : Heap2) : Nat → W → Option W
  | 0, w => W.seen (fun _ => none) w
  | n + 1, w => W.seen (fun a => (cellList M a).bind fun xs => W.seens (fun b => (cellList M b).bind fun ys => W.seens (fun _ => none) ys) xs) w
@[simp] abbrev drf2 (M : Heap2) (w : W) : Option W := drf M 1 w

theorem strOk_ofString (s : String) : PySem.PyData.strOk (Str.ofString s) = true := by
  unfold PySem.PyData.strOk
  rw [Str.ofString_eq_toList]
  show Array.all (s.toList.map Char.toNat).toArray (fun x => decide (x < 0x110000)) = true
  rw [List.all_toArray, List.all_eq_true]
  intro n hn
  obtain ⟨c, _, rfl⟩ := List.mem_map.mp hn
  have := c.valid
  have h2 : c.val.toNat < 0x110000 := by
    rcases c.valid with h | ⟨_, h⟩
    · exact Nat.lt_trans h (by decide)
    · exact h
  exact decide_eq_true h2
mutual
theorem dat_can : ∀ w : W, (W.dat w).canLay0 = true
  | .non => rfl
  | .bl _ => rfl
  | .int _ => rfl
  | .str s => by
    show PyData.canLay0 (.str _) = true
    unfold PyData.canLay0
    exact strOk_ofString s
  | .tup xs => by
    show PyData.canLay0 (.tuple _) = true
    unfold PyData.canLay0
    exact dats_can xs
  | .lst xs => by
    show PyData.canLay0 (.list _) = true
    unfold PyData.canLay0
    exact dats_can xs
  | .scr xs => by
    show PyData.canLay0 (.list _) = true
    unfold PyData.canLay0
    exact dats_can xs
  | .ins _ _ => rfl
  | .ref _ => rfl
  | .exn _ => rfl
  | .ktp _ => rfl
theorem dats_can : ∀ ws : List W, PyData.canLayAll0 (W.dats ws) = true
  | [] => rfl
  | x :: xs => by
    show PyData.canLayAll0 (_ :: _) = true
    unfold PyData.canLayAll0
    rw [dat_can x, dats_can xs]; rfl
end

mutual
theorem dat_depth : ∀ w : W, (W.dat w).depth ≤ W.dep w
  | .non => Nat.le_refl _
  | .bl _ => Nat.le_refl _
  | .int _ => Nat.le_refl _
  | .str s => Nat.le_refl _
  | .tup xs => by
    show PyData.depth (.tuple _) ≤ W.deps xs + 1
    unfold PyData.depth
    exact Nat.succ_le_succ (dats_depth xs)
  | .lst xs => by
    show PyData.depth (.list _) ≤ W.deps xs + 1
    unfold PyData.depth
    exact Nat.succ_le_succ (dats_depth xs)
  | .scr xs => by
    show PyData.depth (.list _) ≤ W.deps xs + 1
    unfold PyData.depth
    exact Nat.succ_le_succ (dats_depth xs)
  | .ins _ _ => Nat.le_refl _
  | .ref _ => Nat.le_refl _
  | .exn _ => Nat.le_refl _
  | .ktp _ => Nat.le_refl _
theorem dats_depth : ∀ ws : List W, PyData.depthAll (W.dats ws) ≤ W.deps ws
  | [] => Nat.le_refl _
  | x :: xs => by
    show PyData.depthAll (_ :: _) ≤ max (W.dep x) (W.deps xs)
    unfold PyData.depthAll
    have h1 := dat_depth x
    have h2 := dats_depth xs
    omega
end
theorem dat_shaped {w : W} (h : W.dep w ≤ 64) : SeqAt.shaped (W.dat w) = true := by
  unfold SeqAt.shaped
  rw [dat_can, Bool.true_and]
  exact decide_eq_true (Nat.le_trans (dat_depth w) h)
mutual
theorem eqv_dat : ∀ x y : W, W.pure x = true → W.pure y = true → PyData.eqv (W.dat x) (W.dat y) = W.eqv x y
  | .non, y, hx, hy => by cases y <;> simp_all [W.dat, W.eqv, W.pure, PyData.eqv]
  | .bl a, y, hx, hy => by cases y <;> simp_all [W.dat, W.eqv, W.pure, PyData.eqv] <;> rfl
  | .int i, y, hx, hy => by cases y <;> simp_all [W.dat, W.eqv, W.pure, PyData.eqv] <;> rfl
  | .str s, y, hx, hy => by
    cases y <;> simp_all [W.dat, W.eqv, W.pure, PyData.eqv]
    rename_i t
    by_cases e : s = t
    · subst e; simp
    · have : ¬ Str.ofString s = Str.ofString t := fun h => e (ofString_inj h)
      simp [e, this]
  | .tup xs, y, hx, hy => by
    cases y <;> simp_all [W.dat, W.eqv, W.pure, PyData.eqv]
    exact eqvs_dat _ _ hx hy
  | .lst xs, y, hx, hy => by
    cases y <;> simp_all [W.dat, W.eqv, W.pure, PyData.eqv]
    · exact eqvs_dat _ _ hx hy
    · exact eqvs_dat _ _ hx hy
  | .scr xs, y, hx, hy => by
    cases y <;> simp_all [W.dat, W.eqv, W.pure, PyData.eqv]
    · exact eqvs_dat _ _ hx hy
    · exact eqvs_dat _ _ hx hy
  | .ins _ _, y, hx, hy => by simp [W.pure] at hx
  | .ref _, y, hx, hy => by simp [W.pure] at hx
  | .exn _, y, hx, hy => by simp [W.pure] at hx
  | .ktp _, y, hx, hy => by simp [W.pure] at hx
theorem eqvs_dat : ∀ xs ys : List W, W.pures xs = true → W.pures ys = true → PyData.eqvAll (W.dats xs) (W.dats ys) = W.eqvs xs ys
  | [], [], _, _ => by simp [W.dats, PyData.eqvAll, W.eqvs]
  | [], _ :: _, _, _ => by simp [W.dats, PyData.eqvAll, W.eqvs]
  | _ :: _, [], _, _ => by simp [W.dats, PyData.eqvAll, W.eqvs]
  | x :: xs, y :: ys, hx, hy => by
    simp only [W.pures, Bool.and_eq_true] at hx hy
    simp only [W.dats, PyData.eqvAll, W.eqvs]
    rw [eqv_dat x y hx.1 hy.1, eqvs_dat xs ys hx.2 hy.2]
end
mutual
theorem seen_dp {G : Gm} {Z : Addr → Prop} {H : Hp} {look : Addr → Option (List W)} (hl : ∀ a xs, look a = some xs → W.pures xs = true ∧ ∃ vs, SqL G.K H a vs ∧ DpAll G.K H vs (W.dats xs)) :
    ∀ {w y : W} {v : V}, W.seen look w = some y → Rep G Z H w v → W.pure y = true ∧ Dp G.K H v (W.dat y)
  | .non, y, v, e, r => by cases e; rw [show v = _ from r]; exact ⟨rfl, .non⟩
  | .bl b, y, v, e, r => by cases e; rw [show v = _ from r]; exact ⟨rfl, .bl b⟩
  | .int i, y, v, e, r => by cases e; rw [show v = _ from r]; exact ⟨rfl, .int i⟩
  | .str s, y, v, e, r => by cases e; rw [show v = _ from r]; exact ⟨rfl, .str _⟩
  | .tup xs, y, v, e, r => by
    obtain ⟨p, vs, rfl, h, q⟩ := r
    obtain ⟨ys, e1, rfl⟩ := Option.map_eq_some_iff.mp (show (W.seens look xs).map W.tup = some y from e)
    obtain ⟨h1, h2⟩ := seens_dp hl e1 q
    exact ⟨h1, .tup (SqT.of h) h2⟩
  | .lst xs, y, v, e, r => by
    obtain ⟨p, vs, rfl, z, h, q⟩ := r
    obtain ⟨ys, e1, rfl⟩ := Option.map_eq_some_iff.mp (show (W.seens look xs).map W.lst = some y from e)
    obtain ⟨h1, h2⟩ := seens_dp hl e1 q
    exact ⟨h1, .lst (SqL.of h) h2⟩
  | .scr xs, y, v, e, r => by
    obtain ⟨p, vs, rfl, h, q⟩ := r
    obtain ⟨ys, e1, rfl⟩ := Option.map_eq_some_iff.mp (show (W.seens look xs).map W.scr = some y from e)
    obtain ⟨h1, h2⟩ := seens_dp hl e1 q
    exact ⟨h1, .lst h.seq h2⟩
  | .ref a, y, v, e, r => by
    obtain ⟨ys, e1, rfl⟩ := Option.map_eq_some_iff.mp (show (look a).map W.lst = some y from e)
    obtain ⟨h1, vs, h2, h3⟩ := hl a ys e1
    rw [show v = _ from r]
    exact ⟨h1, .lst h2 h3⟩
  | .ins _ _, y, v, e, r => by cases e
  | .exn _, y, v, e, r => by cases e
  | .ktp _, y, v, e, r => by cases e
theorem seens_dp {G : Gm} {Z : Addr → Prop} {H : Hp} {look : Addr → Option (List W)} (hl : ∀ a xs, look a = some xs → W.pures xs = true ∧ ∃ vs, SqL G.K H a vs ∧ DpAll G.K H vs (W.dats xs)) :
    ∀ {ws ys : List W} {vs : List V}, W.seens look ws = some ys → RepL G Z H ws vs → W.pures ys = true ∧ DpAll G.K H vs (W.dats ys)
  | [], ys, vs, e, r => by cases e; rw [show vs = _ from r]; exact ⟨rfl, .nil⟩
  | x :: xs, ys, vs, e, r => by
    obtain ⟨v, rr, rfl, a, b⟩ := r
    obtain ⟨y, e1, e2⟩ := Option.bind_eq_some_iff.mp (show (W.seen look x).bind (fun y => (W.seens look xs).map fun ys => y :: ys) = some ys from e)
    obtain ⟨zs, e3, rfl⟩ := Option.map_eq_some_iff.mp e2
    obtain ⟨h1, h2⟩ := seen_dp hl e1 a
    obtain ⟨h3, h4⟩ := seens_dp hl e3 b
    refine ⟨?_, .cons h2 h4⟩
    show (W.pure y && W.pures zs) = true
    rw [h1, h3]; rfl
end
theorem cellList_rep {G : Gm} {g : Gh} {M : Heap2} {H : Hp} {a : Addr} {xs : List W} (e : cellList M a = some xs) (s : Sim G g M H) : ∃ vs, H a = some (.lst vs) ∧ RepL G g.Z H xs vs := by
  unfold cellList at e
  split at e
  · rename_i ys hm
    cases e
    obtain ⟨_, vs, h, q⟩ := s.cell a _ hm
    exact ⟨vs, h, q⟩
  · cases e
theorem drf_dp {G : Gm} {g : Gh} {M : Heap2} {H : Hp} {w y : W} {v : V} (e : drf2 M w = some y) (s : Sim G g M H) (r : Rep G g.Z H w v) : W.pure y = true ∧ Dp G.K H v (W.dat y) := by
  have in1 : ∀ b ys, ((cellList M b).bind fun ys => W.seens (fun _ => none) ys) = some ys → W.pures ys = true ∧ ∃ vs, SqL G.K H b vs ∧ DpAll G.K H vs (W.dats ys) := fun b ys hb => by
    obtain ⟨us, e3, e4⟩ := Option.bind_eq_some_iff.mp hb
    obtain ⟨ws, h5, h6⟩ := cellList_rep e3 s
    obtain ⟨h7, h8⟩ := seens_dp (fun _ _ z => by cases z) e4 h6
    exact ⟨h7, ws, SqL.of h5, h8⟩
  refine seen_dp (fun a xs ha => ?_) e r
  obtain ⟨zs, e1, e2⟩ := Option.bind_eq_some_iff.mp ha
  obtain ⟨vs, h1, h2⟩ := cellList_rep e1 s
  obtain ⟨h3, h4⟩ := seens_dp in1 e2 h2
  exact ⟨h3, vs, SqL.of h1, h4⟩

@[simp] def rEq2 (neg : Bool) : R22 := fun x y M Q => ∃ x' y', drf2 M x = some x' ∧ drf2 M y = some y' ∧ W.dep x' ≤ 64 ∧ W.dep y' ≤ 64 ∧ Q (.bl (if neg then !W.eqv x' y' else W.eqv x' y')) M
section
variable {G : Gm} {X : Cx} {Wx : WX} {a b c : Expr} {ta tb tc : T2} {pos : Pos}
theorem op_rEq (hK : X.K = G.K) (hu : X.A.units + 64 < cLine) : OpR X (compareOp .Eq) (liftR G (rEq2 false)) := by
  refine opR_imp (op_eqD hu) ?_
  rintro x y H Q ⟨g, M, wx, wy, Q0, s, rx, ry, ⟨x', y', e1, e2, d1, d2, q⟩, k⟩
  obtain ⟨p1, r1⟩ := drf_dp e1 s rx
  obtain ⟨p2, r2⟩ := drf_dp e2 s ry
  rw [hK]
  exact ⟨_, _, r1, r2, dat_shaped d1, dat_shaped d2, k _ _ q g _ H (Keep.refl g H) s (by rw [eqv_dat _ _ p1 p2]; exact rfl)⟩
theorem op_rNe (hK : X.K = G.K) (hu : X.A.units + 64 < cLine) : OpR X (compareOp .NotEq) (liftR G (rEq2 true)) := by
  refine opR_imp (op_neD hu) ?_
  rintro x y H Q ⟨g, M, wx, wy, Q0, s, rx, ry, ⟨x', y', e1, e2, d1, d2, q⟩, k⟩
  obtain ⟨p1, r1⟩ := drf_dp e1 s rx
  obtain ⟨p2, r2⟩ := drf_dp e2 s ry
  rw [hK]
  exact ⟨_, _, r1, r2, dat_shaped d1, dat_shaped d2, k _ _ q g _ H (Keep.refl g H) s (by rw [eqv_dat _ _ p1 p2]; exact rfl)⟩
theorem se_eq (hu : X.A.units + 64 < cLine) (ha : SE G X Wx a ta) (hb : SE G X Wx b tb) (hK : X.K = G.K := by rfl) : SE G X Wx (.Compare a [.Eq] [b] pos) (tOp2 (rEq2 false) ta tb) := se_cmp (op_rEq hK hu) ha hb (nobehind _ (by decide) (by decide))
theorem se_ne (hu : X.A.units + 64 < cLine) (ha : SE G X Wx a ta) (hb : SE G X Wx b tb) (hK : X.K = G.K := by rfl) : SE G X Wx (.Compare a [.NotEq] [b] pos) (tOp2 (rEq2 true) ta tb) := se_cmp (op_rNe hK hu) ha hb (nobehind _ (by decide) (by decide))
@[simp] abbrev rLtW : R22 := rInt (fun _ _ => True) fun i j => .bl (decide (i < j))
@[simp] abbrev rLeW : R22 := rInt (fun _ _ => True) fun i j => .bl (decide (i ≤ j))
@[simp] abbrev rGtW : R22 := rInt (fun _ _ => True) fun i j => .bl (decide (j < i))
@[simp] abbrev rGeW : R22 := rInt (fun _ _ => True) fun i j => .bl (decide (j ≤ i))
theorem se_lt (ha : SE G X Wx a ta) (hb : SE G X Wx b tb) : SE G X Wx (.Compare a [.Lt] [b] pos) (tOp2 rLtW ta tb) := se_cmp (opR_imp op_lt rIntB_lift) ha hb (nobehind _ (by decide) (by decide))
theorem se_le (ha : SE G X Wx a ta) (hb : SE G X Wx b tb) : SE G X Wx (.Compare a [.LtE] [b] pos) (tOp2 rLeW ta tb) := se_cmp (opR_imp op_le rIntB_lift) ha hb (nobehind _ (by decide) (by decide))
theorem se_gt (ha : SE G X Wx a ta) (hb : SE G X Wx b tb) : SE G X Wx (.Compare a [.Gt] [b] pos) (tOp2 rGtW ta tb) := se_cmp (opR_imp op_gt rIntB_lift) ha hb (nobehind _ (by decide) (by decide))
theorem se_ge (ha : SE G X Wx a ta) (hb : SE G X Wx b tb) : SE G X Wx (.Compare a [.GtE] [b] pos) (tOp2 rGeW ta tb) := se_cmp (opR_imp op_ge rIntB_lift) ha hb (nobehind _ (by decide) (by decide))
end
end LW

namespace LW
open PySem L2
section
variable {G : Gm} {X : Cx} {Wx : WX} {a b c e : Expr} {ta tb tc te : T2} {pos : Pos}
@[simp] def tVar2 (i : Nat) : T2 := fun env M Q _ => match env[i]? with
  | some (some w) => Q w M
  | _ => False
theorem se_var {i : Nat} {x : Str} (hN : X.N[i]? = some x) (hv : Vis X.env.scope x) (hd : (x == ("__debug__" : Str)) = false := by decide) (hcd : (x == ("__classdict__" : Str)) = false := by decide) : SE G X Wx (.Name x pos) (tVar2 i) := by
  refine pe_imp (pe_var hN hv hd hcd) ?_
  rintro σ H Q ⟨g, env, M, Q0, E0, s, ev, t, k, x⟩
  have t' : (match env[i]? with | some (some w) => Q0 w M | _ => False) := t
  split at t'
  · rename_i w hw
    obtain ⟨v, h1, h2⟩ := ev.get hw
    exact ⟨v, h1, k _ _ t' g v H (Keep.refl g H) s h2⟩
  · exact t'.elim
@[simp] def tC2 (w : W) : T2 := fun _ M Q _ => Q w M
theorem se_c {v : V} {w : W} (h : PE X e (tC v)) (r : ∀ g H, Rep G g H w v) : SE G X Wx e (tC2 w) := by
  refine pe_imp h ?_
  rintro σ H Q ⟨g, env, M, Q0, E0, s, ev, t, k, x⟩
  exact k _ _ t g v H (Keep.refl g H) s (r _ _)
theorem se_int {i j} : SE G X Wx (.Constant (.int i) j pos) (tC2 (.int i)) := se_c pe_int fun _ _ => rfl
theorem se_bl {b j} : SE G X Wx (.Constant (.bool b) j pos) (tC2 (.bl b)) := se_c pe_bl fun _ _ => rfl
theorem se_non {j} : SE G X Wx (.Constant .none j pos) (tC2 .non) := se_c pe_non fun _ _ => rfl
theorem se_str {x : String} {j} : SE G X Wx (.Constant (.str (Str.ofString x)) j pos) (tC2 (.str x)) := se_c pe_str fun _ _ => rfl
/-- a global of the text that holds a value w -/
theorem se_glob {x : Str} {v : V} {u : Value} {w : W} (hg : Gl X x) (hm : X.mg x = some u) (r : RelV v u) (rw : ∀ g H, Rep G g H w v) (hd : (x == ("__debug__" : Str)) = false := by decide) : SE G X Wx (.Name x pos) (tC2 w) := se_c (pe_glob hg hm r hd) rw

@[simp] def tTest2 (te : T2) : TT2 := fun env M Q E => te env M (fun w M1 => match w with
  | .bl b => Q b M1
  | _ => False) E
theorem sb_val (h : SE G X Wx e te) (he : ∀ whole, isTrue e X.env whole = (do let v ← whole; standAt e.pos; holding [v] (truthy v)) := by intro _; rfl) : SB G X Wx e (tTest2 te) := by
  refine pt_imp (pt_val h he) ?_
  rintro σ H Q ⟨g, env, M, Q0, E0, s, ev, t, k, x⟩
  refine ⟨g, env, M, _, E0, s, ev, t, fun w M1 h1 g1 v H1 k1 s1 r1 => ?_, x⟩
  cases w <;> try exact h1.elim
  exact ⟨_, r1, k _ _ h1 g1 H1 k1 s1⟩
/-- a comparison as a test -/
theorem sb_cmp {op : CmpOp} {r : R22} (ho : OpR X (compareOp op) (liftR G r)) (ha : SE G X Wx a ta) (hb : SE G X Wx b tb) (hm : behindInMarks op b = false) : SB G X Wx (.Compare a [op] [b] pos) (tTest2 (tOp2 r ta tb)) := by
  refine pt_imp (pt_cmpR ho ha hb hm) ?_
  rintro σ H Q ⟨g, env, M, Q0, E0, s, ev, t, k, x⟩
  have z := bin2 (Wx := Wx) (G := G) (ta := ta) (tb := tb) (r := r) σ H (fun v H1 => ∃ c, v = .bl c ∧ Q c H1) ⟨g, env, M, _, E0, s, ev, t, fun w M1 h1 g1 v H1 k1 s1 r1 => ?_, x⟩
  · exact z
  · cases w <;> try exact h1.elim
    exact ⟨_, r1, k _ _ h1 g1 H1 k1 s1⟩
@[simp] def tNot2 (t : TT2) : TT2 := fun env M Q E => t env M (fun b M1 => Q (!b) M1) E
@[simp] def tAnd2 (t u : TT2) : TT2 := fun env M Q E => t env M (fun b M1 => if b = true then u env M1 Q E else Q false M1) E
@[simp] def tOr2 (t u : TT2) : TT2 := fun env M Q E => t env M (fun b M1 => if b = true then Q true M1 else u env M1 Q E) E
abbrev SW (G : Gm) (X : Cx) (Wx : WX) (e : Expr) (t : TT2) : Prop := PW X e (liftT G Wx t)
theorem sb_not {t : TT2} (h : SB G X Wx a t) : SB G X Wx (.UnaryOp .Not a pos) (tNot2 t) := by
  refine pt_imp (pt_not h) ?_
  rintro σ H Q ⟨g, env, M, Q0, E0, s, ev, t, k, x⟩
  exact ⟨g, env, M, _, E0, s, ev, t, fun b M1 h1 g1 H1 k1 s1 => k _ _ h1 g1 H1 k1 s1, x⟩
theorem sw_sb {t : TT2} (h : SW G X Wx e t) : SB G X Wx e t := h.pt
theorem sw_and1 {t : TT2} (h : SB G X Wx a t) : SW G X Wx (.BoolOp .And [a] pos) t := pw_and1 h
theorem sw_or1 {t : TT2} (h : SB G X Wx a t) : SW G X Wx (.BoolOp .Or [a] pos) t := pw_or1 h
theorem sw_and {t u : TT2} {rest : List Expr} (ha : SB G X Wx a t) (hb : SW G X Wx (.BoolOp .And (b :: rest) pos) u) : SW G X Wx (.BoolOp .And (a :: b :: rest) pos) (tAnd2 t u) := by
  refine pw_imp (pw_and ha hb) ?_
  rintro σ H Q ⟨g, env, M, Q0, E0, s, ev, t, k, x⟩
  refine ⟨g, env, M, _, E0, s, ev, t, fun b M1 h1 g1 H1 k1 s1 => ?_, x⟩
  cases b with
  | true => exact ⟨g1, env, M1, Q0, E0, s1, ev.keep k1.kz, h1, fun b M2 h2 g2 H2 k2 s2 => k b M2 h2 g2 H2 (k1.trans k2) s2, x.keep k1⟩
  | false => exact k _ _ h1 g1 H1 k1 s1
theorem sw_or {t u : TT2} {rest : List Expr} (ha : SB G X Wx a t) (hb : SW G X Wx (.BoolOp .Or (b :: rest) pos) u) : SW G X Wx (.BoolOp .Or (a :: b :: rest) pos) (tOr2 t u) := by
  refine pw_imp (pw_or ha hb) ?_
  rintro σ H Q ⟨g, env, M, Q0, E0, s, ev, t, k, x⟩
  refine ⟨g, env, M, _, E0, s, ev, t, fun b M1 h1 g1 H1 k1 s1 => ?_, x⟩
  cases b with
  | true => exact k _ _ h1 g1 H1 k1 s1
  | false => exact ⟨g1, env, M1, Q0, E0, s1, ev.keep k1.kz, h1, fun b M2 h2 g2 H2 k2 s2 => k b M2 h2 g2 H2 (k1.trans k2) s2, x.keep k1⟩
/-- .. as values -/
@[simp] def tBoolV (te : T2) (k : Bool → Env2 → Heap2 → Q2 → X2 → Prop) : T2 := fun env M Q E => te env M (fun w M1 => match w with
  | .bl b => k b env M1 Q E
  | _ => False) E
@[simp] def tAndV2 (ta tb : T2) : T2 := tBoolV ta fun b env M Q E => if b = true then tb env M Q E else Q (.bl false) M
@[simp] def tOrV2 (ta tb : T2) : T2 := tBoolV ta fun b env M Q E => if b = true then Q (.bl true) M else tb env M Q E
@[simp] def tNotV2 (ta : T2) : T2 := tBoolV ta fun b _ M Q _ => Q (.bl (!b)) M
theorem se_one {op} {t : T2} (h : SE G X Wx a t) : SE G X Wx (.BoolOp op [a] pos) t := pe_one h
theorem se_and {rest : List Expr} (ha : SE G X Wx a ta) (hb : SE G X Wx (.BoolOp .And (b :: rest) pos) tb) : SE G X Wx (.BoolOp .And (a :: b :: rest) pos) (tAndV2 ta tb) := by
  refine pe_imp (pe_and ha hb) ?_
  rintro σ H Q ⟨g, env, M, Q0, E0, s, ev, t, k, x⟩
  refine ⟨g, env, M, _, E0, s, ev, t, fun w M1 h1 g1 v H1 k1 s1 r1 => ?_, x⟩
  cases w <;> try exact h1.elim
  rename_i b
  refine ⟨b, r1, ?_⟩
  cases b with
  | true => exact ⟨g1, env, M1, Q0, E0, s1, ev.keep k1.kz, h1, fun w M2 h2 g2 v H2 k2 s2 r2 => k w M2 h2 g2 v H2 (k1.trans k2) s2 r2, x.keep k1⟩
  | false => exact k _ _ h1 g1 _ H1 k1 s1 rfl
theorem se_or {rest : List Expr} (ha : SE G X Wx a ta) (hb : SE G X Wx (.BoolOp .Or (b :: rest) pos) tb) : SE G X Wx (.BoolOp .Or (a :: b :: rest) pos) (tOrV2 ta tb) := by
  refine pe_imp (pe_or ha hb) ?_
  rintro σ H Q ⟨g, env, M, Q0, E0, s, ev, t, k, x⟩
  refine ⟨g, env, M, _, E0, s, ev, t, fun w M1 h1 g1 v H1 k1 s1 r1 => ?_, x⟩
  cases w <;> try exact h1.elim
  rename_i b
  refine ⟨b, r1, ?_⟩
  cases b with
  | true => exact k _ _ h1 g1 _ H1 k1 s1 rfl
  | false => exact ⟨g1, env, M1, Q0, E0, s1, ev.keep k1.kz, h1, fun w M2 h2 g2 v H2 k2 s2 r2 => k w M2 h2 g2 v H2 (k1.trans k2) s2 r2, x.keep k1⟩
theorem se_not (ha : SE G X Wx a ta) : SE G X Wx (.UnaryOp .Not a pos) (tNotV2 ta) := by
  refine pe_imp (pe_not ha) ?_
  rintro σ H Q ⟨g, env, M, Q0, E0, s, ev, t, k, x⟩
  refine ⟨g, env, M, _, E0, s, ev, t, fun w M1 h1 g1 v H1 k1 s1 r1 => ?_, x⟩
  cases w <;> try exact h1.elim
  exact ⟨_, r1, k _ _ h1 g1 _ H1 k1 s1 rfl⟩
/-- is None, is not None -/
@[simp] def W.isNon : W → Bool
  | .non => true
  | _ => false
@[simp] def rIsN2 (neg : Bool) : R22 := fun x y M Q => match y with
  | .non => Q (.bl (if neg then !x.isNon else x.isNon)) M
  | _ => False
theorem rep_isNon {Z : Addr → Prop} {H : Hp} {w : W} {v : V} (r : Rep G Z H w v) : decide (v = .non) = w.isNon := by
  cases w with
  | non => rw [show v = _ from r]; rfl
  | bl _ => rw [show v = _ from r]; rfl
  | int _ => rw [show v = _ from r]; rfl
  | str _ => rw [show v = _ from r]; rfl
  | tup _ => obtain ⟨_, _, rfl, _⟩ := r; rfl
  | lst _ => obtain ⟨_, _, rfl, _⟩ := r; rfl
  | scr _ => obtain ⟨_, _, rfl, _⟩ := r; rfl
  | ins _ _ => obtain ⟨_, _, _, rfl, _⟩ := r; rfl
  | ref _ => rw [show v = _ from r]; rfl
  | exn _ => exact r.elim
  | ktp _ => obtain ⟨_, _, rfl, _⟩ := r; rfl
theorem op_rIsN : OpR X (compareOp .Is) (liftR G (rIsN2 false)) := by
  refine opR_imp op_isN ?_
  rintro x y H Q ⟨g, M, wx, wy, Q0, s, rx, ry, q, k⟩
  cases wy <;> try exact q.elim
  exact ⟨ry, k _ _ q g _ H (Keep.refl g H) s (by rw [rep_isNon rx]; exact rfl)⟩
theorem op_rNotN : OpR X (compareOp .IsNot) (liftR G (rIsN2 true)) := by
  refine opR_imp op_notN ?_
  rintro x y H Q ⟨g, M, wx, wy, Q0, s, rx, ry, q, k⟩
  cases wy <;> try exact q.elim
  exact ⟨ry, k _ _ q g _ H (Keep.refl g H) s (by rw [rep_isNon rx]; exact rfl)⟩
theorem se_is (ha : SE G X Wx a ta) (hb : SE G X Wx b tb) : SE G X Wx (.Compare a [.Is] [b] pos) (tOp2 (rIsN2 false) ta tb) := se_cmp op_rIsN ha hb (nobehind _ (by decide) (by decide))
theorem se_isnot (ha : SE G X Wx a ta) (hb : SE G X Wx b tb) : SE G X Wx (.Compare a [.IsNot] [b] pos) (tOp2 (rIsN2 true) ta tb) := se_cmp op_rNotN ha hb (nobehind _ (by decide) (by decide))
@[simp] abbrev rNegW : R12 := fun x M Q => match x with
  | .int i => Q (.int (-i)) M
  | _ => False
theorem se_neg (ha : SE G X Wx a ta) : SE G X Wx (.UnaryOp .USub a pos) (tUn2 rNegW ta) := by
  refine se_un (unR_imp un_neg ?_) ha
  rintro x H Q ⟨g, M, wx, Q0, s, rx, q, k⟩
  cases wx <;> try exact q.elim
  exact ⟨_, rx, k _ _ q g _ H (Keep.refl g H) s rfl⟩

theorem dats_any {x : W} : ∀ (ys : List W), W.pures ys = true → W.pure x = true → ((W.dats ys).any fun z => PyData.eqv z (W.dat x)) = ys.any fun z => W.eqv z x
  | [], _, _ => rfl
  | y :: ys, h, hx => by
    simp only [W.pures, Bool.and_eq_true] at h
    show (PyData.eqv (W.dat y) (W.dat x) || (W.dats ys).any _) = (W.eqv y x || ys.any _)
    rw [eqv_dat _ _ h.1 hx, dats_any ys h.2 hx]
@[simp] def rIn2 (neg : Bool) : R22 := fun x y M Q => ∃ x' ys, drf2 M x = some x' ∧ drf2 M y = some (.lst ys) ∧ W.dep x' ≤ 64 ∧ W.deps ys ≤ 63 ∧ Q (.bl (if neg then !(ys.any fun z => W.eqv z x') else ys.any fun z => W.eqv z x')) M
theorem op_rIn (hK : X.K = G.K) (hu : X.A.units + 65 < cLine) : OpR X (compareOp .In) (liftR G (rIn2 false)) := by
  refine opR_imp (op_inD hu) ?_
  rintro x y H Q ⟨g, M, wx, wy, Q0, s, rx, ry, ⟨x', ys, e1, e2, d1, d2, q⟩, k⟩
  obtain ⟨p1, r1⟩ := drf_dp e1 s rx
  obtain ⟨p2, r2⟩ := drf_dp e2 s ry
  rw [hK]
  refine ⟨_, _, r1, r2, dat_shaped d1, dat_shaped (w := .lst ys) (by show W.deps ys + 1 ≤ 64; omega), k _ _ q g _ H (Keep.refl g H) s ?_⟩
  rw [dats_any ys p2 p1]; exact rfl
theorem op_rNotIn (hK : X.K = G.K) (hu : X.A.units + 65 < cLine) : OpR X (compareOp .NotIn) (liftR G (rIn2 true)) := by
  refine opR_imp (op_notInD hu) ?_
  rintro x y H Q ⟨g, M, wx, wy, Q0, s, rx, ry, ⟨x', ys, e1, e2, d1, d2, q⟩, k⟩
  obtain ⟨p1, r1⟩ := drf_dp e1 s rx
  obtain ⟨p2, r2⟩ := drf_dp e2 s ry
  rw [hK]
  refine ⟨_, _, r1, r2, dat_shaped d1, dat_shaped (w := .lst ys) (by show W.deps ys + 1 ≤ 64; omega), k _ _ q g _ H (Keep.refl g H) s ?_⟩
  rw [dats_any ys p2 p1]; exact rfl
theorem se_in (hu : X.A.units + 65 < cLine) (ha : SE G X Wx a ta) (hb : SE G X Wx b tb) (hm : behindInMarks .In b = false := by rfl) (hK : X.K = G.K := by rfl) : SE G X Wx (.Compare a [.In] [b] pos) (tOp2 (rIn2 false) ta tb) := se_cmp (op_rIn hK hu) ha hb hm
theorem se_notin (hu : X.A.units + 65 < cLine) (ha : SE G X Wx a ta) (hb : SE G X Wx b tb) (hm : behindInMarks .NotIn b = false := by rfl) (hK : X.K = G.K := by rfl) : SE G X Wx (.Compare a [.NotIn] [b] pos) (tOp2 (rIn2 true) ta tb) := se_cmp (op_rNotIn hK hu) ha hb hm
@[simp] def W.flat : W → Bool
  | .non => true
  | .bl _ => true
  | .int _ => true
  | .str _ => true
  | _ => false
theorem flat_rep {Z : Addr → Prop} {H : Hp} {w : W} {v : V} (f : w.flat = true) (r : Rep G Z H w v) : flatV v = true := by
  cases w <;> try (exact (Bool.false_ne_true f).elim)
  all_goals (rw [show v = _ from r]; rfl)
theorem flats_rep {Z : Addr → Prop} {H : Hp} : ∀ {ws : List W} {vs : List V}, ws.all W.flat = true → RepL G Z H ws vs → vs.all flatV = true
  | [], _, _, r => by rw [show _ = _ from r]; rfl
  | w :: ws, _, f, ⟨v, r, e, a, b⟩ => by
    subst e
    rw [List.all_cons, Bool.and_eq_true] at f
    rw [List.all_cons, flat_rep f.1 a, flats_rep f.2 b]; rfl
theorem eqV_rep {Z : Addr → Prop} {H : Hp} {x y : W} {v u : V} (fx : x.flat = true) (fy : y.flat = true) (rx : Rep G Z H x v) (ry : Rep G Z H y u) : eqV v u = W.eqv x y := by
  cases x <;> try (exact (Bool.false_ne_true fx).elim)
  all_goals (rw [show v = _ from rx]; cases y <;> try (exact (Bool.false_ne_true fy).elim))
  all_goals (rw [show u = _ from ry])
  all_goals try rfl
  all_goals try (simp [eqV, W.eqv]; done)
  · rename_i s t
    by_cases e : s = t
    · subst e; simp [eqV, W.eqv]
    · have h : ¬ Str.ofString s = Str.ofString t := fun h => e (ofString_inj h)
      simp [eqV, W.eqv, e, h]
end
end LW

namespace LW
open PySem L2
section
variable {G : Gm} {X : Cx} {Wx : WX} {a b c e o : Expr} {ta tb tc te : T2} {pos : Pos} {es : List Expr} {t : TA2}
@[simp] def tNil2 : TA2 := fun _ M Q _ => Q [] M
@[simp] def tCons2 (ta : T2) (t : TA2) : TA2 := fun env M Q E => ta env M (fun w M1 => t env M1 (fun ws M2 => Q (w :: ws) M2) E) E
theorem sa_nil : SA G X Wx [] tNil2 := by
  refine pa_imp pa_nil ?_
  rintro σ H Q ⟨g, env, M, Q0, E0, s, ev, t, k, x⟩
  exact k _ _ t g [] H (Keep.refl g H) s rfl
theorem sa_cons (ha : SE G X Wx e ta) (hr : SA G X Wx es t) (hs : starEach (e :: es) X.env = (false, eval e X.env) :: starEach es X.env := by rfl) : SA G X Wx (e :: es) (tCons2 ta t) := by
  refine pa_imp (pa_cons ha hr hs) ?_
  rintro σ H Q ⟨g, env, M, Q0, E0, s, ev, t, k, x⟩
  refine ⟨g, env, M, _, E0, s, ev, t, fun w M1 h1 g1 v H1 k1 s1 r1 => ?_, x⟩
  refine ⟨g1, env, M1, _, E0, s1, ev.keep k1.kz, h1, fun ws M2 h2 g2 vs H2 k2 s2 r2 => ?_, x.keep k1⟩
  exact k _ _ h2 g2 _ H2 (k1.trans k2) s2 ⟨v, vs, rfl, r1.keep k2.kz, r2⟩
@[simp] def tTup2 (t : TA2) : T2 := fun env M Q E => t env M (fun ws M1 => ws.length ≤ 10000000 ∧ Q (.tup ws) M1) E
theorem se_tup {x1} (h : SA G X Wx es t) : SE G X Wx (.Tuple es x1 pos) (tTup2 t) := by
  refine pe_imp (pe_tup h) ?_
  rintro σ H Q ⟨g, env, M, Q0, E0, s, ev, t, k, x⟩
  refine ⟨g, env, M, _, E0, s, ev, t, fun ws M1 h1 g1 vs H1 k1 s1 r1 => ⟨?_, fun p hp => ?_⟩, x⟩
  · rw [r1.length]; exact big_size h1.1
  · have kn := Keep.new (o := .tup vs) hp s1
    exact k _ _ h1.2 g1 _ _ (k1.trans kn) (s1.new hp) ⟨p, vs, rfl, upd_same, r1.keep kn.kz⟩
/-- a list that is only read from now on -/
@[simp] def tLst2 (t : TA2) : T2 := fun env M Q E => t env M (fun ws M1 => ws.length ≤ 10000000 ∧ Q (.lst ws) M1) E
theorem se_lst (h : SA G X Wx es t) : SE G X Wx (.List es pos) (tLst2 t) := by
  refine pe_imp (pe_lst h) ?_
  rintro σ H Q ⟨g, env, M, Q0, E0, s, ev, t, k, x⟩
  refine ⟨g, env, M, _, E0, s, ev, t, fun ws M1 h1 g1 vs H1 k1 s1 r1 => ⟨?_, fun p hp => ?_⟩, x⟩
  · rw [r1.length]; exact big_size h1.1
  · obtain ⟨sn, kn⟩ := s1.newZ (o := .lst vs) hp
    exact k _ _ h1.2 _ _ _ (k1.trans kn) sn ⟨p, vs, rfl, .inr rfl, upd_same, r1.keep kn.kz⟩
/-- a list that changes -/
@[simp] def tLstC (t : TA2) : T2 := fun env M Q E => t env M (fun ws M1 => ws.length ≤ 10000000 ∧ ∀ p, M1 p = none → Q (.ref p) (upd2 M1 p (some (.flat (.lst ws))))) E
theorem se_lstC (h : SA G X Wx es t) : SE G X Wx (.List es pos) (tLstC t) := by
  refine pe_imp (pe_lst h) ?_
  rintro σ H Q ⟨g, env, M, Q0, E0, s, ev, t, k, x⟩
  refine ⟨g, env, M, _, E0, s, ev, t, fun ws M1 h1 g1 vs H1 k1 s1 r1 => ⟨?_, fun p hp => ?_⟩, x⟩
  · rw [r1.length]; exact big_size h1.1
  · have kn := Keep.new (o := .lst vs) hp s1
    obtain ⟨sn, kn'⟩ := s1.alloc (m := .lst ws) (o := .lst vs) hp ⟨vs, upd_same, r1.keep kn.kz⟩
    exact k _ _ (h1.2 p (s1.free hp).1) _ _ _ (k1.trans kn') sn rfl

@[simp] def tFrz (te : T2) : T2 := fun env M Q E => te env M (fun w M1 => match w with
  | .ref p => match M1 p with
    | some (.flat (.lst ws)) => Q (.lst ws) (upd2 M1 p none)
    | _ => False
  | _ => False) E
theorem se_frz (h : SE G X Wx e te) : SE G X Wx e (tFrz te) := by
  refine pe_imp h ?_
  rintro σ H Q ⟨g, env, M, Q0, E0, s, ev, t, k, x⟩
  refine ⟨g, env, M, _, E0, s, ev, t, fun w M1 h1 g1 v H1 k1 s1 r1 => ?_, x⟩
  cases w <;> try exact h1.elim
  rename_i p
  have h1' : (match M1 p with | some (.flat (.lst ws)) => Q0 (.lst ws) (upd2 M1 p none) | _ => False) := h1
  split at h1'
  · rename_i ws hm
    obtain ⟨sf, kf, r⟩ := s1.freeze hm
    obtain ⟨vs, hv, rv⟩ := r
    exact k _ _ h1' _ _ _ (k1.trans kf) sf ⟨p, vs, r1, .inr rfl, hv, rv⟩
  · exact h1'.elim

@[simp] def insOf (M : Heap2) : W → Option (String × List (String × W))
  | .ins C fs => some (C, fs)
  | .ref a => match M a with
    | some (.flat (.ins C fs)) => some (C, fs)
    | _ => none
  | _ => none
theorem insOf_rep {g : Gh} {M : Heap2} {H : Hp} {w : W} {v : V} {C : String} {fs : List (String × W)} (e : insOf M w = some (C, fs)) (s : Sim G g M H) (r : Rep G g.Z H w v) :
    ∃ p dx vs, v = .ref p ∧ H p = some (.ins (G.cA C) dx vs) ∧ RepF G g.Z H fs vs := by
  cases w with
  | ins D gs => cases e; obtain ⟨p, dx, vs, e1, z, h, q⟩ := r; exact ⟨p, dx, vs, e1, h, q⟩
  | ref a =>
    have e' : (match M a with | some (.flat (.ins C fs)) => some (C, fs) | _ => none) = some (C, fs) := e
    split at e'
    · rename_i D gs hm
      cases e'
      obtain ⟨_, dx, vs, h, q⟩ := s.cell a _ hm
      exact ⟨a, dx, vs, r, h, q⟩
    · cases e'
  | non => cases e
  | bl _ => cases e
  | int _ => cases e
  | str _ => cases e
  | tup _ => cases e
  | lst _ => cases e
  | scr _ => cases e
  | exn _ => cases e
  | ktp _ => cases e
@[simp] def fget (f : String) : List (String × W) → Option W
  | [] => none
  | (g, w) :: r => if g = f then some w else fget f r
@[simp] def fput (f : String) (w : W) : List (String × W) → List (String × W)
  | [] => [(f, w)]
  | (g, x) :: r => if g = f then (g, w) :: r else (g, x) :: fput f w r
theorem RepF.get {Z : Addr → Prop} {H : Hp} {f : String} : ∀ {fs : List (String × W)} {vs : List (Str × V)} {w : W}, RepF G Z H fs vs → fget f fs = some w → ∃ v, vs.lookup (Str.ofString f) = some v ∧ Rep G Z H w v
  | (n, x) :: r, _, w, ⟨v, rr, e, a, b⟩, h => by
    subst e
    unfold fget at h
    by_cases q : n = f
    · rw [if_pos q] at h
      cases h
      subst q
      exact ⟨v, by simp [List.lookup], a⟩
    · rw [if_neg q] at h
      obtain ⟨u, h1, h2⟩ := RepF.get b h
      refine ⟨u, ?_, h2⟩
      rw [List.lookup_cons]
      have : (Str.ofString f == Str.ofString n) = false := by
        rw [beq_eq_false_iff_ne]
        exact fun z => q (ofString_inj z).symm
      rw [this]; exact h1
theorem RepF.gnone {Z : Addr → Prop} {H : Hp} {f : String} : ∀ {fs : List (String × W)} {vs : List (Str × V)}, RepF G Z H fs vs → fget f fs = none → vs.lookup (Str.ofString f) = none
  | [], _, h, _ => by rw [show _ = _ from h]; rfl
  | (n, x) :: r, _, ⟨v, rr, e, a, b⟩, h => by
    subst e
    unfold fget at h
    by_cases q : n = f
    · rw [if_pos q] at h; cases h
    · rw [if_neg q] at h
      rw [List.lookup_cons]
      have : (Str.ofString f == Str.ofString n) = false := by
        rw [beq_eq_false_iff_ne]
        exact fun z => q (ofString_inj z).symm
      rw [this]; exact RepF.gnone b h
theorem RepF.put {Z : Addr → Prop} {H : Hp} {f : String} {w : W} {v : V} (hw : Rep G Z H w v) : ∀ {fs : List (String × W)} {vs : List (Str × V)}, RepF G Z H fs vs → RepF G Z H (fput f w fs) (putF (Str.ofString f) v vs)
  | [], _, h => by rw [show _ = _ from h]; exact ⟨v, [], rfl, hw, rfl⟩
  | (n, x) :: r, _, ⟨u, rr, e, a, b⟩ => by
    subst e
    unfold fput
    show RepF G Z H _ (if Str.ofString n = Str.ofString f then (Str.ofString n, v) :: rr else (Str.ofString n, u) :: putF (Str.ofString f) v rr)
    by_cases q : n = f
    · rw [if_pos q, if_pos (by rw [q])]
      exact ⟨v, rr, rfl, hw, b⟩
    · rw [if_neg q, if_neg fun z => q (ofString_inj z)]
      exact ⟨u, _, rfl, a, RepF.put hw b⟩
theorem RepF.length {Z : Addr → Prop} {H : Hp} : ∀ {fs : List (String × W)} {vs : List (Str × V)}, RepF G Z H fs vs → vs.length = fs.length
  | [], _, h => by rw [show _ = _ from h]; rfl
  | (n, x) :: r, _, ⟨u, rr, e, a, b⟩ => by subst e; simp [RepF.length b]
/-- the classes of L are plain, and have no attribute f -/
def FldOk (K : PySem.W.Frag) (G : Gm) (L : List String) (f : String) : Prop := ∀ C, C ∈ L → Cls K (G.cA C) ∧ NoAttr K (G.cA C) (Str.ofString f)
@[simp] def tFld2 (L : List String) (f : String) (ta : T2) : T2 := fun env M Q E => ta env M (fun w M1 => match insOf M1 w with
  | some (C, fs) => C ∈ L ∧ (match fget f fs with
    | some v => Q v M1
    | none => False)
  | none => False) E
theorem se_fld {L : List String} {f : String} (hf : FldOk X.K G L f) (he : SE G X Wx e te) (hb : attributeBase e (Str.ofString f) X.env (eval e X.env) = eval e X.env := by rfl) : SE G X Wx (.Attribute e (Str.ofString f) pos) (tFld2 L f te) := by
  refine pe_imp (pe_fld he hb) ?_
  rintro σ H Q ⟨g, env, M, Q0, E0, s, ev, t, k, x⟩
  refine ⟨g, env, M, _, E0, s, ev, t, fun w M1 h1 g1 v H1 k1 s1 r1 => ?_, x⟩
  have h1' : (match insOf M1 w with | some (C, fs) => C ∈ L ∧ (match fget f fs with | some v => Q0 v M1 | none => False) | none => False) := h1
  split at h1'
  · rename_i C fs hi
    obtain ⟨hC, h2⟩ := h1'
    split at h2
    · rename_i u hu
      obtain ⟨p, dx, vs, e1, hp, rf⟩ := insOf_rep hi s1 r1
      obtain ⟨u', l, ru⟩ := rf.get hu
      exact ⟨p, _, dx, vs, u', e1, hp, (hf C hC).1, (hf C hC).2, l, k _ _ h2 g1 _ H1 k1 s1 ru⟩
    · exact h2.elim
  · exact h1'.elim
@[simp] def tSetFld (L : List String) (f : String) (ta tv : T2) : TS2 := fun D env M => tv env M (fun y M1 => ta env M1 (fun x M2 => match x with
  | .ref a => match M2 a with
    | some (.flat (.ins C fs)) => C ∈ L ∧ fs.length < 100 ∧ D.nx env (upd2 M2 a (some (.flat (.ins C (fput f y fs)))))
    | _ => False
  | _ => False) D.ex) D.ex
theorem ss_fld {L : List String} {f : String} {value : Expr} {tv : T2} {pos' : Pos} (hf : FldOk X.K G L f) (ha : SE G X Wx o ta) (hv : SE G X Wx value tv) (hs : swapsWith value (some (.Attribute o (Str.ofString f) pos')) pos.line X.env = pure false := by rfl) :
    SS G X Wx (.Assign [.Attribute o (Str.ofString f) pos'] value pos) (tSetFld L f ta tv) := by
  refine ps_imp (ps_fld ha hv hs) ?_
  rintro D σ H ⟨g, env, M, D0, s, ev, t, kn, kr, kb, kc, x⟩
  refine ⟨g, env, M, _, D0.ex, s, ev, t, fun y M1 h1 g1 vy H1 k1 s1 r1 => ?_, x⟩
  refine ⟨g1, env, M1, _, D0.ex, s1, ev.keep k1.kz, h1, fun w M2 h2 g2 v H2 k2 s2 r2 => ?_, x.keep k1⟩
  cases w <;> try exact h2.elim
  rename_i a
  have h2' : (match M2 a with | some (.flat (.ins C fs)) => C ∈ L ∧ fs.length < 100 ∧ D0.nx env (upd2 M2 a (some (.flat (.ins C (fput f y fs))))) | _ => False) := h2
  split at h2'
  · rename_i C fs hm
    obtain ⟨hC, hl, q⟩ := h2'
    obtain ⟨_, dx, vs, hp, rf⟩ := s2.cell a _ hm
    refine ⟨a, _, dx, vs, r2, hp, (hf C hC).1, (hf C hC).2, by rw [rf.length]; omega, ?_⟩
    obtain ⟨s3, k3⟩ := s2.write (m' := .ins C (fput f y fs)) (o := .ins (G.cA C) dx (putF (Str.ofString f) vy vs)) hm fun k3 => ⟨dx, _, upd_same, RepF.put ((r1.keep k2.kz).keep k3.kz) (rf.keep k3.kz)⟩
    exact kn _ _ q g2 _ _ ((k1.trans k2).trans k3) s3 (ev.keep ((k1.trans k2).trans k3).kz)
  · exact h2'.elim

@[simp] def seqOf (M : Heap2) : W → Option (List W)
  | .tup xs => some xs
  | w => listOf M w
theorem atI_rep {Z : Addr → Prop} {H : Hp} {xs : List W} {vs : List V} {i : Int} {w : W} (r : RepL G Z H xs vs) (h : atI xs i = some w) : ∃ v, atI vs i = some v ∧ Rep G Z H w v := by
  unfold atI at h ⊢
  rw [r.length]
  obtain ⟨j, e1, e2⟩ := Option.bind_eq_some_iff.mp h
  obtain ⟨v, h1, h2⟩ := r.get e2
  exact ⟨v, by rw [e1]; exact h1, h2⟩
@[simp] def rIx2 : R22 := fun x y M Q => match y with
  | .int i => match x with
    | .str s => match atI s.toList i with
      | some c => s.length ≤ 10000000 ∧ Q (.str (String.singleton c)) M
      | none => False
    | x => match seqOf M x with
      | some xs => match atI xs i with
        | some w => Q w M
        | none => False
      | none => False
  | _ => False
theorem ixR_imp {r r' : R2} (h : IxR X r) (i : ∀ x y H Q, r' x y H Q → r x y H Q) : IxR X r' := fun value slice pins s σ H x y v u Q I rx ry q hs => h value slice pins s σ H x y v u Q I rx ry (i _ _ _ _ q) hs
theorem ixR_or {r1 r2 : R2} (h1 : IxR X r1) (h2 : IxR X r2) : IxR X (fun x y H Q => r1 x y H Q ∨ r2 x y H Q) := fun value slice pins s σ H x y v u Q I rx ry q hs => q.elim (fun q => h1 value slice pins s σ H x y v u Q I rx ry q hs) (fun q => h2 value slice pins s σ H x y v u Q I rx ry q hs)
theorem ofString_single (c : Char) : Str.ofString (String.singleton c) = ⟨#[c.toNat]⟩ := by
  rw [Str.ofString_eq_toList]
  simp
theorem ofString_cps (s : String) : (Str.ofString s).cps.toList = s.toList.map Char.toNat := by
  rw [Str.ofString_eq_toList]
theorem atI_map {α β : Type} (f : α → β) (xs : List α) (i : Int) : atI (xs.map f) i = (atI xs i).map f := by
  unfold atI
  rw [List.length_map]
  cases ixN xs.length i with
  | none => rfl
  | some j => simp
theorem ix_all (hK : X.K = G.K) : IxR X (liftR G rIx2) := by
  refine ixR_imp (ixR_or (ix_list (X := X)) (ixR_or (ix_tup (X := X)) ix_str)) ?_
  rintro x y H Q ⟨g, M, wx, wy, Q0, s, rx, ry, q, k⟩
  cases wy <;> try exact q.elim
  rename_i i
  have gen : ∀ xs, listOf M wx = some xs → (match atI xs i with | some w => Q0 w M | none => False) → rIxL X.K x y H Q := fun xs e q => by
    split at q
    · rename_i w hw
      obtain ⟨p, vs, e1, h1, r1⟩ := listOf_rep e s rx
      obtain ⟨v, h2, r2⟩ := atI_rep r1 hw
      exact ⟨p, vs, i, v, e1, ry, by rw [hK]; exact h1, h2, k _ _ q g _ H (Keep.refl g H) s r2⟩
    · exact q.elim
  have gen' : (match listOf M wx with | some xs => (match atI xs i with | some w => Q0 w M | none => False) | none => False) → rIxL X.K x y H Q := fun q => by
    split at q
    · rename_i xs e; exact gen xs e q
    · exact q.elim
  cases wx with
  | str t =>
    have q' : (match atI t.toList i with | some c => t.length ≤ 10000000 ∧ Q0 (.str (String.singleton c)) M | none => False) := q
    split at q'
    · rename_i c hc
      refine .inr (.inr ⟨_, i, c.toNat, rx, ry, by rw [ofString_len]; exact big_size q'.1, ?_, ?_⟩)
      · rw [ofString_cps, atI_map, hc]; rfl
      · rw [← ofString_single]
        exact k _ _ q'.2 g _ H (Keep.refl g H) s rfl
    · exact q'.elim
  | tup xs =>
    have q' : (match atI xs i with | some w => Q0 w M | none => False) := q
    split at q'
    · rename_i w hw
      obtain ⟨p, vs, e1, h1, r1⟩ := rx
      obtain ⟨v, h2, r2⟩ := atI_rep r1 hw
      exact .inr (.inl ⟨p, vs, i, v, e1, ry, SqT.of h1, h2, k _ _ q' g _ H (Keep.refl g H) s r2⟩)
    · exact q'.elim
  | lst xs => exact .inl (gen xs rfl q)
  | scr xs => exact .inl (gen xs rfl q)
  | ref a => exact .inl (gen' q)
  | non => exact q.elim
  | bl _ => exact q.elim
  | int _ => exact q.elim
  | ins _ _ => exact q.elim
  | exn _ => exact q.elim
  | ktp _ => exact q.elim
theorem se_ix (ha : SE G X Wx a ta) (hb : SE G X Wx b tb) (hs : PlainIx b := by exact fun _ _ => rfl) (hK : X.K = G.K := by rfl) : SE G X Wx (.Subscript a b pos) (tOp2 rIx2 ta tb) := pe_imp (pe_ix (ix_all hK) ha hb hs) bin2
end
end LW

namespace LW
open PySem L2
/-- what the lifted ends say -/
structure EndsR (G : Gm) (Wx : WX) (g : Gh) (H : Hp) (D0 : Ends2) (D : Ends) : Prop where
  nx : ∀ env' M', D0.nx env' M' → ∀ g' σ' H', Keep g H g' H' → Sim G g' M' H' → EnvR G g'.Z H' env' σ' → D.nx σ' H'
  rt : ∀ w M', D0.rt w M' → ∀ g' v H', Keep g H g' H' → Sim G g' M' H' → Rep G g'.Z H' w v → D.rt v H'
  bk : ∀ env' M', D0.bk env' M' → ∀ g' σ' H', Keep g H g' H' → Sim G g' M' H' → EnvR G g'.Z H' env' σ' → D.bk σ' H'
  ct : ∀ env' M', D0.ct env' M' → ∀ g' σ' H', Keep g H g' H' → Sim G g' M' H' → EnvR G g'.Z H' env' σ' → D.ct σ' H'
  ex : ExOk G Wx g H D0.ex
theorem EndsR.keep {G : Gm} {Wx : WX} {g g' : Gh} {H H' : Hp} {D0 : Ends2} {D : Ends} (r : EndsR G Wx g H D0 D) (k : Keep g H g' H') : EndsR G Wx g' H' D0 D :=
  ⟨fun e M h g2 σ2 H2 k2 => r.nx e M h g2 σ2 H2 (k.trans k2), fun e M h g2 σ2 H2 k2 => r.rt e M h g2 σ2 H2 (k.trans k2), fun e M h g2 σ2 H2 k2 => r.bk e M h g2 σ2 H2 (k.trans k2), fun e M h g2 σ2 H2 k2 => r.ct e M h g2 σ2 H2 (k.trans k2), r.ex.keep k⟩
theorem liftS_iff {G : Gm} {Wx : WX} {t : TS2} {D : Ends} {σ : St} {H : Hp} : liftS G Wx t D σ H ↔ ∃ g env M D0, Sim G g M H ∧ EnvR G g.Z H env σ ∧ t D0 env M ∧ EndsR G Wx g H D0 D :=
  ⟨fun ⟨g, env, M, D0, s, ev, t, a, b, c, d, e⟩ => ⟨g, env, M, D0, s, ev, t, ⟨a, b, c, d, e⟩⟩, fun ⟨g, env, M, D0, s, ev, t, ⟨a, b, c, d, e⟩⟩ => ⟨g, env, M, D0, s, ev, t, a, b, c, d, e⟩⟩
theorem liftS_mk {G : Gm} {Wx : WX} {t : TS2} {D : Ends} {σ : St} {H : Hp} {g : Gh} {env : Env2} {M : Heap2} {D0 : Ends2} (s : Sim G g M H) (ev : EnvR G g.Z H env σ) (h : t D0 env M) (r : EndsR G Wx g H D0 D) : liftS G Wx t D σ H := liftS_iff.mpr ⟨g, env, M, D0, s, ev, h, r⟩
section
variable {G : Gm} {X : Cx} {Wx : WX} {a b c e o : Expr} {ta tb tc te : T2} {pos : Pos} {st : Stmt} {rest : List Stmt} {t u : TS2}
@[simp] def tNext2 : TS2 := fun D env M => D.nx env M
@[simp] def tSeq2 (t u : TS2) : TS2 := fun D env M => t { D with nx := u D } env M
theorem sss_nil : SSs G X Wx [] tNext2 := by
  refine pss_imp pss_nil ?_
  rintro D σ H h
  obtain ⟨g, env, M, D0, s, ev, t, r⟩ := liftS_iff.mp h
  exact r.nx _ _ t g σ H (Keep.refl g H) s ev
theorem sss_one (h : SS G X Wx st t) : SSs G X Wx [st] t := pss_one h
theorem sss_cons (h1 : SS G X Wx st t) (h2 : SSs G X Wx rest u) : SSs G X Wx (st :: rest) (tSeq2 t u) := by
  refine pss_imp (pss_cons h1 h2) ?_
  rintro D σ H h
  obtain ⟨g, env, M, D0, s, ev, t, r⟩ := liftS_iff.mp h
  refine liftS_mk (D0 := { D0 with nx := u D0 }) s ev t ⟨fun env' M' h' g' σ' H' k' s' ev' => ?_, r.rt, r.bk, r.ct, r.ex⟩
  exact liftS_mk s' ev' h' (r.keep k')
@[simp] def tDrop2 (te : T2) : TS2 := fun D env M => te env M (fun _ M1 => D.nx env M1) D.ex
theorem ss_expr (he : SE G X Wx e te) (hs : swapsWith e none pos.line X.env = pure false := by rfl) : SS G X Wx (.Expr e pos) (tDrop2 te) := by
  refine ps_imp (ps_expr he hs) ?_
  rintro D σ H h
  obtain ⟨g, env, M, D0, s, ev, t, r⟩ := liftS_iff.mp h
  exact ⟨g, env, M, _, D0.ex, s, ev, t, fun w M1 h1 g1 v H1 k1 s1 r1 => r.nx _ _ h1 g1 σ H1 k1 s1 (ev.keep k1.kz), r.ex⟩
@[simp] def tRet2 (te : T2) : TS2 := fun D env M => te env M D.rt D.ex
theorem ss_ret (he : SE G X Wx e te) : SS G X Wx (.Return (some e) pos) (tRet2 te) := by
  refine ps_imp (ps_ret he) ?_
  rintro D σ H h
  obtain ⟨g, env, M, D0, s, ev, t, r⟩ := liftS_iff.mp h
  exact ⟨g, env, M, _, D0.ex, s, ev, t, r.rt, r.ex⟩
@[simp] def tRetN2 : TS2 := fun D _ M => D.rt .non M
theorem ss_retN : SS G X Wx (.Return none pos) tRetN2 := by
  refine ps_imp ps_retN ?_
  rintro D σ H h
  obtain ⟨g, env, M, D0, s, ev, t, r⟩ := liftS_iff.mp h
  exact r.rt _ _ t g _ H (Keep.refl g H) s rfl
@[simp] def tIf2 (c : TT2) (t u : TS2) : TS2 := fun D env M => c env M (fun b M1 => if b = true then t D env M1 else u D env M1) D.ex
theorem ss_if {tc : TT2} {A B : List Stmt} (hc : SB G X Wx c tc) (ha : SSs G X Wx A t) (hb : SSs G X Wx B u) : SS G X Wx (.If c A B pos) (tIf2 tc t u) := by
  refine ps_imp (ps_if hc ha hb) ?_
  rintro D σ H h
  obtain ⟨g, env, M, D0, s, ev, t, r⟩ := liftS_iff.mp h
  refine ⟨g, env, M, _, D0.ex, s, ev, t, fun b M1 h1 g1 H1 k1 s1 => ?_, r.ex⟩
  cases b with
  | true => exact liftS_mk s1 (ev.keep k1.kz) h1 (r.keep k1)
  | false => exact liftS_mk s1 (ev.keep k1.kz) h1 (r.keep k1)
theorem ss_pass : SS G X Wx (.Pass pos) tNext2 := by
  refine ps_imp ps_pass ?_
  rintro D σ H h
  obtain ⟨g, env, M, D0, s, ev, t, r⟩ := liftS_iff.mp h
  exact r.nx _ _ t g σ H (Keep.refl g H) s ev
@[simp] def tBreak2 : TS2 := fun D env M => D.bk env M
theorem ss_break : SS G X Wx (.Break pos) tBreak2 := by
  refine ps_imp ps_break ?_
  rintro D σ H h
  obtain ⟨g, env, M, D0, s, ev, t, r⟩ := liftS_iff.mp h
  exact r.bk _ _ t g σ H (Keep.refl g H) s ev
theorem ss_doc {x j pos'} : SS G X Wx (.Expr (.Constant (.str x) j pos) pos') tNext2 := by
  refine ps_imp ps_doc ?_
  rintro D σ H h
  obtain ⟨g, env, M, D0, s, ev, t, r⟩ := liftS_iff.mp h
  exact r.nx _ _ t g σ H (Keep.refl g H) s ev

abbrev TG2 := W → Env2 → Heap2 → (Env2 → Heap2 → Prop) → Prop
abbrev TGs2 := List W → Env2 → Heap2 → (Env2 → Heap2 → Prop) → Prop
def liftG (G : Gm) (t : TG2) : TG := fun v σ H Q => ∃ g w env M Q0, Sim G g M H ∧ EnvR G g.Z H env σ ∧ Rep G g.Z H w v ∧ t w env M Q0 ∧ ∀ env' M', Q0 env' M' → ∀ g' σ' H', Keep g H g' H' → Sim G g' M' H' → EnvR G g'.Z H' env' σ' → Q σ' H'
def liftGs (G : Gm) (t : TGs2) : TGs := fun vs σ H Q => ∃ g ws env M Q0, Sim G g M H ∧ EnvR G g.Z H env σ ∧ RepL G g.Z H ws vs ∧ t ws env M Q0 ∧ ∀ env' M', Q0 env' M' → ∀ g' σ' H', Keep g H g' H' → Sim G g' M' H' → EnvR G g'.Z H' env' σ' → Q σ' H'
abbrev SG (G : Gm) (X : Cx) (e : Expr) (t : TG2) : Prop := PG X e (liftG G t)
abbrev SGs (G : Gm) (X : Cx) (es : List Expr) (t : TGs2) : Prop := PGs X es (liftGs G t)
theorem pg_imp {X : Cx} {e : Expr} {t t' : TG} (h : PG X e t) (i : ∀ v σ H Q, t' v σ H Q → t v σ H Q) : PG X e t' := ⟨fun pins s σ H v u Q I r q => h.run pins s σ H v u Q I r (i _ _ _ _ q)⟩
theorem pgs_imp {X : Cx} {e : List Expr} {t t' : TGs} (h : PGs X e t) (i : ∀ v σ H Q, t' v σ H Q → t v σ H Q) : PGs X e t' := ⟨fun pins s σ H v u Q I r q => h.run pins s σ H v u Q I r (i _ _ _ _ q)⟩
@[simp] def gName2 (i : Nat) : TG2 := fun w env M Q => Q (env.set i (some w)) M
theorem sg_name {i : Nat} {x : Str} (hN : X.N.Nodup) (hi : X.N[i]? = some x) (hx : Loc X.env.scope x) (hf : X.fn x = true ∨ X.env.scope.names.lookup x = some .local := by first | exact .inl rfl | exact .inr rfl | assumption) : SG G X (.Name x pos) (gName2 i) := by
  refine pg_imp (pg_name hN hi hx hf) ?_
  rintro v σ H Q ⟨g, w, env, M, Q0, s, ev, r, t, k⟩
  exact k _ _ t g _ H (Keep.refl g H) s (ev.set r)
@[simp] def gNil2 : TGs2 := fun ws env M Q => match ws with
  | [] => Q env M
  | _ => False
@[simp] def gCons2 (t : TG2) (u : TGs2) : TGs2 := fun ws env M Q => match ws with
  | w :: r => t w env M fun env' M' => u r env' M' Q
  | _ => False
theorem sgs_nil : SGs G X [] gNil2 := by
  refine pgs_imp pgs_nil ?_
  rintro v σ H Q ⟨g, ws, env, M, Q0, s, ev, r, t, k⟩
  cases ws with
  | nil => exact ⟨r, k _ _ t g σ H (Keep.refl g H) s ev⟩
  | cons _ _ => exact t.elim
theorem sgs_cons {es : List Expr} {t : TG2} {u : TGs2} (h1 : SG G X e t) (h2 : SGs G X es u) (hs : (assignEach (e :: es) X.env).map (·.2) = assign e X.env :: (assignEach es X.env).map (·.2) := by rfl) : SGs G X (e :: es) (gCons2 t u) := by
  refine pgs_imp (pgs_cons h1 h2 hs) ?_
  rintro v σ H Q ⟨g, ws, env, M, Q0, s, ev, r, t, k⟩
  cases ws with
  | nil => exact t.elim
  | cons w ws =>
    obtain ⟨x, rr, rfl, ra, rb⟩ := r
    refine ⟨x, rr, rfl, g, w, env, M, _, s, ev, ra, t, fun env' M' h' g' σ' H' k' s' ev' => ?_⟩
    exact ⟨g', ws, env', M', _, s', ev', rb.keep k'.kz, h', fun env2 M2 h2 g2 σ2 H2 k2 s2 ev2 => k _ _ h2 g2 σ2 H2 (k'.trans k2) s2 ev2⟩
@[simp] def gTup2 (n : Nat) (t : TGs2) : TG2 := fun w env M Q => match w with
  | .tup ws => ws.length = n ∧ t ws env M Q
  | _ => False
theorem sg_tup {es : List Expr} {k : Nat} {t : TGs2} {n : Nat} (hc : X.calm = true) (h : SGs G X es t) (hn : (assignEach es X.env).length = n := by rfl) (hst : (assignEach es X.env).findIdx? (·.1) = none := by rfl) (hK : X.K = G.K := by rfl) : SG G X (.Tuple es k pos) (gTup2 n t) := by
  refine pg_imp (pg_tup hc h hn hst) ?_
  rintro v σ H Q ⟨g, w, env, M, Q0, s, ev, r, t, k⟩
  cases w <;> try exact t.elim
  obtain ⟨p, vs, rfl, hp, rr⟩ := r
  exact ⟨p, vs, rfl, SqT.of hp, rr.length.trans t.1, g, _, env, M, Q0, s, ev, rr, t.2, k⟩
@[simp] def tAsg2 (te : T2) (g : TG2) : TS2 := fun D env M => te env M (fun w M1 => g w env M1 D.nx) D.ex
theorem ss_asg {tg : Expr} {gt : TG2} (he : SE G X Wx e te) (hg : SG G X tg gt) (hs : swapsWithSole [tg] e pos.line X.env = pure false := by rfl) (hw : swappedStores [tg] e X.env = pure none := by rfl)
    (h1 : (assignEach [tg] X.env).map (·.2) = [assign tg X.env] := by rfl) : SS G X Wx (.Assign [tg] e pos) (tAsg2 te gt) := by
  refine ps_imp (ps_asg he hg hs hw h1) ?_
  rintro D σ H h
  obtain ⟨g, env, M, D0, s, ev, t, r⟩ := liftS_iff.mp h
  refine ⟨g, env, M, _, D0.ex, s, ev, t, fun w M1 h1 g1 v H1 k1 s1 r1 => ?_, r.ex⟩
  exact ⟨g1, w, env, M1, _, s1, ev.keep k1.kz, r1, h1, fun env' M' h' g' σ' H' k' s' ev' => r.nx _ _ h' g' σ' H' (k1.trans k') s' ev'⟩
theorem ss_set {i : Nat} {x : Str} {pos' : Pos} (hN : X.N.Nodup) (hi : X.N[i]? = some x) (hx : Loc X.env.scope x) (he : SE G X Wx e te) (hs : swapsWith e (some (.Name x pos')) pos.line X.env = pure false := by rfl) (hf : X.fn x = true ∨ X.env.scope.names.lookup x = some .local := by first | exact .inl rfl | exact .inr rfl | assumption) :
    SS G X Wx (.Assign [.Name x pos'] e pos) (tAsg2 te (gName2 i)) := by
  refine ps_imp (ps_set hN hi hx he hs hf) ?_
  rintro D σ H h
  obtain ⟨g, env, M, D0, s, ev, t, r⟩ := liftS_iff.mp h
  refine ⟨g, env, M, _, D0.ex, s, ev, t, fun w M1 h1 g1 v H1 k1 s1 r1 => ?_, r.ex⟩
  exact r.nx _ _ h1 g1 _ H1 k1 s1 ((ev.keep k1.kz).set r1)
@[simp] def tAug2 (i : Nat) (te : T2) : TS2 := fun D env M => match env[i]? with
  | some (some (.int x)) => te env M (fun w M1 => match w with
    | .int y => D.nx (env.set i (some (.int (x + y)))) M1
    | _ => False) D.ex
  | _ => False
theorem ss_aug {i : Nat} {x : Str} {pos' : Pos} (hN : X.N.Nodup) (hi : X.N[i]? = some x) (hx : Loc X.env.scope x) (he : SE G X Wx e te) (hf : X.fn x = true ∨ X.env.scope.names.lookup x = some .local := by first | exact .inl rfl | exact .inr rfl | assumption) : SS G X Wx (.AugAssign (.Name x pos') .Add e pos) (tAug2 i te) := by
  refine ps_imp (ps_aug hN hi hx he ip_add hf) ?_
  rintro D σ H h
  obtain ⟨g, env, M, D0, s, ev, t, r⟩ := liftS_iff.mp h
  have t' : (match env[i]? with
    | some (some (.int x)) => te env M (fun w M1 => match w with
      | .int y => D0.nx (env.set i (some (.int (x + y)))) M1
      | _ => False) D0.ex
    | _ => False) := t
  split at t'
  · rename_i x0 hw
    obtain ⟨v, h1, h2⟩ := ev.get hw
    refine ⟨v, h1, g, env, M, _, D0.ex, s, ev, t', fun w M1 h1 g1 v1 H1 k1 s1 r1 => ?_, r.ex⟩
    cases w <;> try exact h1.elim
    exact ⟨_, _, h2, r1, r.nx _ _ h1 g1 _ H1 k1 s1 ((ev.keep k1.kz).set (show Rep G g1.Z H1 (.int _) (.int _) from rfl))⟩
  · exact t'.elim
/-- o.f += e, ints -/
@[simp] def tAugFld (L : List String) (f : String) (ta te : T2) : TS2 := fun D env M => ta env M (fun x M1 => match x with
  | .ref a => match M1 a with
    | some (.flat (.ins C fs)) => C ∈ L ∧ fs.length < 100 ∧ (match fget f fs with
      | some (.int i) => te env M1 (fun w M2 => match w with
        | .int j => M2 a = some (.flat (.ins C fs)) ∧ D.nx env (upd2 M2 a (some (.flat (.ins C (fput f (.int (i + j)) fs)))))
        | _ => False) D.ex
      | _ => False)
    | _ => False
  | _ => False) D.ex
theorem ss_augfld {L : List String} {f : String} {tpos : Pos} (hf : FldOk X.K G L f) (ha : SE G X Wx o ta) (he : SE G X Wx e te) : SS G X Wx (.AugAssign (.Attribute o (Str.ofString f) tpos) .Add e pos) (tAugFld L f ta te) := by
  refine ps_imp (ps_fldaug ha he in_add) ?_
  rintro D σ H h
  obtain ⟨g, env, M, D0, s, ev, t, r⟩ := liftS_iff.mp h
  refine ⟨g, env, M, _, D0.ex, s, ev, t, fun x M1 h1 g1 vx H1 k1 s1 r1 => ?_, r.ex⟩
  cases x <;> try exact h1.elim
  rename_i a
  have h1' : (match M1 a with
    | some (.flat (.ins C fs)) => C ∈ L ∧ fs.length < 100 ∧ (match fget f fs with
      | some (.int i) => te env M1 (fun w M2 => match w with
        | .int j => M2 a = some (.flat (.ins C fs)) ∧ D0.nx env (upd2 M2 a (some (.flat (.ins C (fput f (.int (i + j)) fs)))))
        | _ => False) D0.ex
      | _ => False)
    | _ => False) := h1
  split at h1'
  · rename_i C fs hm
    obtain ⟨hC, hl, q⟩ := h1'
    obtain ⟨_, dx, vs, hp, rf⟩ := s1.cell a _ hm
    split at q
    · rename_i i hi
      obtain ⟨v, l, rv⟩ := rf.get hi
      refine ⟨a, _, dx, vs, v, r1, hp, (hf C hC).1, (hf C hC).2, l, g1, env, M1, _, D0.ex, s1, ev.keep k1.kz, q, fun w M2 h2 g2 v2 H2 k2 s2 r2 => ?_, r.ex.keep k1⟩
      cases w <;> try exact h2.elim
      rename_i j
      obtain ⟨hm2, q2⟩ := h2
      obtain ⟨_, dx2, vs2, hp2, rf2⟩ := s2.cell a _ hm2
      refine ⟨i, j, rv, r2, dx2, vs2, hp2, by rw [rf2.length]; omega, ?_⟩
      obtain ⟨s3, k3⟩ := s2.write (m' := .ins C (fput f (.int (i + j)) fs)) (o := .ins (G.cA C) dx2 (putF (Str.ofString f) (.int (i + j)) vs2)) hm2 fun k3 => ⟨dx2, _, upd_same, RepF.put (show Rep G g2.Z _ (.int (i + j)) (.int (i + j)) from rfl) (rf2.keep k3.kz)⟩
      exact r.nx _ _ q2 g2 _ _ ((k1.trans k2).trans k3) s3 (ev.keep ((k1.trans k2).trans k3).kz)
    · exact q.elim
  · exact h1'.elim

def tWhile2 (c : TT2) (tb : TS2) : TS2 := fun D env M => ∃ W : Nat → Env2 → Heap2 → Prop, (∃ m, W m env M) ∧ ∀ m env M, W m env M →
  c env M (fun b M1 => if b = true then tb { D with nx := fun e M => ∃ m', m' < m ∧ W m' e M, ct := fun e M => ∃ m', m' < m ∧ W m' e M, bk := D.nx } env M1 else D.nx env M1) D.ex
theorem ss_while {tc : TT2} {body : List Stmt} {tb : TS2} (hp : PassesOwn (model X.prog X.w) X.A X.env X.xe) (hc : SB G X Wx c tc) (hb : SSs G X Wx body tb) : SS G X Wx (.While c body [] pos) (tWhile2 tc tb) := by
  refine ps_imp (ps_while hp hc hb) ?_
  rintro D σ H h
  obtain ⟨g0, env0, M0, D0, s0, ev0, ⟨W, ⟨m0, w0⟩, turn⟩, r⟩ := liftS_iff.mp h
  refine ⟨fun m σ H => ∃ g env M, Keep g0 H g H ∧ False ∨ ∃ g env M, Sim G g M H ∧ EnvR G g.Z H env σ ∧ W m env M ∧ EndsR G Wx g H D0 D, ⟨m0, g0, env0, M0, .inr ⟨g0, env0, M0, s0, ev0, w0, r⟩⟩, ?_⟩
  rintro m σ H ⟨_, _, _, z | ⟨g, env, M, s, ev, w, r⟩⟩
  · exact z.2.elim
  refine ⟨g, env, M, _, D0.ex, s, ev, turn m env M w, fun b M1 h1 g1 H1 k1 s1 => ?_, r.ex⟩
  cases b with
  | true =>
    refine ⟨_, fun σ' H' h => h, ?_⟩
    refine liftS_mk s1 (ev.keep k1.kz) h1 ⟨?_, (r.keep k1).rt, (r.keep k1).nx, ?_, r.ex.keep k1⟩
    · rintro env' M' ⟨m', hm, w'⟩ g' σ' H' k' s' ev'
      exact ⟨m', hm, g', env', M', .inr ⟨g', env', M', s', ev', w', (r.keep k1).keep k'⟩⟩
    · rintro env' M' ⟨m', hm, w'⟩ g' σ' H' k' s' ev'
      exact ⟨m', hm, g', env', M', .inr ⟨g', env', M', s', ev', w', (r.keep k1).keep k'⟩⟩
  | false => exact r.nx _ _ h1 g1 _ H1 k1 s1 (ev.keep k1.kz)

/-- what is walked: the items, and what must hold of the heap at each turn -/
def tForI (chk : Heap2 → Prop) (gt : TG2) (tb : TS2) : List W → TS2
  | [] => fun D env M => chk M ∧ D.nx env M
  | x :: r => fun D env M => chk M ∧ gt x env M fun env1 M1 => tb { D with nx := fun e M => tForI chk gt tb r D e M, ct := fun e M => tForI chk gt tb r D e M, bk := D.nx } env1 M1
theorem forI_ind {chk : Heap2 → Prop} {gt : TG2} {tb : TS2} {D : Ends2} (I : List W → Env2 → Heap2 → Prop) (h0 : ∀ env M, I [] env M → chk M ∧ D.nx env M)
    (hs : ∀ x r env M (K : Env2 → Heap2 → Prop), I (x :: r) env M → (∀ e M, I r e M → K e M) → chk M ∧ gt x env M fun e1 M1 => tb { D with nx := K, ct := K, bk := D.nx } e1 M1) :
    ∀ xs env M, I xs env M → tForI chk gt tb xs D env M
  | [], env, M, h => h0 env M h
  | x :: r, env, M, h => hs x r env M _ h fun e M h => forI_ind I h0 hs r e M h
/-- an iterable: by its reading the items and the check -/
abbrev TI2 := Env2 → Heap2 → (List W → (Heap2 → Prop) → Heap2 → Prop) → X2 → Prop
def tFor2 (wi : TI2) (gt : TG2) (tb : TS2) : TS2 := fun D env M => wi env M (fun xs chk M1 => tForI chk gt tb xs D env M1) D.ex
/-- an iterator that yields the items xs as long as chk holds -/
def ItR (G : Gm) (J : It) (g0 : Gh) (H0 : Hp) (xs : List W) (chk : Heap2 → Prop) : Prop :=
  ∀ g M H, KeepZ g0.Z H0 g.Z H → Sim G g M H → chk M → (J.stop xs.length H) ∧ ∀ i x, xs[i]? = some x → J.go i H ∧ ∀ v H', J.yld i H v H' → ∃ g', Keep g H g' H' ∧ Sim G g' M H' ∧ Rep G g'.Z H' x v
def liftI (G : Gm) (Wx : WX) (t : TI2) : TI := fun σ H R => ∃ g env M Q0 E0, Sim G g M H ∧ EnvR G g.Z H env σ ∧ t env M Q0 E0 ∧
  (∀ xs chk M', Q0 xs chk M' → ∀ g' J H', Keep g H g' H' → Sim G g' M' H' → ItR G J g' H' xs chk → R J H') ∧ ExOk G Wx g H E0
abbrev SI (G : Gm) (X : Cx) (Wx : WX) (tg e : Expr) (t : TI2) : Prop := PI X tg e (liftI G Wx t)
theorem ss_for {tg iter : Expr} {body : List Stmt} {wi : TI2} {gt : TG2} {tb : TS2} (hp : PassesOwn (model X.prog X.w) X.A X.env X.xe) (hc : X.calm = true) (hi : SI G X Wx tg iter wi) (hg : SG G X tg gt) (hb : SSs G X Wx body tb)
    (hs : ∀ x, foldedSetIterable iter X.env x = pure x := by intro _; rfl) : SS G X Wx (.For tg iter body [] pos) (tFor2 wi gt tb) := by
  refine ps_imp (ps_for hp hc hi hg hb hs) ?_
  rintro D σ H h
  obtain ⟨g0, env0, M0, D0, s0, ev0, t, r⟩ := liftS_iff.mp h
  refine ⟨g0, env0, M0, _, D0.ex, s0, ev0, t, fun xs chk M1 h1 g1 J H1 k1 s1 ij => ?_, r.ex⟩
  refine ⟨fun i m σ H => ∃ g env M, i ≤ xs.length ∧ m = xs.length - i ∧ Keep g1 H1 g H ∧ Sim G g M H ∧ EnvR G g.Z H env σ ∧ tForI chk gt tb (xs.drop i) D0 env M, ⟨xs.length, g1, env0, M1, Nat.zero_le _, rfl, Keep.refl _ _, s1, ev0.keep k1.kz, h1⟩, ?_⟩
  rintro i m σ H ⟨g, env, M, hi, rfl, kk, s, ev, q⟩
  by_cases hlt : i < xs.length
  · right
    have hx : xs[i]? = some xs[i] := by simp [hlt]
    rw [List.drop_eq_getElem_cons hlt] at q
    obtain ⟨hchk, q⟩ := q
    obtain ⟨go, yld⟩ := (ij g M H kk.kz s hchk).2 i _ hx
    refine ⟨go, fun σ' H' => ∃ g env M, Keep g1 H1 g H' ∧ Sim G g M H' ∧ EnvR G g.Z H' env σ' ∧ tForI chk gt tb (xs.drop (i + 1)) D0 env M, ?_, ?_⟩
    · rintro σ' H' ⟨g', env', M', k', s', ev', q'⟩
      exact ⟨xs.length - (i + 1), by omega, g', env', M', hlt, rfl, k', s', ev', q'⟩
    · intro v H' y
      obtain ⟨g', k', s', r'⟩ := yld v H' y
      refine ⟨g', _, env, M, _, s', ev.keep k'.kz, r', q, fun env2 M2 h2 g2 σ2 H2 k2 s2 ev2 => ?_⟩
      have kk2 := (kk.trans k').trans k2
      have r2 := r.keep (k1.trans kk2)
      refine liftS_mk s2 ev2 h2 ⟨?_, r2.rt, r2.nx, ?_, r2.ex⟩
      · intro env3 M3 h3 g3 σ3 H3 k3 s3 ev3
        exact ⟨g3, env3, M3, kk2.trans k3, s3, ev3, h3⟩
      · intro env3 M3 h3 g3 σ3 H3 k3 s3 ev3
        exact ⟨g3, env3, M3, kk2.trans k3, s3, ev3, h3⟩
  · left
    have e : i = xs.length := by omega
    subst e
    rw [List.drop_eq_nil_of_le (Nat.le_refl _)] at q
    obtain ⟨hchk, q⟩ := q
    exact ⟨(ij g M H kk.kz s hchk).1, r.nx _ _ q g σ H (k1.trans kk) s ev⟩
end
end LW

namespace LW
open PySem L2 PyProof.Rows
abbrev Spec2 := List W → Heap2 → Q2 → (String → Heap2 → Prop) → Prop
def spOf (G : Gm) (n : Nat) (s : Spec2) : Sp := fun vs H Q E => vs.length = n ∧ ∃ g ws M Q0 E0, Sim G g M H ∧ RepL G g.Z H ws vs ∧ s ws M Q0 E0 ∧
  (∀ w M', Q0 w M' → ∀ g' v H', Keep g H g' H' → Sim G g' M' H' → Rep G g'.Z H' w v → Q v H') ∧ (∀ c M', E0 c M' → ∀ g' H', Keep g H g' H' → Sim G g' M' H' → E (.ref (G.cA c)) none H')
@[simp] def bodySpec (N : Nat) (t : TS2) : Spec2 := fun ws M Q E => t { nx := fun _ M' => Q .non M', rt := Q, bk := fun _ _ => False, ct := fun _ _ => False, ex := fun c _ M' => E c M' } (ws.map some ++ List.replicate (N - ws.length) none) M
theorem envR_none {G : Gm} {Z : Addr → Prop} {H : Hp} : ∀ n : Nat, EnvR G Z H (List.replicate n none) (List.replicate n none)
  | 0 => rfl
  | n + 1 => ⟨none, _, rfl, envR_none n⟩
theorem envR_start {G : Gm} {Z : Addr → Prop} {H : Hp} {n : Nat} : ∀ {ws : List W} {vs : List V}, RepL G Z H ws vs → EnvR G Z H (ws.map some ++ List.replicate n none) (vs.map some ++ List.replicate n none)
  | [], _, h => by rw [show _ = _ from h]; exact envR_none n
  | w :: ws, _, ⟨v, r, e, a, b⟩ => by subst e; exact ⟨v, _, rfl, a, envR_start b⟩
theorem RepL.mk {G : Gm} {Z : Addr → Prop} {H : Hp} {w : W} {v : V} {ws : List W} {vs : List V} (a : Rep G Z H w v) (b : RepL G Z H ws vs) : RepL G Z H (w :: ws) (v :: vs) := ⟨v, vs, rfl, a, b⟩
section
variable {P : Program} {w : World} {K : PySem.W.Frag} {mg : Str → Option Value} {base : Heap}
theorem fn_ok {G : Gm} {x qual : Str} {params : Arguments} {body : List Stmt} {scope : Scope} {dvs : List V} {kws : List (Str × V)} {f : Addr} {fd : FuncData} {N ps : List Str} {k : Nat} {t : TS2} (F : FunD K x qual params body scope dvs kws f fd) (S : FnScope N ps scope)
    (h : ∀ (cdv : Value) (A : Around) (outer : List Env) (s : Shared) (H : Hp) (E : XK), Room k (A.deeper (envOfC qual scope s.heap.objs.size f cdv)) →
      SSs G (cxOf (L2.CX P w) P w K mg base N qual scope f cdv A outer s H E) (fun cls d _ H => E cls d H) body t) :
    FnOk P w K mg base (L2.CX P w) (k + 1) f fd ps (spOf G ps.length (bodySpec N.length t)) := by
  refine F.ok S (fun vs H Q E q => q.1) fun cdv A outer s H vs Q E hr hsp => ⟨_, h cdv A outer s H E hr, ?_⟩
  obtain ⟨hl, g, ws, M, Q0, E0, sm, rl, q, kq, ke⟩ := hsp
  refine liftS_mk sm (env := ws.map some ++ List.replicate (N.length - ws.length) none) ?_ q ⟨fun _ M' h g' σ' H' k' s' _ => kq _ M' h g' _ H' k' s' rfl, kq, fun _ _ z => z.elim, fun _ _ z => z.elim, fun c _ M' h g' _ H' k' s' _ => ke c M' h g' H' k' s'⟩
  unfold L2.start
  rw [rl.length]
  exact envR_start rl
/-- a weaker promise -/
theorem FnOk.to {G : Gm} {k n : Nat} {f : Addr} {fd : FuncData} {ps : List Str} {CX : CXT} {s s' : Spec2} (F : FnOk P w K mg base CX k f fd ps (spOf G n s)) (h : ∀ ws M Q E, ws.length = n → s' ws M Q E → s ws M Q E) : FnOk P w K mg base CX k f fd ps (spOf G n s') :=
  F.imp fun vs H Q E ⟨hl, g, ws, M, Q0, E0, sm, rl, q, kq, ke⟩ => ⟨hl, g, ws, M, Q0, E0, sm, rl, h _ _ _ _ (rl.length.symm.trans hl) q, kq, ke⟩
/-- a def that is called by its name x with the written arguments; the defaults behind them; n in all -/
structure CallS (P : Program) (w : World) (K : PySem.W.Frag) (mg : Str → Option Value) (base : Heap) (G : Gm) (x : String) (k n : Nat) (dws : List W) (s : Spec2) : Prop where
  ex : ∃ (f : Addr) (fd : FuncData) (ps : List Str) (dvs : List V) (ds : List Value), FnOk P w K mg base (L2.CX P w) k f fd ps (spOf G n s) ∧ mg (Str.ofString x) = some (.ref f) ∧ PySem.W.keepIn K (.ref f) = true ∧ Binds K fd ps ds ∧ Vals dvs ds ∧
    ∀ Z H, RepL G Z H dws dvs
/-- a method m by its class: tab C its promise (self ahead) -/
structure MethS (P : Program) (w : World) (K : PySem.W.Frag) (mg : Str → Option Value) (base : Heap) (G : Gm) (m : String) (k n : Nat) (dws : List W) (tab : String → Option Spec2) : Prop where
  ex : ∀ C s, tab C = some s → Cls K (G.cA C) ∧ ∃ (f : Addr) (fd : FuncData) (ps : List Str) (dvs : List V) (ds : List Value), Meth K (G.cA C) (Str.ofString m) f ∧ FnOk P w K mg base (L2.CX P w) k f fd ps (spOf G n s) ∧ Binds K fd ps ds ∧ Vals dvs ds ∧
    ∀ Z H, RepL G Z H dws dvs
/-- a class C that is made by its __init__ (self ahead: n in all) -/
structure MakeS (P : Program) (w : World) (K : PySem.W.Frag) (mg : Str → Option Value) (base : Heap) (G : Gm) (C : String) (k n : Nat) (dws : List W) (s : Spec2) : Prop where
  ex : mg (Str.ofString C) = some (.ref (G.cA C)) ∧ ∃ (f : Addr) (fd : FuncData) (ps : List Str) (dvs : List V) (ds : List Value), Mk K (G.cA C) f ∧ FnOk P w K mg base (L2.CX P w) k f fd ps (spOf G n s) ∧ Binds K fd ps ds ∧ Vals dvs ds ∧
    ∀ Z H, RepL G Z H dws dvs
end
section
variable {X : Cx} {G : Gm} {Wx : WX} {k : Nat} {f C : Addr} {fd : FuncData} {ps : List Str} {sp : Sp} {dvs : List V} {ds : List Value} {x : Str} {p pos apos : Pos} {e o : Expr} {es : List Expr} {ta te : T2} {t : TA2}
theorem run_fnD {CX : CXT} {E : XK} {pins : List (Addr × Obj)} {σ : L2.St} {H : Hp} {s : Shared} {Q : VK} {us : List Value} {vs : List V} (F : FnOk X.prog X.w X.K X.mg X.base CX k f fd ps sp) (hr : Room k X.A) (hb : Binds X.K fd ps ds) (hd : Vals dvs ds) (hx : PassesAt CX X σ E)
    (I : Inv X pins σ H s) (r : Vals vs us) (h : sp (vs ++ dvs) H Q E) : wpAny (model X.prog X.w) X.A (call (.ref f) us) (EP X pins σ Q) X.xe s := by
  have r2 : Vals (vs ++ dvs) (us ++ ds) := r.append hd
  have hl : (us ++ ds).length = ps.length := by rw [← r2.length]; exact F.len _ _ _ _ h
  refine wpAny_call (codeAny_mono (F.run X.A X.stack s H ⟨us, []⟩ (us ++ ds) (vs ++ dvs) Q E hr I.env0 (hb s us I.kIn hl) r2 h) fun r s' hq => ?_)
  cases r with
  | error e => exact hx pins H s e s' I hq
  | ok fl =>
    cases fl with
    | ret u => exact I.after hq
    | next => exact False.elim hq
    | brk => exact False.elim hq
    | cont => exact False.elim hq
theorem run_makeD {CX : CXT} {E : XK} {pins : List (Addr × Obj)} {σ : L2.St} {H : Hp} {s : Shared} {Q : VK} {us : List Value} {vs : List V} (M : Mk X.K C f) (F : FnOk X.prog X.w X.K X.mg X.base CX k f fd ps sp) (hr : Room (k + 1) X.A) (hb : Binds X.K fd ps ds) (hd : Vals dvs ds)
    (hx : PassesAt CX X σ E) (I : Inv X pins σ H s) (r : Vals vs us)
    (h : ∀ x dx, H x = none → H dx = none → dx ≠ x → sp (.ref x :: (vs ++ dvs)) (upd (upd H dx (.own x)) x (.ins C dx [])) (fun v H2 => v = .non ∧ Q (.ref x) H2) E) :
    wpAny (model X.prog X.w) X.A (call (.ref C) us) (EP X pins σ Q) X.xe s := by
  have hq := h (s.heap.objs.size + 1) s.heap.objs.size (I.hok.fresh (Nat.le_succ _)) (I.hok.fresh (Nat.le_refl _)) (Nat.ne_of_lt (Nat.lt_succ_self _))
  have I2 := Inv.made (C := C) I
  have r2 : Vals (V.ref (s.heap.objs.size + 1) :: (vs ++ dvs)) (Value.ref (s.heap.objs.size + 1) :: (us ++ ds)) := .cons rfl (r.append hd)
  have hl : (Value.ref (s.heap.objs.size + 1) :: us ++ ds).length = ps.length := by
    have e := r2.length
    rw [F.len _ _ _ _ hq] at e
    exact e.symm
  refine wpAny_call (make_map (f := f) I.kIn M.makes M.init (beq_iff_eq.mp M.fn) (codeAny_mono (F.run _ X.stack _ _ ⟨Value.ref (s.heap.objs.size + 1) :: us, []⟩ (Value.ref (s.heap.objs.size + 1) :: (us ++ ds)) _ _ E (hr.make C us [])
    (I2.env0.make C us []) (hb _ (Value.ref (s.heap.objs.size + 1) :: us) I2.kIn hl) r2 hq) fun r s' hq' => ?_))
  cases r with
  | error e => exact hx pins _ _ e s' I2 hq'
  | ok fl =>
    cases fl with
    | ret u =>
      obtain ⟨v, H', I3, rv, ev, q3⟩ := I2.after hq'
      subst ev
      exact ⟨rv, ⟨V.ref (s.heap.objs.size + 1), H', I3, rfl, q3⟩⟩
    | next => exact False.elim hq'
    | brk => exact False.elim hq'
    | cont => exact False.elim hq'
/-- the callee's promise from the lifted one -/
theorem sp_of {s : Spec2} {dws : List W} {n : Nat} {g : Gh} {env : Env2} {σ : L2.St} {M : Heap2} {H : Hp} {ws : List W} {vs : List V} {Q0 : Q2} {E0 : X2} {Q : VK} (sm : Sim G g M H) (ev : EnvR G g.Z H env σ) (rl : RepL G g.Z H ws vs) (rd : RepL G g.Z H dws dvs) (hn : (vs ++ dvs).length = n)
    (h : s (ws ++ dws) M Q0 (fun c M' => E0 c env M')) (kq : ∀ w M', Q0 w M' → ∀ g' v H', Keep g H g' H' → Sim G g' M' H' → Rep G g'.Z H' w v → Q v H') (x : ExOk G Wx g H E0) :
    spOf G n s (vs ++ dvs) H Q (WE Wx σ) :=
  ⟨hn, g, _, M, Q0, _, sm, rl.append rd, h, kq, fun c M' h' g' H' k' s' => x c env M' h' g' σ H' k' s' (ev.keep k'.kz)⟩
@[simp] def tCall2 (n : Nat) (dws : List W) (s : Spec2) (t : TA2) : T2 := fun env M Q E => t env M (fun ws M1 => (ws ++ dws).length = n ∧ s (ws ++ dws) M1 Q (fun c M' => E c env M')) E
theorem sa_mid {s : Spec2} {n : Nat} {dws : List W} {σ : L2.St} {H : Hp} {Q : VK} (h : liftE G Wx (tCall2 n dws s t) σ H Q) (rd : ∀ Z H, RepL G Z H dws dvs) : liftA G Wx t σ H (fun vs H1 => spOf G n s (vs ++ dvs) H1 Q (WE Wx σ)) := by
  obtain ⟨g, env, M, Q0, E0, sm, ev, tt, kq, x⟩ := h
  refine ⟨g, env, M, _, E0, sm, ev, tt, fun ws M1 h1 g1 vs H1 k1 s1 r1 => ?_, x⟩
  refine sp_of s1 (ev.keep k1.kz) r1 (rd _ _) ?_ h1.2 (fun w M' h2 g' v H' k' s' r' => kq w M' h2 g' v H' (k1.trans k') s' r') (x.keep k1)
  rw [← h1.1, List.length_append, List.length_append, r1.length, (rd g1.Z H1).length]
theorem se_call {x : String} {n : Nat} {s : Spec2} {dws : List W} (c : CallS X.prog X.w X.K X.mg X.base G x k n dws s) (hr : Room k X.A) (hg : Gl X (Str.ofString x)) (tk : Takes X Wx)
    (ha : SA G X Wx (e :: es) t) (hdb : ((Str.ofString x) == ("__debug__" : Str)) = false := by decide) (he : starEach (e :: es) X.env = (false, eval e X.env) :: starEach es X.env := by rfl) (hpl : (backTo pos (starEach es X.env)).any (·.1) = false := by rfl) :
    SE G X Wx (.Call (.Name (Str.ofString x) p) (e :: es) [] pos) (tCall2 n dws s t) := by
  obtain ⟨f, fd, ps, dvs, ds, F, hm, kp, hb, hd, rd⟩ := c.ex
  refine ⟨fun pins s0 σ H Q I h => ?_⟩
  refine wpAny_Call_Name_kw (ld_glob I hg hm ?_ hdb)
  refine PySem.W.callWith_K (h₀ := X.base) I.ok.mod.kin kp (thn (ha.run pos pins s0 σ H _ I (sa_mid h rd)) fun us s1 ⟨vs, H1, I1, r, q⟩ => ⟨I1.kIn, ?_⟩) he hpl
  exact run_fnD F hr hb hd (passAt tk σ) I1 r q
theorem se_call0 {x : String} {n : Nat} {s : Spec2} {dws : List W} (c : CallS X.prog X.w X.K X.mg X.base G x k n dws s) (hr : Room k X.A) (hg : Gl X (Str.ofString x)) (tk : Takes X Wx) (hdb : ((Str.ofString x) == ("__debug__" : Str)) = false := by decide) :
    SE G X Wx (.Call (.Name (Str.ofString x) p) [] [] pos) (tCall2 n dws s tNil2) := by
  obtain ⟨f, fd, ps, dvs, ds, F, hm, kp, hb, hd, rd⟩ := c.ex
  refine ⟨fun pins s0 σ H Q I h => ?_⟩
  refine wpAny_Call_Name_kw (ld_glob I hg hm ?_ hdb)
  obtain ⟨g, env, M, Q0, E0, sm, ev, tt, kq, x⟩ := h
  refine PySem.W.callWith_K0 I.kIn kp (run_fnD (us := []) (vs := []) F hr hb hd (passAt tk σ) I .nil ?_)
  refine sp_of sm ev (ws := []) rfl (rd _ _) ?_ tt.2 kq x
  rw [← tt.1, List.length_append, List.length_append, (rd g.Z H).length]
  rfl

/-- the class of an object and its attributes' names -/
@[simp] def clsOf (M : Heap2) : W → Option (String × List String)
  | .ins C fs => some (C, fs.map (·.1))
  | .ref a => match M a with
    | some (.flat (.ins C fs)) => some (C, fs.map (·.1))
    | some (.box (.obj C fs)) => some (C, fs.map (·.1))
    | _ => none
  | _ => none
theorem RepF.no {Z : Addr → Prop} {H : Hp} {m : String} : ∀ {fs : List (String × W)} {vs : List (Str × V)}, RepF G Z H fs vs → m ∉ fs.map (·.1) → vs.lookup (Str.ofString m) = none
  | [], _, h, _ => by rw [show _ = _ from h]; rfl
  | (n, x) :: r, _, ⟨v, rr, e, a, b⟩, h => by
    subst e
    rw [List.map_cons, List.mem_cons, not_or] at h
    rw [List.lookup_cons]
    have : (Str.ofString m == Str.ofString n) = false := by
      rw [beq_eq_false_iff_ne]
      exact fun z => h.1 (ofString_inj z)
    rw [this]; exact RepF.no b h.2
theorem BoxF.no {Z : Addr → Prop} {H : Hp} {m : String} : ∀ {fs : List (String × BX)} {vs : List (Str × V)} {A : List Addr}, BoxF G Z H fs vs A → m ∉ fs.map (·.1) → vs.lookup (Str.ofString m) = none
  | [], _, _, h, _ => by rw [h.1]; rfl
  | (n, x) :: r, _, _, ⟨v, rr, B, C, e, e2, a, b⟩, h => by
    subst e
    rw [List.map_cons, List.mem_cons, not_or] at h
    rw [List.lookup_cons]
    have : (Str.ofString m == Str.ofString n) = false := by
      rw [beq_eq_false_iff_ne]
      exact fun z => h.1 (ofString_inj z)
    rw [this]; exact BoxF.no b h.2
theorem clsOf_rep {g : Gh} {M : Heap2} {H : Hp} {w : W} {v : V} {C m : String} {ns : List String} (e : clsOf M w = some (C, ns)) (hm : m ∉ ns) (s : Sim G g M H) (r : Rep G g.Z H w v) :
    ∃ p dx vs, v = .ref p ∧ H p = some (.ins (G.cA C) dx vs) ∧ vs.lookup (Str.ofString m) = none := by
  cases w with
  | ins D gs => cases e; obtain ⟨p, dx, vs, e1, z, h, q⟩ := r; exact ⟨p, dx, vs, e1, h, q.no hm⟩
  | ref a =>
    have e' : (match M a with | some (.flat (.ins C fs)) => some (C, fs.map (·.1)) | some (.box (.obj C fs)) => some (C, fs.map (·.1)) | _ => none) = some (C, ns) := e
    split at e'
    · rename_i D gs hc
      cases e'
      obtain ⟨_, dx, vs, h, q⟩ := s.cell a _ hc
      exact ⟨a, dx, vs, r, h, q.no hm⟩
    · rename_i D gs hc
      cases e'
      obtain ⟨p, dx, vs, B, e1, _, h, q⟩ := s.cell a _ hc
      cases e1
      exact ⟨a, dx, vs, r, h, q.no hm⟩
    · cases e'
  | non => cases e
  | bl _ => cases e
  | int _ => cases e
  | str _ => cases e
  | tup _ => cases e
  | lst _ => cases e
  | scr _ => cases e
  | exn _ => cases e
  | ktp _ => cases e
@[simp] def tMeth2 (m : String) (n : Nat) (dws : List W) (tab : String → Option Spec2) (ta : T2) (t : TA2) : T2 := fun env M Q E => ta env M (fun w M1 => match clsOf M1 w with
  | some (C, ns) => m ∉ ns ∧ (match tab C with
    | some s => t env M1 (fun ws M2 => (w :: (ws ++ dws)).length = n ∧ s (w :: (ws ++ dws)) M2 Q (fun c M' => E c env M')) E
    | none => False)
  | none => False) E
theorem se_meth {m : String} {n : Nat} {dws : List W} {tab : String → Option Spec2} {pl : Sem Bool} (c : MethS X.prog X.w X.K X.mg X.base G m k n dws tab) (hr : Room k X.A) (tk : Takes X Wx) (ho : SE G X Wx o te) (ha : SA G X Wx (e :: es) t)
    (hst : starEach (e :: es) X.env = (false, eval e X.env) :: starEach es X.env := by rfl) (hpl : (backTo pos (starEach es X.env)).any (·.1) = false := by rfl)
    (ht : eval (.Call (.Attribute o (Str.ofString m) apos) (e :: es) [] pos) X.env = (do
      let ov ← eval o X.env
      standAt apos.atName
      let (f, first) ← holding [ov] (getMethod ov (Str.ofString m) pl)
      callWith pos f first (backTo pos (starEach (e :: es) X.env)) (backToKw pos (keywordEach [] X.env))) := by rfl) :
    SE G X Wx (.Call (.Attribute o (Str.ofString m) apos) (e :: es) [] pos) (tMeth2 m n dws tab te t) := by
  refine ⟨fun pins s0 σ H Q I h => ?_⟩
  obtain ⟨g, env, M, Q0, E0, sm, ev, tt, kq, x⟩ := h
  refine methcall_of (pl := pl) ho I ?_ ht
  refine ⟨g, env, M, _, E0, sm, ev, tt, fun w M1 h1 g1 v H1 k1 s1 r1 => ?_, x⟩
  have h1' : (match clsOf M1 w with
    | some (C, ns) => m ∉ ns ∧ (match tab C with
      | some s => t env M1 (fun ws M2 => (w :: (ws ++ dws)).length = n ∧ s (w :: (ws ++ dws)) M2 Q0 (fun c M' => E0 c env M')) E0
      | none => False)
    | none => False) := h1
  split at h1'
  · rename_i C ns hc
    obtain ⟨hm, h2⟩ := h1'
    split at h2
    · rename_i s hs
      obtain ⟨p, dx, vs, rfl, hp, hl⟩ := clsOf_rep hc hm s1 r1
      obtain ⟨cl, f, fd, ps, dvs, ds, mm, F, hb, hd, rd⟩ := c.ex C s hs
      refine ⟨p, _, dx, vs, f, rfl, hp, cl, mm, hl, fun s2 I2 => ?_⟩
      have z : liftA G Wx t σ H1 (fun vs H2 => spOf G n s (.ref p :: (vs ++ dvs)) H2 Q (WE Wx σ)) := by
        refine ⟨g1, env, M1, _, E0, s1, ev.keep k1.kz, h2, fun ws M2 h2 g2 us H2 k2 s2 r2 => ?_, x.keep k1⟩
        refine ⟨?_, g2, _, M2, Q0, _, s2, RepL.mk (r1.keep k2.kz) (r2.append (rd _ _)), h2.2, fun w M' h3 g' v H' k' s' r' => kq w M' h3 g' v H' ((k1.trans k2).trans k') s' r',
          fun c M' h' g' H' k' s' => x c env M' h' g' σ H' ((k1.trans k2).trans k') s' (ev.keep ((k1.trans k2).trans k').kz)⟩
        rw [← h2.1, List.length_cons, List.length_cons, List.length_append, List.length_append, r2.length, (rd g2.Z H2).length]
      refine PySem.W.callWith_K (first := [.ref p]) (h₀ := X.base) I.ok.mod.kin mm.kp (thn (ha.run pos pins s2 σ H1 _ I2 z) fun us s3 ⟨vs3, H3, I3, r3, q3⟩ => ⟨I3.kIn, ?_⟩) hst hpl
      exact run_fnD (us := .ref p :: us) (vs := .ref p :: vs3) F hr hb hd (passAt tk σ) I3 (.cons rfl r3) q3
    · exact h2.elim
  · exact h1'.elim
theorem se_meth0 {m : String} {n : Nat} {dws : List W} {tab : String → Option Spec2} {pl : Sem Bool} (c : MethS X.prog X.w X.K X.mg X.base G m k n dws tab) (hr : Room k X.A) (tk : Takes X Wx) (ho : SE G X Wx o te)
    (ht : eval (.Call (.Attribute o (Str.ofString m) apos) [] [] pos) X.env = (do
      let ov ← eval o X.env
      standAt apos.atName
      let (f, first) ← holding [ov] (getMethod ov (Str.ofString m) pl)
      callWith pos f first (backTo pos (starEach [] X.env)) (backToKw pos (keywordEach [] X.env))) := by rfl) :
    SE G X Wx (.Call (.Attribute o (Str.ofString m) apos) [] [] pos) (tMeth2 m n dws tab te tNil2) := by
  refine ⟨fun pins s0 σ H Q I h => ?_⟩
  obtain ⟨g, env, M, Q0, E0, sm, ev, tt, kq, x⟩ := h
  refine methcall_of (pl := pl) ho I ?_ ht
  refine ⟨g, env, M, _, E0, sm, ev, tt, fun w M1 h1 g1 v H1 k1 s1 r1 => ?_, x⟩
  have h1' : (match clsOf M1 w with
    | some (C, ns) => m ∉ ns ∧ (match tab C with
      | some s => tNil2 env M1 (fun ws M2 => (w :: (ws ++ dws)).length = n ∧ s (w :: (ws ++ dws)) M2 Q0 (fun c M' => E0 c env M')) E0
      | none => False)
    | none => False) := h1
  split at h1'
  · rename_i C ns hc
    obtain ⟨hm, h2⟩ := h1'
    split at h2
    · rename_i s hs
      obtain ⟨p, dx, vs, rfl, hp, hl⟩ := clsOf_rep hc hm s1 r1
      obtain ⟨cl, f, fd, ps, dvs, ds, mm, F, hb, hd, rd⟩ := c.ex C s hs
      refine ⟨p, _, dx, vs, f, rfl, hp, cl, mm, hl, fun s2 I2 => ?_⟩
      refine PySem.W.callWith_K0 (first := [.ref p]) I2.kIn mm.kp (run_fnD (us := [.ref p]) (vs := [.ref p]) F hr hb hd (passAt tk σ) I2 (.cons rfl .nil) ?_)
      refine ⟨?_, g1, _, M1, Q0, _, s1, RepL.mk r1 (rd _ _), h2.2, fun w M' h3 g' v H' k' s' r' => kq w M' h3 g' v H' (k1.trans k') s' r',
          fun c M' h' g' H' k' s' => x c env M' h' g' σ H' (k1.trans k') s' (ev.keep (k1.trans k').kz)⟩
      rw [← h2.1]
      show (V.ref p :: dvs).length = (w :: dws).length
      rw [List.length_cons, List.length_cons, (rd g1.Z H1).length]
    · exact h2.elim
  · exact h1'.elim

@[simp] def tMake2 (C : String) (n : Nat) (dws : List W) (s : Spec2) (t : TA2) : T2 := fun env M Q E => t env M (fun ws M1 => ∀ a, M1 a = none → (W.ref a :: (ws ++ dws)).length = n ∧
  s (.ref a :: (ws ++ dws)) (upd2 M1 a (some (.flat (.ins C [])))) (fun w M2 => w = .non ∧ Q (.ref a) M2) (fun c M' => E c env M')) E
theorem make_mid {C : String} {n : Nat} {s : Spec2} {dws ws : List W} {vs : List V} {g : Gh} {σ : L2.St} {env : Env2} {M : Heap2} {H : Hp} {Q : VK} {Q0 : Q2} {E0 : X2} (sm : Sim G g M H) (ev : EnvR G g.Z H env σ) (rl : RepL G g.Z H ws vs) (rd : ∀ Z H, RepL G Z H dws dvs)
    (h : ∀ a, M a = none → (W.ref a :: (ws ++ dws)).length = n ∧ s (.ref a :: (ws ++ dws)) (upd2 M a (some (.flat (.ins C [])))) (fun w M2 => w = .non ∧ Q0 (.ref a) M2) (fun c M' => E0 c env M'))
    (kq : ∀ w M', Q0 w M' → ∀ g' v H', Keep g H g' H' → Sim G g' M' H' → Rep G g'.Z H' w v → Q v H') (x : ExOk G Wx g H E0) (a dx : Addr) (hx : H a = none) (hdx : H dx = none) (ne : dx ≠ a) :
    spOf G n s (.ref a :: (vs ++ dvs)) (upd (upd H dx (.own a)) a (.ins (G.cA C) dx [])) (fun v H2 => v = .non ∧ Q (.ref a) H2) (WE Wx σ) := by
  have s1 : Sim G g M (upd H dx (.own a)) := sm.new hdx
  have k1 := Keep.new (o := .own a) hdx sm
  have hx1 : upd H dx (.own a) a = none := by rw [upd_ne (Ne.symm ne)]; exact hx
  obtain ⟨s2, k2⟩ := s1.alloc (m := .ins C []) (o := .ins (G.cA C) dx []) hx1 ⟨dx, [], upd_same, rfl⟩
  obtain ⟨hl, q⟩ := h a (sm.free hx).1
  have k12 := k1.trans k2
  refine ⟨?_, g.add a, _, _, _, _, s2, RepL.mk (show Rep G _ _ (.ref a) (.ref a) from rfl) ((RepL.keep k12.kz rl).append (rd _ _)), q, fun w M' h3 g' v H' k' s' r' => ?_, fun c M' h' g' H' k' s' => ?_⟩
  · rw [← hl, List.length_cons, List.length_cons, List.length_append, List.length_append, rl.length, (rd g.Z H).length]
  · obtain ⟨rfl, h3⟩ := h3
    exact ⟨r', kq _ _ h3 g' _ H' (k12.trans k') s' rfl⟩
  · exact x c env M' h' g' σ H' (k12.trans k') s' (ev.keep (k12.trans k').kz)
theorem se_make {C : String} {n : Nat} {s : Spec2} {dws : List W} (c : MakeS X.prog X.w X.K X.mg X.base G C k n dws s) (hr : Room (k + 1) X.A) (hg : Gl X (Str.ofString C)) (tk : Takes X Wx)
    (ha : SA G X Wx (e :: es) t) (hdb : ((Str.ofString C) == ("__debug__" : Str)) = false := by decide) (he : starEach (e :: es) X.env = (false, eval e X.env) :: starEach es X.env := by rfl) (hpl : (backTo pos (starEach es X.env)).any (·.1) = false := by rfl) :
    SE G X Wx (.Call (.Name (Str.ofString C) p) (e :: es) [] pos) (tMake2 C n dws s t) := by
  obtain ⟨hm, f, fd, ps, dvs, ds, mk, F, hb, hd, rd⟩ := c.ex
  refine ⟨fun pins s0 σ H Q I h => ?_⟩
  obtain ⟨g, env, M, Q0, E0, sm, ev, tt, kq, x⟩ := h
  refine wpAny_Call_Name_kw (ld_glob I hg hm ?_ hdb)
  have z : liftA G Wx t σ H (fun vs H1 => ∀ a dx, H1 a = none → H1 dx = none → dx ≠ a → spOf G n s (.ref a :: (vs ++ dvs)) (upd (upd H1 dx (.own a)) a (.ins (G.cA C) dx [])) (fun v H2 => v = .non ∧ Q (.ref a) H2) (WE Wx σ)) :=
    ⟨g, env, M, _, E0, sm, ev, tt, fun ws M1 h1 g1 vs H1 k1 s1 r1 => make_mid s1 (ev.keep k1.kz) r1 rd h1 (fun w M' h2 g' v H' k' s' r' => kq w M' h2 g' v H' (k1.trans k') s' r') (x.keep k1), x⟩
  refine PySem.W.callWith_K (h₀ := X.base) I.ok.mod.kin mk.kp (thn (ha.run pos pins s0 σ H _ I z) fun us s1 ⟨vs, H1, I1, r, q⟩ => ⟨I1.kIn, ?_⟩) he hpl
  exact run_makeD mk F hr hb hd (passAt tk σ) I1 r q
theorem se_make0 {C : String} {n : Nat} {s : Spec2} {dws : List W} (c : MakeS X.prog X.w X.K X.mg X.base G C k n dws s) (hr : Room (k + 1) X.A) (hg : Gl X (Str.ofString C)) (tk : Takes X Wx) (hdb : ((Str.ofString C) == ("__debug__" : Str)) = false := by decide) :
    SE G X Wx (.Call (.Name (Str.ofString C) p) [] [] pos) (tMake2 C n dws s tNil2) := by
  obtain ⟨hm, f, fd, ps, dvs, ds, mk, F, hb, hd, rd⟩ := c.ex
  refine ⟨fun pins s0 σ H Q I h => ?_⟩
  obtain ⟨g, env, M, Q0, E0, sm, ev, tt, kq, x⟩ := h
  refine wpAny_Call_Name_kw (ld_glob I hg hm ?_ hdb)
  exact PySem.W.callWith_K0 I.kIn mk.kp (run_makeD (us := []) (vs := []) mk F hr hb hd (passAt tk σ) I .nil (make_mid (ws := []) sm ev rfl rd tt kq x))
/-- an instance that never changes from now on -/
@[simp] def tFrzI (te : T2) : T2 := fun env M Q E => te env M (fun w M1 => match w with
  | .ref p => match M1 p with
    | some (.flat (.ins C fs)) => Q (.ins C fs) (upd2 M1 p none)
    | _ => False
  | _ => False) E
theorem se_frzI (h : SE G X Wx e te) : SE G X Wx e (tFrzI te) := by
  refine pe_imp h ?_
  rintro σ H Q ⟨g, env, M, Q0, E0, s, ev, t, k, x⟩
  refine ⟨g, env, M, _, E0, s, ev, t, fun w M1 h1 g1 v H1 k1 s1 r1 => ?_, x⟩
  cases w <;> try exact h1.elim
  rename_i p
  have h1' : (match M1 p with | some (.flat (.ins C fs)) => Q0 (.ins C fs) (upd2 M1 p none) | _ => False) := h1
  split at h1'
  · rename_i C fs hm
    obtain ⟨sf, kf, r⟩ := s1.freeze hm
    obtain ⟨dx, vs, hv, rv⟩ := r
    exact k _ _ h1' _ _ _ (k1.trans kf) sf ⟨p, dx, vs, r1, .inr rfl, hv, rv⟩
  · exact h1'.elim
end
end LW

namespace LW
open PySem L2 PyProof.Rows
section
variable {X : Cx} {G : Gm} {Wx : WX} {C : Addr} {x : Str} {p pos apos : Pos} {e o a b : Expr} {es : List Expr} {ta tb te : T2} {t : TA2}
/-- the class C may be raised -/
structure ExcS (X : Cx) (G : Gm) (C : String) : Prop where
  q : PySem.W.excIn X.K (G.cA C) He.veBase "ValueError.__new__" = true
  gC : X.mg (Str.ofString C) = some (.ref (G.cA C))
  kC : PySem.W.keepIn X.K (.ref (G.cA C)) = true
  bm : PySem.W.subIn X.K (.ref (G.cA C)) (.type "BaseException") = some true
  ty : PySem.W.typeIn X.K (.ref (G.cA C)) = some (.type "type")
@[simp] def tRaise2 (C : String) : TS2 := fun D env M => D.ex C env M
theorem ss_raise {C : String} {m : Str} {j : Nat} {p2 : Pos} (c : ExcS X G C) (hc : X.calm = true) (tk : Takes X Wx) (hg : Gl X (Str.ofString C)) (hdb : (Str.ofString C == ("__debug__" : Str)) = false := by decide) :
    SS G X Wx (.Raise (some (.Call (.Name (Str.ofString C) p) [.Constant (.str m) j p2] [] apos)) none pos) (tRaise2 C) := by
  refine ps_imp (ps_raise hc tk (pmk_own PySem.F.excBase_ValueError c.q c.gC c.kC (raises_own c.bm c.ty) hg hdb)) ?_
  rintro D σ H h
  obtain ⟨g, env, M, D0, s, ev, t, r⟩ := liftS_iff.mp h
  exact r.ex _ _ _ t g σ H (Keep.refl g H) s ev

@[simp] def tCB2 (r : List W → Heap2 → Q2 → Prop) (t : TA2) : T2 := fun env M Q E => t env M (fun ws M1 => r ws M1 Q) E
theorem callR_imp {f : Value} {r r' : List V → Hp → VK → Prop} (h : CallR X f r) (i : ∀ xs H Q, r' xs H Q → r xs H Q) : CallR X f r' := fun pins s σ H xs us Q I rx q => h pins s σ H xs us Q I rx (i _ _ _ q)
theorem callR_or {f : Value} {r1 r2 : List V → Hp → VK → Prop} (h1 : CallR X f r1) (h2 : CallR X f r2) : CallR X f (fun xs H Q => r1 xs H Q ∨ r2 xs H Q) := fun pins s σ H xs us Q I rx q => q.elim (h1 pins s σ H xs us Q I rx) (h2 pins s σ H xs us Q I rx)
theorem cb2 {r : List W → Heap2 → Q2 → Prop} : ∀ σ H Q, liftE G Wx (tCB2 r t) σ H Q → tCB (liftRL G r) (liftA G Wx t) σ H Q := by
  rintro σ H Q ⟨g, env, M, Q0, E0, s, ev, t, k, x⟩
  refine ⟨g, env, M, _, E0, s, ev, t, fun ws M1 h g1 vs H1 k1 s1 r1 => ?_, x⟩
  exact ⟨g1, M1, ws, Q0, s1, r1, h, fun w M' h3 g' v H' k3 s3 r3 => k w M' h3 g' v H' (k1.trans k3) s3 r3⟩
theorem se_callB {id : String} {r : List W → Heap2 → Q2 → Prop} (hc : CallR X (.builtin id) (liftRL G r)) (hg : Gl X x) (hm : X.mg x = none) (hv : bootBuiltins x = some (.builtin id)) (ha : SA G X Wx (e :: es) t) (hn : x ≠ "__name__" := by decide) (hdb : (x == ("__debug__" : Str)) = false := by decide)
    (he : starEach (e :: es) X.env = (false, eval e X.env) :: starEach es X.env := by rfl) (hpl : (backTo pos (starEach es X.env)).any (·.1) = false := by rfl) : SE G X Wx (.Call (.Name x p) (e :: es) [] pos) (tCB2 r t) :=
  pe_imp (pe_callB hc hg hm hv ha hn hdb he hpl) cb2
theorem se_callTy {T : String} {r : List W → Heap2 → Q2 → Prop} (hc : CallR X (.type T) (liftRL G r)) (hg : Gl X x) (hm : X.mg x = none) (hv : bootBuiltins x = some (.type T)) (ha : SA G X Wx (e :: es) t) (hn : x ≠ "__name__" := by decide) (hdb : (x == ("__debug__" : Str)) = false := by decide)
    (he : starEach (e :: es) X.env = (false, eval e X.env) :: starEach es X.env := by rfl) (hpl : (backTo pos (starEach es X.env)).any (·.1) = false := by rfl) : SE G X Wx (.Call (.Name x p) (e :: es) [] pos) (tCB2 r t) :=
  pe_imp (pe_callTy hc hg hm hv ha hn hdb he hpl) cb2

/-- len: of a list, a tuple, a text, a dict -/
@[simp] def dicOf (M : Heap2) : W → Option (List (W × W))
  | .ref a => match M a with
    | some (.flat (.dic kvs)) => some kvs
    | _ => none
  | _ => none
@[simp] def rLen2 : List W → Heap2 → Q2 → Prop := fun ws M Q => match ws with
  | [.str s] => s.length ≤ 10000000 ∧ Q (.int s.length) M
  | [w] => match seqOf M w with
    | some xs => Q (.int xs.length) M
    | none => False
  | _ => False
theorem call_rLen (hK : X.K = G.K) : CallR X (.builtin "len") (liftRL G rLen2) := by
  refine callR_imp (callR_or call_len_seq call_len_str) ?_
  rintro xs H Q ⟨g, M, ws, Q0, s, rl, q, k⟩
  match ws, rl with
  | [], _ => exact q.elim
  | a :: b :: r, _ => cases a <;> exact q.elim
  | [w], ⟨v, r, e1, a1, e2⟩ =>
    rw [show r = [] from e2] at e1
    subst e1
    have gen : ∀ xs, listOf M w = some xs → Q0 (.int xs.length) M → (∃ p ys, [v] = [V.ref p] ∧ (SqL X.K H p ys ∨ SqT X.K H p ys) ∧ Q (.int ys.length) H) := fun xs e q => by
      obtain ⟨p, vs, rfl, h1, r1⟩ := listOf_rep e s a1
      refine ⟨p, vs, rfl, .inl (hK ▸ h1), ?_⟩
      rw [r1.length]
      exact k _ _ q g _ H (Keep.refl g H) s rfl
    cases w with
    | str t =>
      right
      have q' : t.length ≤ 10000000 ∧ Q0 (.int t.length) M := q
      refine ⟨Str.ofString t, by rw [show v = _ from a1], by rw [ofString_len]; exact big_size q'.1, ?_⟩
      rw [ofString_len]
      exact k _ _ q'.2 g _ H (Keep.refl g H) s rfl
    | tup xs =>
      left
      have q' : Q0 (.int xs.length) M := q
      obtain ⟨p, vs, rfl, h1, r1⟩ := a1
      refine ⟨p, vs, rfl, .inr (SqT.of h1), ?_⟩
      rw [r1.length]
      exact k _ _ q' g _ H (Keep.refl g H) s rfl
    | lst xs => exact .inl (gen xs rfl q)
    | scr xs => exact .inl (gen xs rfl q)
    | ref a =>
      left
      have q' : (match listOf M (.ref a) with | some xs => Q0 (.int xs.length) M | none => False) := q
      split at q'
      · rename_i xs e; exact gen xs e q'
      · exact q'.elim
    | non => exact q.elim
    | bl _ => exact q.elim
    | int _ => exact q.elim
    | ins _ _ => exact q.elim
    | exn _ => exact q.elim
    | ktp _ => exact q.elim
theorem se_len (hg : Gl X "len") (hm : X.mg "len" = none) (ha : SA G X Wx (e :: es) t) (hK : X.K = G.K := by rfl) (he : starEach (e :: es) X.env = (false, eval e X.env) :: starEach es X.env := by rfl) (hpl : (backTo pos (starEach es X.env)).any (·.1) = false := by rfl) :
    SE G X Wx (.Call (.Name "len" p) (e :: es) [] pos) (tCB2 rLen2 t) := se_callB (call_rLen hK) hg hm PySem.boot_len ha (by decide) (by decide) he hpl

@[simp] def tyOf (M : Heap2) : W → Option String
  | .non => some "NoneType"
  | .bl _ => some "bool"
  | .int _ => some "int"
  | .str _ => some "str"
  | .tup _ => some "tuple"
  | .lst _ => some "list"
  | .scr _ => some "list"
  | .ref a => match M a with
    | some (.flat (.lst _)) => some "list"
    | some (.flat (.dic _)) => some "dict"
    | _ => none
  | _ => none
@[simp] def isB (a b : String) : Bool := decide (a = b) || (decide (a = "bool") && decide (b = "int"))
theorem kitB_tab : ∀ a ∈ ["NoneType", "bool", "int", "str", "tuple", "list", "dict"], ∀ b ∈ ["int", "bool", "str", "list", "tuple"], kitB a b = some (isB a b) := by decide +kernel
theorem tyOf_in {M : Heap2} {w : W} {a : String} (h : tyOf M w = some a) : a ∈ ["NoneType", "bool", "int", "str", "tuple", "list", "dict"] := by
  cases w with
  | ref b =>
    have h' : (match M b with | some (.flat (.lst _)) => some "list" | some (.flat (.dic _)) => some "dict" | _ => none) = some a := h
    split at h' <;> cases h' <;> simp
  | non => cases h; simp
  | bl _ => cases h; simp
  | int _ => cases h; simp
  | str _ => cases h; simp
  | tup _ => cases h; simp
  | lst _ => cases h; simp
  | scr _ => cases h; simp
  | ins _ _ => cases h
  | exn _ => cases h
  | ktp _ => cases h
theorem sqT_ty {K : PySem.W.Frag} {H : Hp} {p : Addr} {vs : List V} (h : SqT K H p vs) : TyX K H (.ref p) (.type "tuple") := by
  rcases h with (h | ⟨o, h⟩) | ⟨o, its, n, h1, h2, _⟩
  · exact .base (.tup h)
  · exact .fTuple h
  · exact .kTuple h1 h2
theorem tyOf_rep {g : Gh} {M : Heap2} {H : Hp} {w : W} {v : V} {a : String} (h : tyOf M w = some a) (s : Sim G g M H) (r : Rep G g.Z H w v) : TyX G.K H v (.type a) := by
  cases w with
  | ref b =>
    rw [show v = _ from r]
    have h' : (match M b with | some (.flat (.lst _)) => some "list" | some (.flat (.dic _)) => some "dict" | _ => none) = some a := h
    split at h'
    · rename_i xs hm
      cases h'
      obtain ⟨_, vs, h1, _⟩ := s.cell b _ hm
      exact .base (.lst h1)
    · rename_i kvs hm
      cases h'
      obtain ⟨_, q⟩ := s.cell b _ hm
      rcases q with ⟨vs, h1, _⟩ | ⟨vs, h1, _⟩
      · exact .base (.dK h1)
      · exact .base (.dT h1)
    · cases h'
  | non => cases h; rw [show v = _ from r]; exact .base .non
  | bl _ => cases h; rw [show v = _ from r]; exact .base (.bl _)
  | int _ => cases h; rw [show v = _ from r]; exact .base (.int _)
  | str _ => cases h; rw [show v = _ from r]; exact .base (.str _)
  | tup _ => cases h; obtain ⟨p, vs, rfl, h1, _⟩ := r; exact sqT_ty (SqT.of h1)
  | lst _ => cases h; obtain ⟨p, vs, rfl, _, h1, _⟩ := r; exact .base (.lst h1)
  | scr _ =>
    cases h
    obtain ⟨p, vs, rfl, h1, _⟩ := r
    rcases h1 with ⟨o, h1⟩ | ⟨o, its, n, h1, h2, _⟩
    · exact .base (.frz h1)
    · exact .kList h1 h2
  | ins _ _ => cases h
  | exn _ => cases h
  | ktp _ => cases h
@[simp] def tIsi2 (b : String) (te : T2) : T2 := fun env M Q E => te env M (fun w M1 => match tyOf M1 w with
  | some a => Q (.bl (isB a b)) M1
  | none => False) E
theorem se_isi {b : String} (hg : Gl X "isinstance") (hm : X.mg "isinstance" = none) (hgb : Gl X (Str.ofString b)) (hmb : X.mg (Str.ofString b) = none) (hv : bootBuiltins (Str.ofString b) = some (.type b)) (hb : b ∈ ["int", "bool", "str", "list", "tuple"]) (he : SE G X Wx e te)
    {p2 : Pos} (hK : X.K = G.K := by rfl) (hn : (Str.ofString b) ≠ "__name__" := by decide) (hdb : ((Str.ofString b) == ("__debug__" : Str)) = false := by decide)
    (hst : starEach [e, .Name (Str.ofString b) p2] X.env = (false, eval e X.env) :: starEach [.Name (Str.ofString b) p2] X.env := by rfl) (hst2 : starEach [.Name (Str.ofString b) p2] X.env = (false, eval (.Name (Str.ofString b) p2) X.env) :: starEach [] X.env := by rfl)
    (hpl : (backTo pos (starEach [.Name (Str.ofString b) p2] X.env)).any (·.1) = false := by rfl) :
    SE G X Wx (.Call (.Name "isinstance" p) [e, .Name (Str.ofString b) p2] [] pos) (tIsi2 b te) := by
  refine pe_imp (pe_callB call_isi hg hm (by decide +kernel) (pa_cons he (pa_cons (pe_bltn (v := .ty b) hgb hmb hv rfl hn hdb) pa_nil hst2) hst) (by decide) (by decide) hst hpl) ?_
  rintro σ H Q ⟨g, env, M, Q0, E0, s, ev, t, k, x⟩
  refine ⟨g, env, M, _, E0, s, ev, t, fun w M1 h1 g1 v H1 k1 s1 r1 => ?_, x⟩
  have h1' : (match tyOf M1 w with | some a => Q0 (.bl (isB a b)) M1 | none => False) := h1
  split at h1'
  · rename_i a ha
    refine ⟨v, .ty b, .type a, .type b, isB a b, rfl, .ty b, hK ▸ tyOf_rep ha s1 r1, kit_ty (kitB_tab a (tyOf_in ha) b hb), ?_⟩
    exact k _ _ h1' g1 _ H1 k1 s1 rfl
  · exact h1'.elim

theorem itR_list {g0 : Gh} {H0 : Hp} {a : Addr} {w : W} {xs : List W} (r0 : Rep G g0.Z H0 w (.ref a)) (hK : X.K = G.K) : ItR G (Itl X.K a) g0 H0 xs (fun M => listOf M w = some xs) := by
  intro g M H k s hc
  obtain ⟨p, vs, e1, h1, r1⟩ := listOf_rep hc s (r0.keep k)
  cases e1
  rw [hK]
  refine ⟨⟨vs, h1, by rw [r1.length]; exact Nat.le_refl _⟩, fun i x hx => ?_⟩
  obtain ⟨v, hv, rv⟩ := r1.get hx
  refine ⟨⟨vs, v, h1, hv⟩, fun u H' y => ?_⟩
  obtain ⟨rfl, y⟩ := y
  have e : vs[i]? = some u := y vs h1
  rw [hv] at e
  cases e
  exact ⟨g, Keep.refl _ _, s, rv⟩
def iList2 (tl : T2) : TI2 := fun env M R E => tl env M (fun w M1 => match listOf M1 w with
  | some xs => R xs (fun M' => listOf M' w = some xs) M1
  | none => False) E
theorem si_list {tg : Expr} (hl : SE G X Wx e te) (hK : X.K = G.K := by rfl) : SI G X Wx tg e (iList2 te) := by
  refine ⟨fun pins s0 σ H R I h => (pi_list (tg := tg) hl).run pins s0 σ H R I ?_⟩
  obtain ⟨g, env, M, Q0, E0, s, ev, t, k, x⟩ := h
  refine ⟨g, env, M, _, E0, s, ev, t, fun w M1 h1 g1 v H1 k1 s1 r1 => ?_, x⟩
  have h1' : (match listOf M1 w with | some xs => Q0 xs (fun M' => listOf M' w = some xs) M1 | none => False) := h1
  split at h1'
  · rename_i xs hx
    obtain ⟨p, vs, rfl, hp, rl⟩ := listOf_rep hx s1 r1
    exact ⟨p, rfl, ⟨vs, hK ▸ hp⟩, k _ _ _ h1' g1 _ H1 k1 s1 (itR_list r1 hK)⟩
  · exact h1'.elim
def iTup2 (tl : T2) : TI2 := fun env M R E => tl env M (fun w M1 => match w with
  | .tup xs => R xs (fun _ => True) M1
  | _ => False) E
theorem si_tup {tg : Expr} (hl : SE G X Wx e te) (hK : X.K = G.K := by rfl) : SI G X Wx tg e (iTup2 te) := by
  refine ⟨fun pins s0 σ H R I h => (pi_tup (tg := tg) hl).run pins s0 σ H R I ?_⟩
  obtain ⟨g, env, M, Q0, E0, s, ev, t, k, x⟩ := h
  refine ⟨g, env, M, _, E0, s, ev, t, fun w M1 h1 g1 v H1 k1 s1 r1 => ?_, x⟩
  cases w <;> try exact h1.elim
  rename_i xs
  obtain ⟨p, vs, rfl, hp, rl⟩ := r1
  refine ⟨p, rfl, ⟨vs, SqT.of hp⟩, k _ _ _ h1 g1 _ H1 k1 s1 ?_⟩
  intro g2 M2 H2 k2 s2 _
  have hp2 : SqT X.K H2 p vs := SqT.of (k2.tups _ _ hp)
  have rl2 := rl.keep k2
  refine ⟨⟨vs, hp2, by rw [rl.length]; exact Nat.le_refl _⟩, fun i x hx => ?_⟩
  obtain ⟨v, hv, rv⟩ := rl2.get hx
  refine ⟨⟨vs, v, hp2, hv⟩, fun u H' y => ?_⟩
  obtain ⟨rfl, y⟩ := y
  have e : vs[i]? = some u := y vs hp2
  rw [hv] at e
  cases e
  exact ⟨g2, Keep.refl _ _, s2, rv⟩
/-- the numbers lo, lo + 1, .. (n of them) -/
def intsW (lo : Int) : Nat → List W
  | 0 => []
  | n + 1 => .int lo :: intsW (lo + 1) n
theorem intsW_length (n : Nat) : ∀ lo, (intsW lo n).length = n := by
  induction n with
  | zero => intro _; rfl
  | succ n ih => intro lo; show (intsW (lo + 1) n).length + 1 = n + 1; rw [ih]
theorem intsW_get : ∀ (n : Nat) (lo : Int) (i : Nat), i < n → (intsW lo n)[i]? = some (.int (lo + i))
  | n + 1, lo, 0, _ => by
    show some (W.int lo) = some (.int (lo + 0))
    rw [Int.add_zero]
  | n + 1, lo, i + 1, h => by
    show (intsW (lo + 1) n)[i]? = _
    rw [intsW_get n (lo + 1) i (by omega)]
    congr 2
    omega
theorem itR_range {g0 : Gh} {H0 : Hp} {lo : Int} {n : Nat} : ItR G (Itr lo n) g0 H0 (intsW lo n) (fun _ => True) := by
  intro g M H k s hc
  refine ⟨by show n ≤ (intsW lo n).length; rw [intsW_length]; exact Nat.le_refl _, fun i x hx => ?_⟩
  have hi : i < n := by
    have := (List.getElem?_eq_some_iff.mp hx).1
    rw [intsW_length] at this
    exact this
  refine ⟨hi, fun v H' y => ?_⟩
  obtain ⟨rfl, rfl⟩ := y
  rw [intsW_get n lo i hi] at hx
  cases hx
  exact ⟨g, Keep.refl _ _, s, rfl⟩
def iRng2_1 (t : TA2) : TI2 := fun env M R E => t env M (fun ws M1 => match ws with
  | [.int j] => (-1000000000 ≤ j ∧ j ≤ 1000000000) ∧ R (intsW 0 j.toNat) (fun _ => True) M1
  | _ => False) E
def iRng2_2 (t : TA2) : TI2 := fun env M R E => t env M (fun ws M1 => match ws with
  | [.int i, .int j] => (-1000000000 ≤ i ∧ i ≤ 1000000000 ∧ -1000000000 ≤ j ∧ j ≤ 1000000000) ∧ R (intsW i (j - i).toNat) (fun _ => True) M1
  | _ => False) E
theorem si_range1 {tg : Expr} (hg : Gl X "range") (hm : X.mg "range" = none) (ha : SA G X Wx [a] t) (hs : starEach [a] X.env = [(false, eval a X.env)] := by rfl) : SI G X Wx tg (.Call (.Name "range" p) [a] [] pos) (iRng2_1 t) := by
  refine ⟨fun pins s0 σ H R I h => (pi_range1 (tg := tg) hg hm ha hs).run pins s0 σ H R I ?_⟩
  obtain ⟨g, env, M, Q0, E0, s, ev, t, k, x⟩ := h
  refine ⟨g, env, M, _, E0, s, ev, t, fun ws M1 h1 g1 vs H1 k1 s1 r1 => ?_, x⟩
  split at h1
  · rename_i j
    obtain ⟨v, r, rfl, a1, b1⟩ := r1
    rw [show r = [] from b1, show v = _ from a1]
    exact ⟨j, rfl, by omega, by omega, k _ _ _ h1.2 g1 _ H1 k1 s1 itR_range⟩
  · exact h1.elim
theorem si_range2 {tg : Expr} (hg : Gl X "range") (hm : X.mg "range" = none) (ha : SA G X Wx [a, b] t) (hs : starEach [a, b] X.env = [(false, eval a X.env), (false, eval b X.env)] := by rfl) (hs2 : starEach [b] X.env = [(false, eval b X.env)] := by rfl) : SI G X Wx tg (.Call (.Name "range" p) [a, b] [] pos) (iRng2_2 t) := by
  refine ⟨fun pins s0 σ H R I h => (pi_range2 (tg := tg) hg hm ha hs hs2).run pins s0 σ H R I ?_⟩
  obtain ⟨g, env, M, Q0, E0, s, ev, t, k, x⟩ := h
  refine ⟨g, env, M, _, E0, s, ev, t, fun ws M1 h1 g1 vs H1 k1 s1 r1 => ?_, x⟩
  split at h1
  · rename_i i j
    obtain ⟨v, r, rfl, a1, u, r2, rfl, a2, b2⟩ := r1
    rw [show r2 = [] from b2, show v = _ from a1, show u = _ from a2]
    exact ⟨i, j, rfl, ⟨by omega, by omega, by omega, by omega⟩, k _ _ _ h1.2 g1 _ H1 k1 s1 itR_range⟩
  · exact h1.elim
end
end LW

namespace LW
open PySem L2 PyProof.Rows
section
variable {X : Cx} {G : Gm} {Wx : WX} {p pos : Pos} {a b : Expr} {ta tb : T2}
theorem se_add (ha : SE G X Wx a ta) (hb : SE G X Wx b tb) (hK : X.K = G.K := by rfl) : SE G X Wx (.BinOp a .Add b pos) (tOp2 rAddW ta tb) := se_bin (op_rAdd hK) ha hb
theorem Room.units65 {k : Nat} {A : Around} (r : Room k A) : A.units + 65 < cLine := by have := r.un; omega
end
abbrev GK (K : PySem.W.Frag) : Gm := ⟨K, fun C => He.ga K (Str.ofString C)⟩
/-- an exception class as the facts tell it -/
structure ExcK (K : PySem.W.Frag) (mg : Str → Option Value) (C : String) : Prop where
  q : PySem.W.excIn K ((GK K).cA C) He.veBase "ValueError.__new__" = true
  gC : mg (Str.ofString C) = some (.ref ((GK K).cA C))
  kC : PySem.W.keepIn K (.ref ((GK K).cA C)) = true
  bm : PySem.W.subIn K (.ref ((GK K).cA C)) (.type "BaseException") = some true
  ty : PySem.W.typeIn K (.ref ((GK K).cA C)) = some (.type "type")
theorem ExcK.at {K : PySem.W.Frag} {mg : Str → Option Value} {C : String} (e : ExcK K mg C) {X : Cx} (hK : X.K = K := by rfl) (hm : X.mg = mg := by rfl) : ExcS X (GK K) C := by
  subst hK hm
  exact ⟨e.q, e.gC, e.kC, e.bm, e.ty⟩
/-- the empty ghosts -/
def gh0 : Gh := ⟨fun _ => False, fun _ => False, fun _ => []⟩
theorem sim0 {G : Gm} {H : Hp} : Sim G gh0 (fun _ => none) H := ⟨fun _ _ h => (by cases h), fun _ _ h => (by cases h), fun _ _ _ h => (by cases h), fun _ _ _ _ _ h => (by cases h), fun _ h => h.elim, fun _ h => h.elim⟩
theorem repL_ints {G : Gm} {Z : Addr → Prop} {H : Hp} : ∀ ns : List Int, RepL G Z H (ns.map W.int) (ns.map V.int)
  | [] => rfl
  | n :: ns => ⟨_, _, rfl, rfl, repL_ints ns⟩
theorem sqF_of {K : PySem.W.Frag} {H : Hp} {a : Addr} {xs : List V} (o : Only H) (h : SqL K H a xs) : SqF K H a xs := by
  rcases h with (h | h) | h
  · rcases o a with e | ⟨ob, ys, e⟩
    · rw [h] at e; cases e
    · rw [h] at e; cases e
  · exact .inl h
  · exact .inr h
/-- a law: F gives the written part, the function object, the promise over every base -/
theorem walk_ofX {l : PySem.W.OpenLaw} {n k : Nat} {q : Program} {loose : List Str} {XP : (Str → Option Value) → Heap → Prop} {YP : World → Heap → Prop} {d : DefRec} {x : Str}
    (hn : l.most = some n) (hn2 : n ≤ sizeLine) (hdf : d.params.defaults = []) (hr : Room k callerA)
    (F : ∀ (w : World) (mg : Str → Option Value) (fa : Addr) (h : Heap), YP w h → h.Ns mainGlobals mg → mg d.name = some (.ref fa) →
      ∃ (K : PySem.W.Frag) (fd : FuncData) (sp : Spec2), K.In h ∧ (∀ (s : Shared) (u : Value), BindsTo s fd ⟨[u], []⟩ [(x, u)]) ∧
        (∀ (ns : List Int), ns.length ≤ n → sp [.scr (ns.map W.int)] (fun _ => none) (fun w _ => w = .bl true) fun _ _ => False) ∧
        ∀ base : Heap, K.In base → base.Ns mainGlobals mg → FnOk l.prog w K mg base (L2.CX l.prog w) k fa fd [x] (spOf (GK K) 1 sp)) :
    PySem.W.WalkO q loose XP YP l.row.toRowW d [] (fun f vs => PySem.call f vs) := by
  refine Att.attach_call hn hdf fun w s₀ s₁ mg mb fa o pm cd doc a vs ns G Y ho hd hcd hmg hobj hints hlen hg => ?_
  obtain ⟨K, fd, sp, KX, hb, hsp, hF⟩ := F w mg fa _ Y G.T.g hmg
  refine law_call KX G.T.g G.T.b G.T.builtins G.T.nolimit hg hobj hints (Nat.le_trans hlen hn2) hr hF hb (fun H hO hS => ?_) fun H e s' h => ?_
  · refine ⟨rfl, gh0, [.scr (ns.map W.int)], _, _, _, sim0, ⟨_, [], rfl, ⟨a, _, rfl, sqF_of hO hS, repL_ints ns⟩, rfl⟩, hsp ns hlen, fun w M' h g' v H' _ _ r => ?_, fun _ _ h => h.elim⟩
    subst h
    exact r
  · obtain ⟨_, _, _, _, _, _, _, _, _, _, _, _, z⟩ := h
    exact z
/-- the facts of a def as a callee -/
theorem callS_mk {P : Program} {w : World} {K : PySem.W.Frag} {mg : Str → Option Value} {base : Heap} {x : String} {k n : Nat} {s : Spec2} {f : Addr} {fd : FuncData} {ps : List Str} (F : FnOk P w K mg base (L2.CX P w) k f fd ps (spOf (GK K) n s)) (hm : mg (Str.ofString x) = some (.ref f)) (kp : PySem.W.keepIn K (.ref f) = true) (hb : Binds K fd ps []) :
    CallS P w K mg base (GK K) x k n [] s := ⟨f, fd, ps, [], [], F, hm, kp, hb, .nil, fun _ _ => rfl⟩
end LW
namespace LW
open PySem L2 PyProof.Rows
section
variable {G : Gm} {X : Cx} {Wx : WX} {a b : Expr} {ta tb : T2} {pos : Pos}
theorem sb_lt (ha : SE G X Wx a ta) (hb : SE G X Wx b tb) : SB G X Wx (.Compare a [.Lt] [b] pos) (tTest2 (tOp2 rLtW ta tb)) := sb_cmp (opR_imp op_lt rIntB_lift) ha hb (nobehind _ (by decide) (by decide))
theorem sb_le (ha : SE G X Wx a ta) (hb : SE G X Wx b tb) : SB G X Wx (.Compare a [.LtE] [b] pos) (tTest2 (tOp2 rLeW ta tb)) := sb_cmp (opR_imp op_le rIntB_lift) ha hb (nobehind _ (by decide) (by decide))
theorem sb_gt (ha : SE G X Wx a ta) (hb : SE G X Wx b tb) : SB G X Wx (.Compare a [.Gt] [b] pos) (tTest2 (tOp2 rGtW ta tb)) := sb_cmp (opR_imp op_gt rIntB_lift) ha hb (nobehind _ (by decide) (by decide))
theorem sb_ge (ha : SE G X Wx a ta) (hb : SE G X Wx b tb) : SB G X Wx (.Compare a [.GtE] [b] pos) (tTest2 (tOp2 rGeW ta tb)) := sb_cmp (opR_imp op_ge rIntB_lift) ha hb (nobehind _ (by decide) (by decide))
theorem sb_eq (hu : X.A.units + 64 < cLine) (ha : SE G X Wx a ta) (hb : SE G X Wx b tb) (hK : X.K = G.K := by rfl) : SB G X Wx (.Compare a [.Eq] [b] pos) (tTest2 (tOp2 (rEq2 false) ta tb)) := sb_cmp (op_rEq hK hu) ha hb (nobehind _ (by decide) (by decide))
theorem sb_ne (hu : X.A.units + 64 < cLine) (ha : SE G X Wx a ta) (hb : SE G X Wx b tb) (hK : X.K = G.K := by rfl) : SB G X Wx (.Compare a [.NotEq] [b] pos) (tTest2 (tOp2 (rEq2 true) ta tb)) := sb_cmp (op_rNe hK hu) ha hb (nobehind _ (by decide) (by decide))
theorem sb_is (ha : SE G X Wx a ta) (hb : SE G X Wx b tb) : SB G X Wx (.Compare a [.Is] [b] pos) (tTest2 (tOp2 (rIsN2 false) ta tb)) := sb_cmp op_rIsN ha hb (nobehind _ (by decide) (by decide))
theorem sb_isnot (ha : SE G X Wx a ta) (hb : SE G X Wx b tb) : SB G X Wx (.Compare a [.IsNot] [b] pos) (tTest2 (tOp2 (rIsN2 true) ta tb)) := sb_cmp op_rNotN ha hb (nobehind _ (by decide) (by decide))
end
end LW

namespace LW
open PySem L2 PyProof.Rows
@[simp] def wipe2 (env : Env2) : List Nat → Env2
  | [] => env
  | v :: vs => (wipe2 env vs).set v none
theorem EnvR.wipe {G : Gm} {Z : Addr → Prop} {H : Hp} {env : Env2} {σ : L2.St} (r : EnvR G Z H env σ) : ∀ vs : List Nat, EnvR G Z H (wipe2 env vs) (L2.wipe σ vs)
  | [] => r
  | v :: vs => EnvR.unset (EnvR.wipe r vs)
theorem wipe_set {σ : L2.St} {i : Nat} {x : Option V} : ∀ {vs : List Nat}, i ∈ vs → L2.wipe (σ.set i x) vs = L2.wipe σ vs
  | v :: vs, h => by
    have gen : ∀ vs : List Nat, L2.wipe (σ.set i x) vs = (L2.wipe σ vs).set i (if i ∈ vs then none else x) ∨ L2.wipe (σ.set i x) vs = L2.wipe σ vs := by
      intro vs
      induction vs with
      | nil => left; rfl
      | cons v vs ih =>
        show (L2.wipe (σ.set i x) vs).set v none = _ ∨ (L2.wipe (σ.set i x) vs).set v none = (L2.wipe σ vs).set v none
        rcases ih with e | e
        · rw [e]
          by_cases q : v = i
          · subst q
            right
            rw [List.set_set]
          · left
            have q' : ¬ i = v := fun z => q z.symm
            rw [List.set_comm _ _ (Ne.symm q)]
            show ((L2.wipe σ vs).set v none).set i _ = ((L2.wipe σ vs).set v none).set i _
            congr 1
            simp [List.mem_cons, q']
        · right; rw [e]
    have gen2 : ∀ vs : List Nat, i ∈ vs → L2.wipe (σ.set i x) vs = L2.wipe σ vs := by
      intro vs
      induction vs with
      | nil => intro h; cases h
      | cons v vs ih =>
        intro h
        show (L2.wipe (σ.set i x) vs).set v none = (L2.wipe σ vs).set v none
        by_cases q : i ∈ vs
        · rw [ih q]
        · have e : v = i := by
            rcases List.mem_cons.mp h with e | e
            · exact e.symm
            · exact absurd e q
          subst e
          rcases gen vs with e | e
          · rw [e, List.set_set]
          · rw [e]
    exact gen2 _ h
theorem wipe_wipe {σ : L2.St} {vs : List Nat} : ∀ us : List Nat, (∀ u ∈ us, u ∈ vs) → L2.wipe (L2.wipe σ us) vs = L2.wipe σ vs
  | [], _ => rfl
  | u :: us, h => (wipe_set (h u (List.mem_cons_self ..))).trans (wipe_wipe us fun v hv => h v (List.mem_cons_of_mem _ hv))
/-- a target of names: what it does to the slots -/
def NT (G : Gm) (gt : TG) (g2 : TG2) (vs : List Nat) : Prop := ∀ (g : Gh) (H : Hp) (M : Heap2) (w : W) (v : V) (env : Env2) (σ : L2.St) (Q2 : Env2 → Heap2 → Prop) (Q : L2.St → Hp → Prop), Rep G g.Z H w v → EnvR G g.Z H env σ → g2 w env M Q2 →
  (∀ env' σ', Q2 env' M → EnvR G g.Z H env' σ' → L2.wipe σ' vs = L2.wipe σ vs → Q σ' H) → gt v σ H Q
theorem nt_name {G : Gm} {i : Nat} : NT G (gName i) (gName2 i) [i] := fun g H M w v env σ Q2 Q r e h k => k _ _ h (e.set r) (wipe_set (by simp))
def gNs : List Nat → TGs
  | [] => gNil
  | i :: r => gCons (gName i) (gNs r)
@[simp] def gNs2 : List Nat → TGs2
  | [] => gNil2
  | i :: r => gCons2 (gName2 i) (gNs2 r)
theorem nts {G : Gm} {vs : List Nat} {g : Gh} {H : Hp} {M : Heap2} {Q2 : Env2 → Heap2 → Prop} {Q : L2.St → Hp → Prop} : ∀ {is : List Nat} {ws : List W} {us : List V} {env : Env2} {σ : L2.St}, (∀ i ∈ is, i ∈ vs) → RepL G g.Z H ws us → EnvR G g.Z H env σ → gNs2 is ws env M Q2 →
    (∀ env' σ', Q2 env' M → EnvR G g.Z H env' σ' → L2.wipe σ' vs = L2.wipe σ vs → Q σ' H) → gNs is us σ H Q
  | [], [], us, env, σ, _, r, e, h, k => ⟨r, k _ _ h e rfl⟩
  | [], _ :: _, us, env, σ, _, r, e, h, k => h.elim
  | i :: is, [], us, env, σ, _, r, e, h, k => h.elim
  | i :: is, w :: ws, us, env, σ, hi, ⟨u, ur, e1, ra, rb⟩, e, h, k => by
    subst e1
    refine ⟨u, ur, rfl, ?_⟩
    refine nts (is := is) (fun j hj => hi j (List.mem_cons_of_mem _ hj)) rb (e.set ra) h fun env' σ' h' e' w' => k env' σ' h' e' (w'.trans (wipe_set (hi i (List.mem_cons_self ..))))
theorem nt_tup {K : PySem.W.Frag} {G : Gm} {is : List Nat} {n : Nat} (hK : K = G.K) : NT G (gTup K n (gNs is)) (gTup2 n (gNs2 is)) is := by
  intro g H M w v env σ Q2 Q r e h k
  cases w <;> try exact h.elim
  obtain ⟨p, us, rfl, hp, rl⟩ := r
  exact ⟨p, us, rfl, SqT.of hp, rl.length.trans h.1, nts (fun _ h => h) rl e h.2 k⟩

section
variable {G : Gm} {g : Gh} {M : Heap2} {H : Hp} {D : Addr} {vs us : List V}
def Gh.addP (g : Gh) (D : Addr) : Gh := { g with P := fun p => g.P p ∨ p = D }
theorem Sim.newP (s : Sim G g M H) (h : H D = none) : Sim G (g.addP D) M (upd H D (.lst vs)) := by
  have s1 : Sim G g M (upd H D (.lst vs)) := s.new h
  have f := s.free h
  refine ⟨s1.cell, s1.nd, fun a c p hc hp => ⟨(s1.no a c p hc hp).1, ?_⟩, s1.dj, fun p z => ⟨?_, (s1.zt p z).2⟩, fun p z => ?_⟩
  · rintro (z | z)
    · exact (s1.no a c p hc hp).2 z
    · subst z; exact f.2.2.2 a c hc hp
  · rintro (q | q)
    · exact (s1.zt p z).1 q
    · subst q; exact f.2.1 z
  · rcases z with z | z
    · exact s1.pt p z
    · subst z; exact ⟨_, upd_same⟩
theorem Sim.pwrite (s : Sim G g M H) (hp : g.P D) (h : H D = some (.lst vs)) : Sim G g M (upd H D (.lst us)) ∧ KeepZ g.Z H g.Z (upd H D (.lst us)) := by
  have k : KeepZ g.Z H g.Z (upd H D (.lst us)) := by
    refine ⟨fun p z => ⟨z, upd_ne fun e => ?_⟩, fun b xs e => ?_, fun b o u e => ?_⟩
    · subst e; exact (s.zt p z).1 hp
    · rw [upd_ne fun q => ?_]; exact e
      subst q; rw [h] at e; cases e
    · rw [upd_ne fun q => ?_]; exact e
      subst q; rw [h] at e; cases e
  have st : ∀ q : Addr, (∃ x, H q = some x) → ∃ x, upd H D (.lst us) q = some x := fun q ⟨x, e⟩ => by
    by_cases z : q = D
    · subst z; exact ⟨_, upd_same⟩
    · exact ⟨x, by rw [upd_ne z]; exact e⟩
  refine ⟨⟨fun a c hc => (s.cell a c hc).keep k fun p hp' => upd_ne fun e => ?_, s.nd, s.no, s.dj, fun p z => ⟨(s.zt p z).1, st p (s.zt p z).2⟩, fun p z => st p (s.pt p z)⟩, k⟩
  subst e
  exact (s.no a c p hc hp').2 hp
theorem Sim.unP_frz (s : Sim G g M H) (hp : g.P D) {P0 : Addr → Prop} (h0 : ∀ p, P0 p → g.P p) (hD : ¬ P0 D) : Sim G { g with Z := fun p => g.Z p ∨ p = D, P := P0 } M H := by
  have k : KeepZ g.Z H (fun p => g.Z p ∨ p = D) H := ⟨fun p z => ⟨.inl z, rfl⟩, fun _ _ e => e, fun _ _ _ e => e⟩
  refine ⟨fun a c hc => (s.cell a c hc).keep k fun _ _ => rfl, s.nd, fun a c p hc hp' => ⟨?_, fun z => (s.no a c p hc hp').2 (h0 p z)⟩, s.dj, fun p z => ?_, fun p z => s.pt p (h0 p z)⟩
  · rintro (z | z)
    · exact (s.no a c p hc hp').1 z
    · subst z; exact (s.no a c p hc hp').2 hp
  · rcases z with z | z
    · exact ⟨fun q => (s.zt p z).1 (h0 p q), (s.zt p z).2⟩
    · subst z; exact ⟨hD, s.pt p hp⟩
theorem Sim.unP_cell (s : Sim G g M H) (hp : g.P D) {P0 : Addr → Prop} (h0 : ∀ p, P0 p → g.P p) (hD : ¬ P0 D) {xs : List W} (h : H D = some (.lst vs)) (r : RepL G g.Z H xs vs) :
    Sim G { g with ft := fun b => if b = D then [D] else g.ft b, P := P0 } (upd2 M D (some (.flat (.lst xs)))) H ∧ M D = none := by
  have hM : M D = none := by
    cases q : M D with
    | none => rfl
    | some c => exact absurd hp (s.no D c D q (s.nd D c q).2).2
  have fn : ∀ b, b ≠ D → (if b = D then [D] else g.ft b) = g.ft b := fun b hb => if_neg hb
  have nD : ∀ a c, M a = some c → D ∉ g.ft a := fun a c hc hh => (s.no a c D hc hh).2 hp
  have nm : ∀ b c, b ≠ D → upd2 M D (some (.flat (.lst xs))) b = some c → M b = some c := fun b c e h => by rw [upd2_ne e] at h; exact h
  refine ⟨⟨fun a c hc => ?_, fun a c hc => ?_, fun a c p hc hq => ?_, fun a b c d p hc hd hq hq' => ?_, fun p z => ⟨fun q => (s.zt p z).1 (h0 p q), (s.zt p z).2⟩, fun p z => s.pt p (h0 p z)⟩, hM⟩
  · by_cases e : a = D
    · subst e
      rw [upd2_same] at hc; cases hc
      show CellR G g.Z H a _ (if a = a then [a] else g.ft a)
      rw [if_pos rfl]
      exact ⟨rfl, vs, h, r⟩
    · show CellR G g.Z H a c (if a = D then [D] else g.ft a)
      rw [fn a e]; exact s.cell a c (nm a c e hc)
  · by_cases e : a = D
    · subst e
      show (if a = a then [a] else g.ft a).Nodup ∧ a ∈ (if a = a then [a] else g.ft a)
      rw [if_pos rfl]; simp
    · show (if a = D then [D] else g.ft a).Nodup ∧ a ∈ (if a = D then [D] else g.ft a)
      rw [fn a e]; exact s.nd a c (nm a c e hc)
  · by_cases e : a = D
    · subst e
      have hq' : p ∈ (if a = a then [a] else g.ft a) := hq
      rw [if_pos rfl] at hq'
      rw [List.mem_singleton.mp hq']
      exact ⟨fun z => (s.zt a z).1 hp, hD⟩
    · have hq' : p ∈ (if a = D then [D] else g.ft a) := hq
      rw [fn a e] at hq'
      have := s.no a c p (nm a c e hc) hq'
      exact ⟨this.1, fun z => this.2 (h0 p z)⟩
  · have hq1 : p ∈ (if a = D then [D] else g.ft a) := hq
    have hq2 : p ∈ (if b = D then [D] else g.ft b) := hq'
    by_cases e : a = D
    · by_cases e' : b = D
      · rw [e, e']
      · rw [if_pos e] at hq1
        rw [fn b e'] at hq2
        rw [List.mem_singleton.mp hq1] at hq2
        exact absurd hq2 (nD b d (nm b d e' hd))
    · rw [fn a e] at hq1
      by_cases e' : b = D
      · rw [if_pos e'] at hq2
        rw [List.mem_singleton.mp hq2] at hq1
        exact absurd hq1 (nD a c (nm a c e hc))
      · rw [fn b e'] at hq2
        exact s.dj a b c d p (nm a c e hc) (nm b d e' hd) hq1 hq2
end

def tLcI (chk : Heap2 → Prop) (gt : TG2) (tt : TT2) (te : T2) (env : Env2) : List W → List W → Heap2 → (List W → Heap2 → Prop) → Prop
  | [], acc, M, R => chk M ∧ R acc M
  | x :: r, acc, M, R => chk M ∧ gt x env M fun env2 M2 => tt env2 M2 (fun b M3 => if b = true then te env2 M3 (fun w M4 => acc.length < 10000000 ∧ tLcI chk gt tt te env r (acc ++ [w]) M4 R) (fun _ _ _ => False) else tLcI chk gt tt te env r acc M3 R) (fun _ _ _ => False)
def tLc2 (wi : TI2) (gt : TG2) (tt : TT2) (te : T2) (vs : List Nat) : T2 := fun env M Q E => wi env M (fun xs chk M1 => tLcI chk gt tt te (wipe2 env vs) xs [] M1 (fun acc M' => Q (.lst acc) M')) E
def tLcC (wi : TI2) (gt : TG2) (tt : TT2) (te : T2) (vs : List Nat) : T2 := fun env M Q E => wi env M (fun xs chk M1 => tLcI chk gt tt te (wipe2 env vs) xs [] M1 (fun acc M' => ∀ p, M' p = none → Q (.ref p) (upd2 M' p (some (.flat (.lst acc)))))) E
@[simp] def tYes2 : TT2 := fun _ M Q _ => Q true M
abbrev STs (G : Gm) (X : Cx) (ifs : List Expr) (t : TT2) : Prop := PTs X ifs (liftT G (fun _ _ _ _ => False) t)
theorem sts_nil {G : Gm} {X : Cx} : STs G X [] tYes2 := ⟨fun pins s σ H Q I ⟨g, env, M, Q0, E0, sm, ev, t, k, x⟩ => pts_nil.run pins s σ H Q I (k _ _ t g H (Keep.refl g H) sm)⟩
theorem sts_one {G : Gm} {X : Cx} {c : Expr} {t : TT2} (h : SB G X (fun _ _ _ _ => False) c t) : STs G X [c] t := pts_one h
section
variable {G : Gm} {X : Cx} {Wx : WX} {wi : TI2} {gt : TG} {g2 : TG2} {tt : TT2} {te : T2} {vs : List Nat}
theorem lc_sound {L : T2} (nt : NT G gt g2 vs) (Fin : List W → Heap2 → Q2 → Prop) (hL : ∀ env M Q E, L env M Q E → wi env M (fun xs chk M1 => tLcI chk g2 tt te (wipe2 env vs) xs [] M1 (fun acc M' => Fin acc M' Q)) E)
    (fin : ∀ (g1 g : Gh) (H1 H : Hp) (M : Heap2) (D : Addr) (acc : List W) (vacc : List V) (Q0 : Q2) (Q : VK), Sim G g M H → g.P D → (∀ p, g.P p ↔ g1.P p ∨ p = D) → ¬ g1.P D → H D = some (.lst vacc) → RepL G g.Z H acc vacc → Keep g1 H1 { g with P := g1.P } H → Fin acc M Q0 →
      (∀ w M', Q0 w M' → ∀ g' v H', Keep g1 H1 g' H' → Sim G g' M' H' → Rep G g'.Z H' w v → Q v H') → Q (.ref D) H) :
    ∀ σ H Q, liftE G Wx L σ H Q → tLc (liftI G Wx wi) gt (liftT G (fun _ _ _ _ => False) tt) (liftE G (fun _ _ _ _ => False) te) vs σ H Q := by
  rintro σ H Q ⟨g0, env, M0, Q0, E0, s0, ev0, t, kq, x⟩
  refine ⟨g0, env, M0, _, E0, s0, ev0, hL _ _ _ _ t, fun xs chk M1 h1 g1 J H1 k1 s1 ij => ?_, x⟩
  intro D hD
  have f := s1.free hD
  have nPD : ¬ g1.P D := f.2.2.1
  have ev1 : EnvR G g1.Z H1 (wipe2 env vs) (L2.wipe σ vs) := (ev0.keep k1.kz).wipe vs
  refine ⟨fun i m H => ∃ g M acc vacc, i ≤ xs.length ∧ m = xs.length - i ∧ Sim G g M H ∧ (∀ p, g.P p ↔ g1.P p ∨ p = D) ∧ H D = some (.lst vacc) ∧ RepL G g.Z H acc vacc ∧ Keep g1 H1 { g with P := g1.P } H ∧ tLcI chk g2 tt te (wipe2 env vs) (xs.drop i) acc M (fun acc M' => Fin acc M' Q0), ⟨xs.length, ?_⟩, ?_⟩
  · refine ⟨g1.addP D, M1, [], [], Nat.zero_le _, rfl, s1.newP hD, fun p => Iff.rfl, upd_same, rfl, ?_, h1⟩
    have kn := Keep.new (o := .lst []) hD s1
    exact ⟨kn.z, kn.p, kn.q, kn.tups, kn.frzs⟩
  rintro i m H ⟨g, M, acc, vacc, hi, rfl, s, gP, hDH, ra, kk, q⟩
  have hpD : g.P D := (gP D).mpr (.inr rfl)
  by_cases hlt : i < xs.length
  · right
    have hx : xs[i]? = some xs[i] := by simp [hlt]
    rw [List.drop_eq_getElem_cons hlt] at q
    obtain ⟨hchk, q⟩ := q
    obtain ⟨go, yld⟩ := (ij g M H kk.kz s hchk).2 i _ hx
    refine ⟨go, fun H' => ∃ g M acc vacc, Sim G g M H' ∧ (∀ p, g.P p ↔ g1.P p ∨ p = D) ∧ H' D = some (.lst vacc) ∧ RepL G g.Z H' acc vacc ∧ Keep g1 H1 { g with P := g1.P } H' ∧ tLcI chk g2 tt te (wipe2 env vs) (xs.drop (i + 1)) acc M (fun acc M' => Fin acc M' Q0), ?_, ?_⟩
    · rintro H' ⟨g', M', acc', vacc', a1, a2, a3, a4, a5, a6⟩
      exact ⟨xs.length - (i + 1), by omega, g', M', acc', vacc', hlt, rfl, a1, a2, a3, a4, a5, a6⟩
    · intro v H' y
      obtain ⟨g', k', s', r'⟩ := yld v H' y
      have pk : ∀ {g2 : Gh} {H2 : Hp}, Keep g H g2 H2 → (∀ p, g2.P p ↔ g1.P p ∨ p = D) ∧ g2.P D ∧ H2 D = some (.lst vacc) ∧ RepL G g2.Z H2 acc vacc ∧ Keep g1 H1 { g2 with P := g1.P } H2 := fun {g2 H2} k2 => by
        refine ⟨fun p => ⟨fun z => (gP p).mp (k2.q p z), fun z => (k2.p p ((gP p).mpr z)).1⟩, (k2.p D hpD).1, (k2.p D hpD).2.trans hDH, ra.keep k2.kz, ?_⟩
        have kz := k2.kz
        exact ⟨fun p z => ⟨(k2.z p (kk.z p z).1).1, ((k2.z p (kk.z p z).1).2).trans (kk.z p z).2⟩, fun p z => ⟨z, ((k2.p p ((gP p).mpr (.inl z))).2).trans (kk.p p z).2⟩, fun _ z => z, fun b ys e => k2.tups b ys (kk.tups b ys e), fun b o u e => k2.frzs b o u (kk.frzs b o u e)⟩
      have ev' : EnvR G g'.Z H' (wipe2 env vs) (L2.wipe σ vs) := (ev1.keep kk.kz).keep k'.kz
      refine nt g' H' M _ v _ _ _ _ r' ev' q fun env2 σ2 h2 ev2 hw => ⟨hw.trans (wipe_wipe vs fun _ h => h), ?_⟩
      refine ⟨g', env2, M, _, _, s', ev2, h2, fun b M3 h3 g3 H3 k3 s3 => ?_, fun _ _ _ z => z.elim⟩
      have kk3 := k'.trans k3
      cases b with
      | true =>
        refine ⟨g3, env2, M3, _, _, s3, ev2.keep k3.kz, h3, fun w M4 h4 g4 u H4 k4 s4 r4 => ?_, fun _ _ _ z => z.elim⟩
        have kk4 := kk3.trans k4
        obtain ⟨p1, p2, p3, p4, p5⟩ := pk kk4
        obtain ⟨s5, k5⟩ := s4.pwrite (us := vacc ++ [u]) p2 p3
        refine ⟨vacc, p3, by rw [ra.length]; exact big_lt h4.1, g4, M4, acc ++ [w], vacc ++ [u], s5, p1, upd_same, (p4.keep k5).append ⟨u, [], rfl, r4.keep k5, rfl⟩, ?_, h4.2⟩
        exact ⟨fun p z => ⟨(p5.z p z).1, (k5.z p (p5.z p z).1).2.trans (p5.z p z).2⟩, fun p z => ⟨z, (upd_ne fun e => (by subst e; exact nPD z)).trans (p5.p p z).2⟩, fun _ z => z, fun b ys e => k5.tups b ys (p5.tups b ys e), fun b o u e => k5.frzs b o u (p5.frzs b o u e)⟩
      | false =>
        obtain ⟨p1, p2, p3, p4, p5⟩ := pk kk3
        exact ⟨g3, M3, acc, vacc, s3, p1, p3, p4, p5, h3⟩
  · left
    have e : i = xs.length := by omega
    subst e
    rw [List.drop_eq_nil_of_le (Nat.le_refl _)] at q
    obtain ⟨hchk, q⟩ := q
    exact ⟨(ij g M H kk.kz s hchk).1, fin g1 g H1 H M D acc vacc Q0 Q s hpD gP nPD hDH ra kk q (fun w M' h2 g' v H' k' s' r' => kq w M' h2 g' v H' (k1.trans k') s' r')⟩
theorem fin_frz : ∀ (g1 g : Gh) (H1 H : Hp) (M : Heap2) (D : Addr) (acc : List W) (vacc : List V) (Q0 : Q2) (Q : VK), Sim G g M H → g.P D → (∀ p, g.P p ↔ g1.P p ∨ p = D) → ¬ g1.P D → H D = some (.lst vacc) → RepL G g.Z H acc vacc → Keep g1 H1 { g with P := g1.P } H → Q0 (.lst acc) M →
      (∀ w M', Q0 w M' → ∀ g' v H', Keep g1 H1 g' H' → Sim G g' M' H' → Rep G g'.Z H' w v → Q v H') → Q (.ref D) H := by
  intro g1 g H1 H M D acc vacc Q0 Q s hp gP nP hD ra kk q kq
  have s2 := s.unP_frz hp (P0 := g1.P) (fun p z => (gP p).mpr (.inl z)) nP
  have k : KeepZ g.Z H (fun p => g.Z p ∨ p = D) H := ⟨fun p z => ⟨.inl z, rfl⟩, fun _ _ e => e, fun _ _ _ e => e⟩
  exact kq _ M q ⟨fun p => g.Z p ∨ p = D, g1.P, g.ft⟩ _ H ⟨fun p z => ⟨.inl (kk.z p z).1, (kk.z p z).2⟩, kk.p, kk.q, kk.tups, kk.frzs⟩ s2 ⟨D, vacc, rfl, .inr rfl, hD, ra.keep k⟩
theorem fin_cell : ∀ (g1 g : Gh) (H1 H : Hp) (M : Heap2) (D : Addr) (acc : List W) (vacc : List V) (Q0 : Q2) (Q : VK), Sim G g M H → g.P D → (∀ p, g.P p ↔ g1.P p ∨ p = D) → ¬ g1.P D → H D = some (.lst vacc) → RepL G g.Z H acc vacc → Keep g1 H1 { g with P := g1.P } H →
      (∀ p, M p = none → Q0 (.ref p) (upd2 M p (some (.flat (.lst acc))))) →
      (∀ w M', Q0 w M' → ∀ g' v H', Keep g1 H1 g' H' → Sim G g' M' H' → Rep G g'.Z H' w v → Q v H') → Q (.ref D) H := by
  intro g1 g H1 H M D acc vacc Q0 Q s hp gP nP hD ra kk q kq
  obtain ⟨s2, hM⟩ := s.unP_cell hp (P0 := g1.P) (fun p z => (gP p).mpr (.inl z)) nP hD ra
  exact kq _ _ (q D hM) ⟨g.Z, g1.P, fun b => if b = D then [D] else g.ft b⟩ _ H ⟨kk.z, kk.p, kk.q, kk.tups, kk.frzs⟩ s2 rfl
variable {elt tg iter : Expr} {ifs : List Expr} {scope : Scope} {own : List (Str × Nat)} {pos : Pos}
theorem se_lc (hc : X.calm = true) (hN : X.N.Nodup) (hi : SI G X Wx tg iter wi) (ok : BlkOk X.N X.env.scope scope own) (nt : NT G gt g2 (own.map (·.2)))
    (hg : ∀ (s : Shared) (H : Hp) (C : Addr) (cl : List (Str × Addr)) (fp : List Addr), PG (X.blk s H scope (compEnvC scope cl C X.env) fp) tg gt) (ht : ∀ (s : Shared) (H : Hp) (C : Addr) (cl : List (Str × Addr)) (fp : List Addr), STs G (X.blk s H scope (compEnvC scope cl C X.env) fp) ifs tt)
    (he : ∀ (s : Shared) (H : Hp) (C : Addr) (cl : List (Str × Addr)) (fp : List Addr), SE G (X.blk s H scope (compEnvC scope cl C X.env) fp) (fun _ _ _ _ => False) elt te) (hs : ∀ x, foldedSetIterable iter X.env x = pure x := by intro _; rfl) :
    SE G X Wx (.ListComp elt [⟨tg, iter, ifs, 0⟩] scope pos) (tLc2 wi g2 tt te (own.map (·.2))) :=
  pe_imp (pe_lc hc hN hi ok hg ht he hs) (lc_sound nt (fun acc M Q => Q (.lst acc) M) (fun _ _ _ _ h => h) fin_frz)
theorem se_lcC (hc : X.calm = true) (hN : X.N.Nodup) (hi : SI G X Wx tg iter wi) (ok : BlkOk X.N X.env.scope scope own) (nt : NT G gt g2 (own.map (·.2)))
    (hg : ∀ (s : Shared) (H : Hp) (C : Addr) (cl : List (Str × Addr)) (fp : List Addr), PG (X.blk s H scope (compEnvC scope cl C X.env) fp) tg gt) (ht : ∀ (s : Shared) (H : Hp) (C : Addr) (cl : List (Str × Addr)) (fp : List Addr), STs G (X.blk s H scope (compEnvC scope cl C X.env) fp) ifs tt)
    (he : ∀ (s : Shared) (H : Hp) (C : Addr) (cl : List (Str × Addr)) (fp : List Addr), SE G (X.blk s H scope (compEnvC scope cl C X.env) fp) (fun _ _ _ _ => False) elt te) (hs : ∀ x, foldedSetIterable iter X.env x = pure x := by intro _; rfl) :
    SE G X Wx (.ListComp elt [⟨tg, iter, ifs, 0⟩] scope pos) (tLcC wi g2 tt te (own.map (·.2))) :=
  pe_imp (pe_lc hc hN hi ok hg ht he hs) (lc_sound nt (fun acc M Q => ∀ p, M p = none → Q (.ref p) (upd2 M p (some (.flat (.lst acc))))) (fun _ _ _ _ h => h) fin_cell)
theorem asg_sound {te2 : T2} {t : TE} {i : Nat} (h : ∀ σ H Q, liftE G Wx te2 σ H Q → t σ H Q) : ∀ D σ H, liftS G Wx (tAsg2 te2 (gName2 i)) D σ H → tAsg t (gName i) D σ H := by
  rintro D σ H hh
  obtain ⟨g, env, M, D0, s, ev, t, r⟩ := liftS_iff.mp hh
  refine h σ H _ ⟨g, env, M, _, D0.ex, s, ev, t, fun w M1 h1 g1 v H1 k1 s1 r1 => ?_, r.ex⟩
  exact r.nx _ _ h1 g1 _ H1 k1 s1 ((ev.keep k1.kz).set r1)
variable {i : Nat} {y : Str} {py spos : Pos}
theorem ss_setlc (hc : X.calm = true) (hN : X.N.Nodup) (hy : X.N[i]? = some y) (hyl : X.env.scope.names.lookup y = some .local)
    (hsw : swapsWith (.ListComp elt [⟨tg, iter, ifs, 0⟩] scope pos) (some (.Name y py)) spos.line X.env = pure true) (hi : SI G X Wx tg iter wi) (ok : BlkOk X.N X.env.scope scope own) (nt : NT G gt g2 (own.map (·.2)))
    (hg : ∀ (s : Shared) (H : Hp) (C : Addr) (cl : List (Str × Addr)) (fp : List Addr), PG (X.blk s H scope (compEnvC scope cl C X.env) fp) tg gt) (ht : ∀ (s : Shared) (H : Hp) (C : Addr) (cl : List (Str × Addr)) (fp : List Addr), STs G (X.blk s H scope (compEnvC scope cl C X.env) fp) ifs tt)
    (he : ∀ (s : Shared) (H : Hp) (C : Addr) (cl : List (Str × Addr)) (fp : List Addr), SE G (X.blk s H scope (compEnvC scope cl C X.env) fp) (fun _ _ _ _ => False) elt te) (hs : ∀ x, foldedSetIterable iter X.env x = pure x := by intro _; rfl) :
    SS G X Wx (.Assign [.Name y py] (.ListComp elt [⟨tg, iter, ifs, 0⟩] scope pos) spos) (tAsg2 (tLc2 wi g2 tt te (own.map (·.2))) (gName2 i)) :=
  ps_imp (ps_setLc hc hN hy hyl hsw hi ok hg ht he hs) (asg_sound (lc_sound nt (fun acc M Q => Q (.lst acc) M) (fun _ _ _ _ h => h) fin_frz))
theorem ss_setlcC (hc : X.calm = true) (hN : X.N.Nodup) (hy : X.N[i]? = some y) (hyl : X.env.scope.names.lookup y = some .local)
    (hsw : swapsWith (.ListComp elt [⟨tg, iter, ifs, 0⟩] scope pos) (some (.Name y py)) spos.line X.env = pure true) (hi : SI G X Wx tg iter wi) (ok : BlkOk X.N X.env.scope scope own) (nt : NT G gt g2 (own.map (·.2)))
    (hg : ∀ (s : Shared) (H : Hp) (C : Addr) (cl : List (Str × Addr)) (fp : List Addr), PG (X.blk s H scope (compEnvC scope cl C X.env) fp) tg gt) (ht : ∀ (s : Shared) (H : Hp) (C : Addr) (cl : List (Str × Addr)) (fp : List Addr), STs G (X.blk s H scope (compEnvC scope cl C X.env) fp) ifs tt)
    (he : ∀ (s : Shared) (H : Hp) (C : Addr) (cl : List (Str × Addr)) (fp : List Addr), SE G (X.blk s H scope (compEnvC scope cl C X.env) fp) (fun _ _ _ _ => False) elt te) (hs : ∀ x, foldedSetIterable iter X.env x = pure x := by intro _; rfl) :
    SS G X Wx (.Assign [.Name y py] (.ListComp elt [⟨tg, iter, ifs, 0⟩] scope pos) spos) (tAsg2 (tLcC wi g2 tt te (own.map (·.2))) (gName2 i)) :=
  ps_imp (ps_setLc hc hN hy hyl hsw hi ok hg ht he hs) (asg_sound (lc_sound nt (fun acc M Q => ∀ p, M p = none → Q (.ref p) (upd2 M p (some (.flat (.lst acc))))) (fun _ _ _ _ h => h) fin_cell))
end
end LW

namespace LW
open PySem L2 PyProof.Rows
section
variable {X : Cx} {G : Gm} {Wx : WX} {p pos apos cpos : Pos} {e o a b : Expr} {es : List Expr} {ta tb te to' : T2} {t : TA2}
def tBm2 (r : W → List W → Heap2 → Q2 → Prop) (to' : T2) (t : TA2) : T2 := fun env M Q E => to' env M (fun w M1 => (listOf M1 w).isSome = true ∧ t env M1 (fun ws M2 => r w ws M2 Q) E) E
def liftM (G : Gm) (r : W → List W → Heap2 → Q2 → Prop) : V → List V → Hp → VK → Prop := fun x xs H Q => ∃ g M w ws Q0, Sim G g M H ∧ Rep G g.Z H w x ∧ RepL G g.Z H ws xs ∧ r w ws M Q0 ∧
  ∀ w M', Q0 w M' → ∀ g' v H', Keep g H g' H' → Sim G g' M' H' → Rep G g'.Z H' w v → Q v H'
theorem mtR_imp {id : String} {r r' : V → List V → Hp → VK → Prop} (h : MtR X id r) (i : ∀ x xs H Q, r' x xs H Q → r x xs H Q) : MtR X id r' := fun pins s σ H x xs v us Q I rx rs q => h pins s σ H x xs v us Q I rx rs (i _ _ _ _ q)
theorem bm2 (hK : X.K = G.K) {r : W → List W → Heap2 → Q2 → Prop} : ∀ σ H Q, liftE G Wx (tBm2 r to' t) σ H Q → tBM X.K "list" (liftM G r) (liftE G Wx to') (liftA G Wx t) σ H Q := by
  rintro σ H Q ⟨g, env, M, Q0, E0, s, ev, tt, k, x⟩
  refine ⟨g, env, M, _, E0, s, ev, tt, fun w M1 h1 g1 v H1 k1 s1 r1 => ?_, x⟩
  obtain ⟨hl, h1⟩ := h1
  obtain ⟨ys, hy⟩ := Option.isSome_iff_exists.mp hl
  obtain ⟨q, vs, rfl, hq, _⟩ := listOf_rep hy s1 r1
  refine ⟨.inl ⟨rfl, vs, by rw [hK]; exact hq⟩, g1, env, M1, _, E0, s1, ev.keep k1.kz, h1, fun ws M2 h2 g2 us H2 k2 s2 r2 => ?_, x.keep k1⟩
  exact ⟨g2, M2, w, ws, Q0, s2, r1.keep k2.kz, r2, h2, fun w' M' h3 g' v' H' k3 s3 r3 => k w' M' h3 g' v' H' ((k1.trans k2).trans k3) s3 r3⟩
theorem se_bm {name : Str} {id : String} {r : W → List W → Heap2 → Q2 → Prop} (pa : PlainAttrs "list") (slot : Slot "list" name id) (hty : typeOf (.builtin id) = pure (.type "method_descriptor")) (hm : MtR X id (liftM G r)) (ho : SE G X Wx o to') (ha : SA G X Wx (e :: es) t) (hK : X.K = G.K)
    (hbase : attributeBase o name X.env (eval o X.env) = eval o X.env)
    (hfew : ((backTo cpos (starEach (e :: es) X.env)).all (fun x => !x.1) && (backToKw cpos (keywordEach [] X.env)).all (fun x => x.1.isSome)
      && decide ((e :: es).length + ([] : List Keyword).length + (if ([] : List Keyword).isEmpty then 0 else 1) < 30)) = true)
    (hline : (apos.endLine == cpos.line) = true) (hs : starEach (e :: es) X.env = (false, eval e X.env) :: starEach es X.env) (hplain : (backTo cpos (starEach es X.env)).any (·.1) = false) :
    SE G X Wx (.Call (.Attribute o name apos) (e :: es) [] cpos) (tBm2 r to' t) := pe_imp (pe_bm pa slot hty hm ho ha hbase hfew hline hs hplain) (bm2 hK)
@[simp] def rAppend2 : W → List W → Heap2 → Q2 → Prop := fun w ws M Q => match w, ws with
  | .ref a, [x] => (match M a with
    | some (.flat (.lst xs)) => xs.length < 10000000 ∧ Q .non (upd2 M a (some (.flat (.lst (xs ++ [x])))))
    | _ => False)
  | _, _ => False
theorem mt_rAppend : MtR X "list.append" (liftM G rAppend2) := by
  refine mtR_imp (mt_append : MtR X "list.append" rAppend) ?_
  rintro x xs H Q ⟨g, M, w, ws, Q0, s, rx, rl, q, k⟩
  unfold rAppend2 at q
  split at q
  · rename_i a y
    split at q
    · rename_i ys hm
      obtain ⟨v, r, rfl, ra, rb⟩ := rl
      rw [show r = [] from rb]
      obtain ⟨_, vs, hv, rv⟩ := s.cell a _ hm
      obtain ⟨s2, k2⟩ := s.write (m' := .lst (ys ++ [y])) (o := .lst (vs ++ [v])) hm fun k2 => ⟨_, upd_same, (rv.keep k2.kz).append ⟨v, [], rfl, ra.keep k2.kz, rfl⟩⟩
      exact ⟨a, vs, v, rx, rfl, hv, by rw [rv.length]; exact big_lt q.1, k _ _ q.2 g _ _ k2 s2 rfl⟩
    · exact q.elim
  · exact q.elim
@[simp] def tAppend (to' te : T2) : T2 := tBm2 rAppend2 to' (tCons2 te tNil2)
theorem se_append (ho : SE G X Wx o to') (he : SE G X Wx e te) (hK : X.K = G.K := by rfl) (hbase : attributeBase o "append" X.env (eval o X.env) = eval o X.env := by rfl)
    (hfew : ((backTo cpos (starEach [e] X.env)).all (fun x => !x.1) && (backToKw cpos (keywordEach [] X.env)).all (fun x => x.1.isSome)
      && decide ([e].length + ([] : List Keyword).length + (if ([] : List Keyword).isEmpty then 0 else 1) < 30)) = true := by rfl)
    (hline : (apos.endLine == cpos.line) = true := by rfl) (hs : starEach [e] X.env = (false, eval e X.env) :: starEach [] X.env := by rfl) (hplain : (backTo cpos (starEach [] X.env)).any (·.1) = false := by rfl) :
    SE G X Wx (.Call (.Attribute o "append" apos) [e] [] cpos) (tAppend to' te) :=
  se_bm PySem.F.plainAttrs_list PySem.F.slot_list_append PySem.F.type_list_append mt_rAppend ho (sa_cons he sa_nil hs) hK hbase hfew hline hs hplain
@[simp] def rExtend2 : W → List W → Heap2 → Q2 → Prop := fun w ws M Q => match w, ws with
  | .ref a, [.ref b] => (match M a with
    | some (.flat (.lst xs)) => (match M b with
      | some (.flat (.lst ys)) => xs.length + ys.length ≤ 10000000 ∧ Q .non (upd2 M a (some (.flat (.lst (xs ++ ys)))))
      | _ => False)
    | _ => False)
  | .ref a, [.lst ys] => (match M a with
    | some (.flat (.lst xs)) => xs.length + ys.length ≤ 10000000 ∧ Q .non (upd2 M a (some (.flat (.lst (xs ++ ys)))))
    | _ => False)
  | _, _ => False
theorem mt_rExtend : MtR X "list.extend" (liftM G rExtend2) := by
  refine mtR_imp (mt_extend : MtR X "list.extend" rExtend) ?_
  rintro x xs H Q ⟨g, M, w, ws, Q0, s, rx, rl, q, k⟩
  unfold rExtend2 at q
  split at q
  · rename_i a b
    split at q
    · rename_i ys hm
      split at q
      · rename_i zs hb
        obtain ⟨v, r, rfl, ra, rb⟩ := rl
        rw [show r = [] from rb, show v = _ from ra]
        obtain ⟨_, vs, hv, rv⟩ := s.cell a _ hm
        obtain ⟨_, us, hu, ru⟩ := s.cell b _ hb
        obtain ⟨s2, k2⟩ := s.write (m' := .lst (ys ++ zs)) (o := .lst (vs ++ us)) hm fun k2 => ⟨_, upd_same, (rv.keep k2.kz).append (ru.keep k2.kz)⟩
        exact ⟨a, b, vs, us, rx, rfl, hv, hu, by rw [rv.length, ru.length]; exact big_size q.1, k _ _ q.2 g _ _ k2 s2 rfl⟩
      · exact q.elim
    · exact q.elim
  · rename_i a zs
    split at q
    · rename_i ys hm
      obtain ⟨v, r, rfl, ra, rb⟩ := rl
      obtain ⟨b, us, rfl, _, hu, ru⟩ := ra
      rw [show r = [] from rb]
      obtain ⟨_, vs, hv, rv⟩ := s.cell a _ hm
      obtain ⟨s2, k2⟩ := s.write (m' := .lst (ys ++ zs)) (o := .lst (vs ++ us)) hm fun k2 => ⟨_, upd_same, (rv.keep k2.kz).append (ru.keep k2.kz)⟩
      exact ⟨a, b, vs, us, rx, rfl, hv, hu, by rw [rv.length, ru.length]; exact big_size q.1, k _ _ q.2 g _ _ k2 s2 rfl⟩
    · exact q.elim
  · exact q.elim
@[simp] def tExtend (to' te : T2) : T2 := tBm2 rExtend2 to' (tCons2 te tNil2)
theorem se_extend (ho : SE G X Wx o to') (he : SE G X Wx e te) (hK : X.K = G.K := by rfl) (hbase : attributeBase o "extend" X.env (eval o X.env) = eval o X.env := by rfl)
    (hfew : ((backTo cpos (starEach [e] X.env)).all (fun x => !x.1) && (backToKw cpos (keywordEach [] X.env)).all (fun x => x.1.isSome)
      && decide ([e].length + ([] : List Keyword).length + (if ([] : List Keyword).isEmpty then 0 else 1) < 30)) = true := by rfl)
    (hline : (apos.endLine == cpos.line) = true := by rfl) (hs : starEach [e] X.env = (false, eval e X.env) :: starEach [] X.env := by rfl) (hplain : (backTo cpos (starEach [] X.env)).any (·.1) = false := by rfl) :
    SE G X Wx (.Call (.Attribute o "extend" apos) [e] [] cpos) (tExtend to' te) :=
  se_bm PySem.F.plainAttrs_list PySem.F.slot_list_extend PySem.F.type_list_extend mt_rExtend ho (sa_cons he sa_nil hs) hK hbase hfew hline hs hplain
/-- xs.pop(0) -/
@[simp] def rPop2 : W → List W → Heap2 → Q2 → Prop := fun w ws M Q => match w, ws with
  | .ref a, [.int 0] => (match M a with
    | some (.flat (.lst (x :: xs))) => Q x (upd2 M a (some (.flat (.lst xs))))
    | _ => False)
  | _, _ => False
theorem mt_rPop : MtR X "list.pop" (liftM G rPop2) := by
  refine mtR_imp (mt_popAt : MtR X "list.pop" rPopAt) ?_
  rintro x xs H Q ⟨g, M, w, ws, Q0, s, rx, rl, q, k⟩
  unfold rPop2 at q
  split at q
  · rename_i a
    split at q
    · rename_i y ys hm
      obtain ⟨v, r, rfl, ra, rb⟩ := rl
      rw [show r = [] from rb, show v = _ from ra]
      obtain ⟨_, vs, hv, rv⟩ := s.cell a _ hm
      obtain ⟨u, us, rfl, ru, rus⟩ := rv
      obtain ⟨s2, k2⟩ := s.write (m' := .lst ys) (o := .lst us) hm fun k2 => ⟨_, upd_same, rus.keep k2.kz⟩
      refine ⟨a, u :: us, 0, 0, u, rx, rfl, hv, by decide, by decide, ?_, rfl, k _ _ q g _ _ k2 s2 (ru.keep k2.kz)⟩
      unfold PySem.seqIndex?
      simp
    · exact q.elim
  · exact q.elim
@[simp] def tPop (to' te : T2) : T2 := tBm2 rPop2 to' (tCons2 te tNil2)
theorem se_pop (ho : SE G X Wx o to') (he : SE G X Wx e te) (hK : X.K = G.K := by rfl) (hbase : attributeBase o "pop" X.env (eval o X.env) = eval o X.env := by rfl)
    (hfew : ((backTo cpos (starEach [e] X.env)).all (fun x => !x.1) && (backToKw cpos (keywordEach [] X.env)).all (fun x => x.1.isSome)
      && decide ([e].length + ([] : List Keyword).length + (if ([] : List Keyword).isEmpty then 0 else 1) < 30)) = true := by rfl)
    (hline : (apos.endLine == cpos.line) = true := by rfl) (hs : starEach [e] X.env = (false, eval e X.env) :: starEach [] X.env := by rfl) (hplain : (backTo cpos (starEach [] X.env)).any (·.1) = false := by rfl) :
    SE G X Wx (.Call (.Attribute o "pop" apos) [e] [] cpos) (tPop to' te) :=
  se_bm PySem.F.plainAttrs_list PySem.F.slot_list_pop PySem.F.type_list_pop mt_rPop ho (sa_cons he sa_nil hs) hK hbase hfew hline hs hplain
def tBm0 (r : W → List W → Heap2 → Q2 → Prop) (to' : T2) : T2 := fun env M Q E => to' env M (fun w M1 => (listOf M1 w).isSome = true ∧ r w [] M1 Q) E
theorem se_bm0 {name : Str} {id : String} {r : W → List W → Heap2 → Q2 → Prop} (pa : PlainAttrs "list") (slot : Slot "list" name id) (hty : typeOf (.builtin id) = pure (.type "method_descriptor")) (hm : MtR X id (liftM G r)) (ho : SE G X Wx o to') (hK : X.K = G.K)
    (hbase : attributeBase o name X.env (eval o X.env) = eval o X.env) (hline : (apos.endLine == cpos.line) = true) : SE G X Wx (.Call (.Attribute o name apos) [] [] cpos) (tBm0 r to') := by
  refine pe_imp (pe_bm0 pa slot hty hm ho hbase hline) ?_
  rintro σ H Q ⟨g, env, M, Q0, E0, s, ev, tt, k, x⟩
  refine ⟨g, env, M, _, E0, s, ev, tt, fun w M1 h1 g1 v H1 k1 s1 r1 => ?_, x⟩
  obtain ⟨hl, h1⟩ := h1
  obtain ⟨ys, hy⟩ := Option.isSome_iff_exists.mp hl
  obtain ⟨q, vs, rfl, hq, _⟩ := listOf_rep hy s1 r1
  exact ⟨.inl ⟨rfl, vs, by rw [hK]; exact hq⟩, g1, M1, w, [], Q0, s1, r1, rfl, h1, fun w' M' h3 g' v' H' k3 s3 r3 => k w' M' h3 g' v' H' (k1.trans k3) s3 r3⟩
@[simp] def rUpd0 (f : List W → List W) : W → List W → Heap2 → Q2 → Prop := fun w ws M Q => match w, ws with
  | .ref a, [] => (match M a with
    | some (.flat (.lst xs)) => Q .non (upd2 M a (some (.flat (.lst (f xs)))))
    | _ => False)
  | _, _ => False
theorem mt_rReverse : MtR X "list.reverse" (liftM G (rUpd0 List.reverse)) := by
  refine mtR_imp (mt_reverse : MtR X "list.reverse" rReverse) ?_
  rintro x xs H Q ⟨g, M, w, ws, Q0, s, rx, rl, q, k⟩
  unfold rUpd0 at q
  split at q
  · rename_i a
    split at q
    · rename_i ys hm
      obtain ⟨_, vs, hv, rv⟩ := s.cell a _ hm
      obtain ⟨s2, k2⟩ := s.write (m' := .lst ys.reverse) (o := .lst vs.reverse) hm fun k2 => ⟨_, upd_same, (rv.keep k2.kz).reverse⟩
      exact ⟨a, vs, rx, rl, hv, k _ _ q g _ _ k2 s2 rfl⟩
    · exact q.elim
  · exact q.elim
theorem mt_rClear : MtR X "list.clear" (liftM G (rUpd0 fun _ => [])) := by
  refine mtR_imp (mt_clear : MtR X "list.clear" rClear) ?_
  rintro x xs H Q ⟨g, M, w, ws, Q0, s, rx, rl, q, k⟩
  unfold rUpd0 at q
  split at q
  · rename_i a
    split at q
    · rename_i ys hm
      obtain ⟨_, vs, hv, rv⟩ := s.cell a _ hm
      obtain ⟨s2, k2⟩ := s.write (m' := .lst []) (o := .lst []) hm fun k2 => ⟨_, upd_same, rfl⟩
      exact ⟨a, vs, rx, rl, hv, k _ _ q g _ _ k2 s2 rfl⟩
    · exact q.elim
  · exact q.elim
@[simp] def tReverse (to' : T2) : T2 := tBm0 (rUpd0 List.reverse) to'
@[simp] def tClear (to' : T2) : T2 := tBm0 (rUpd0 fun _ => []) to'
theorem se_reverse (ho : SE G X Wx o to') (hK : X.K = G.K := by rfl) (hbase : attributeBase o "reverse" X.env (eval o X.env) = eval o X.env := by rfl) (hline : (apos.endLine == cpos.line) = true := by rfl) :
    SE G X Wx (.Call (.Attribute o "reverse" apos) [] [] cpos) (tReverse to') := se_bm0 PySem.F.plainAttrs_list PySem.F.slot_list_reverse PySem.F.type_list_reverse mt_rReverse ho hK hbase hline
theorem se_clear (ho : SE G X Wx o to') (hK : X.K = G.K := by rfl) (hbase : attributeBase o "clear" X.env (eval o X.env) = eval o X.env := by rfl) (hline : (apos.endLine == cpos.line) = true := by rfl) :
    SE G X Wx (.Call (.Attribute o "clear" apos) [] [] cpos) (tClear to') := se_bm0 PySem.F.plainAttrs_list PySem.F.slot_list_clear PySem.F.type_list_clear mt_rClear ho hK hbase hline

@[simp] def rList2 : List W → Heap2 → Q2 → Prop := fun ws M Q => match ws with
  | [w] => (match seqOf M w with
    | some xs => Q (.lst xs) M
    | none => False)
  | _ => False
@[simp] def rListC : List W → Heap2 → Q2 → Prop := fun ws M Q => match ws with
  | [w] => (match seqOf M w with
    | some xs => ∀ p, M p = none → Q (.ref p) (upd2 M p (some (.flat (.lst xs))))
    | none => False)
  | _ => False
@[simp] def rTuple2 : List W → Heap2 → Q2 → Prop := fun ws M Q => match ws with
  | [w] => (match seqOf M w with
    | some xs => Q (.tup xs) M
    | none => False)
  | _ => False
theorem seqOf_rep {g : Gh} {M : Heap2} {H : Hp} {w : W} {v : V} {xs : List W} (e : seqOf M w = some xs) (s : Sim G g M H) (r : Rep G g.Z H w v) : ∃ p vs, v = .ref p ∧ (SqL G.K H p vs ∨ SqT G.K H p vs) ∧ RepL G g.Z H xs vs := by
  by_cases h : ∃ ys, w = .tup ys
  · obtain ⟨ys, rfl⟩ := h
    cases e
    obtain ⟨p, vs, e1, h1, r1⟩ := r
    exact ⟨p, vs, e1, .inr (SqT.of h1), r1⟩
  · have e' : listOf M w = some xs := by
      cases w <;> first | exact e | exact absurd ⟨_, rfl⟩ h
    obtain ⟨p, vs, e1, h1, r1⟩ := listOf_rep e' s r
    exact ⟨p, vs, e1, .inl h1, r1⟩
theorem call_rList (hK : X.K = G.K) : CallR X (.type "list") (liftRL G rList2) := by
  refine callR_imp call_list_of ?_
  rintro xs H Q ⟨g, M, ws, Q0, s, rl, q, k⟩
  unfold rList2 at q
  split at q
  · rename_i w
    split at q
    · rename_i ys hy
      obtain ⟨v, r, rfl, ra, rb⟩ := rl
      rw [show r = [] from rb]
      obtain ⟨p, vs, rfl, hp, rv⟩ := seqOf_rep hy s ra
      refine ⟨p, vs, rfl, hK ▸ hp, fun l hl => ?_⟩
      obtain ⟨sn, kn⟩ := s.newZ (o := .lst vs) hl
      exact k _ _ q _ _ _ kn sn ⟨l, vs, rfl, .inr rfl, upd_same, rv.keep kn.kz⟩
    · exact q.elim
  · exact q.elim
theorem call_rListC (hK : X.K = G.K) : CallR X (.type "list") (liftRL G rListC) := by
  refine callR_imp call_list_of ?_
  rintro xs H Q ⟨g, M, ws, Q0, s, rl, q, k⟩
  unfold rListC at q
  split at q
  · rename_i w
    split at q
    · rename_i ys hy
      obtain ⟨v, r, rfl, ra, rb⟩ := rl
      rw [show r = [] from rb]
      obtain ⟨p, vs, rfl, hp, rv⟩ := seqOf_rep hy s ra
      refine ⟨p, vs, rfl, hK ▸ hp, fun l hl => ?_⟩
      have kn := Keep.new (o := .lst vs) hl s
      obtain ⟨sn, kn'⟩ := s.alloc (m := .lst ys) (o := .lst vs) hl ⟨vs, upd_same, rv.keep kn.kz⟩
      exact k _ _ (q l (s.free hl).1) _ _ _ kn' sn rfl
    · exact q.elim
  · exact q.elim
theorem call_rTuple (hK : X.K = G.K) : CallR X (.type "tuple") (liftRL G rTuple2) := by
  refine callR_imp call_tuple_of ?_
  rintro xs H Q ⟨g, M, ws, Q0, s, rl, q, k⟩
  unfold rTuple2 at q
  split at q
  · rename_i w
    split at q
    · rename_i ys hy
      obtain ⟨v, r, rfl, ra, rb⟩ := rl
      rw [show r = [] from rb]
      by_cases h : ∃ zs, w = .tup zs
      · obtain ⟨zs, rfl⟩ := h
        cases hy
        obtain ⟨p, vs, rfl, hp, rv⟩ := ra
        exact ⟨p, vs, rfl, .inr ⟨SqT.of hp, k _ _ q g _ H (Keep.refl g H) s ⟨p, vs, rfl, hp, rv⟩⟩⟩
      · have e' : listOf M w = some ys := by
          cases w <;> first | exact hy | exact absurd ⟨_, rfl⟩ h
        obtain ⟨p, vs, rfl, hp, rv⟩ := listOf_rep e' s ra
        refine ⟨p, vs, rfl, .inl ⟨hK ▸ hp, fun l hl => ?_⟩⟩
        have kn := Keep.new (o := .tup vs) hl s
        exact k _ _ q g _ _ kn (s.new hl) ⟨l, vs, rfl, upd_same, rv.keep kn.kz⟩
    · exact q.elim
  · exact q.elim
theorem se_list (hg : Gl X "list") (hm : X.mg "list" = none) (ha : SA G X Wx (e :: es) t) (hK : X.K = G.K := by rfl) (he : starEach (e :: es) X.env = (false, eval e X.env) :: starEach es X.env := by rfl) (hpl : (backTo pos (starEach es X.env)).any (·.1) = false := by rfl) :
    SE G X Wx (.Call (.Name "list" p) (e :: es) [] pos) (tCB2 rList2 t) := se_callTy (call_rList hK) hg hm (by decide +kernel) ha (by decide) (by decide) he hpl
theorem se_listC (hg : Gl X "list") (hm : X.mg "list" = none) (ha : SA G X Wx (e :: es) t) (hK : X.K = G.K := by rfl) (he : starEach (e :: es) X.env = (false, eval e X.env) :: starEach es X.env := by rfl) (hpl : (backTo pos (starEach es X.env)).any (·.1) = false := by rfl) :
    SE G X Wx (.Call (.Name "list" p) (e :: es) [] pos) (tCB2 rListC t) := se_callTy (call_rListC hK) hg hm (by decide +kernel) ha (by decide) (by decide) he hpl
theorem se_tuple (hg : Gl X "tuple") (hm : X.mg "tuple" = none) (ha : SA G X Wx (e :: es) t) (hK : X.K = G.K := by rfl) (he : starEach (e :: es) X.env = (false, eval e X.env) :: starEach es X.env := by rfl) (hpl : (backTo pos (starEach es X.env)).any (·.1) = false := by rfl) :
    SE G X Wx (.Call (.Name "tuple" p) (e :: es) [] pos) (tCB2 rTuple2 t) := se_callTy (call_rTuple hK) hg hm (by decide +kernel) ha (by decide) (by decide) he hpl

abbrev TO2 := Env2 → Heap2 → (Option Int → Heap2 → Prop) → X2 → Prop
def liftO (G : Gm) (Wx : WX) (t : TO2) : TO := fun σ H Q => ∃ g env M Q0 E0, Sim G g M H ∧ EnvR G g.Z H env σ ∧ t env M Q0 E0 ∧ (∀ b M', Q0 b M' → ∀ g' H', Keep g H g' H' → Sim G g' M' H' → Q b H') ∧ ExOk G Wx g H E0
abbrev SO (G : Gm) (X : Cx) (Wx : WX) (e : Option Expr) (t : TO2) : Prop := PO X e (liftO G Wx t)
@[simp] def tNoPart2 : TO2 := fun _ M Q _ => Q none M
@[simp] def tPart2 (te : T2) : TO2 := fun env M Q E => te env M (fun w M1 => match w with
  | .int i => Q (some i) M1
  | _ => False) E
theorem po_imp {e : Option Expr} {t t' : TO} (h : PO X e t) (i : ∀ σ H Q, t' σ H Q → t σ H Q) : PO X e t' := ⟨fun pins s σ H Q I q => h.run pins s σ H Q I (i _ _ _ q)⟩
theorem so_none : SO G X Wx none tNoPart2 := by
  refine po_imp po_none ?_
  rintro σ H Q ⟨g, env, M, Q0, E0, s, ev, tt, k, x⟩
  exact k _ _ tt g H (Keep.refl g H) s
theorem so_some (h : SE G X Wx e te) : SO G X Wx (some e) (tPart2 te) := by
  refine po_imp (po_some h) ?_
  rintro σ H Q ⟨g, env, M, Q0, E0, s, ev, tt, k, x⟩
  refine ⟨g, env, M, _, E0, s, ev, tt, fun w M1 h1 g1 v H1 k1 s1 r1 => ?_, x⟩
  cases w <;> try exact h1.elim
  exact ⟨_, r1, k _ _ h1 g1 H1 k1 s1⟩
/-- the places lo and hi of a slice -/
@[simp] def cutW (xs : List W) (lo hi : Option Int) : List W := (xs.drop (HT.sIx xs.length 0 lo)).take (HT.sIx xs.length xs.length hi - HT.sIx xs.length 0 lo)
@[simp] def cutT (s : String) (lo hi : Option Int) : String := String.ofList ((s.toList.drop (HT.sIx s.length 0 lo)).take (HT.sIx s.length s.length hi - HT.sIx s.length 0 lo))
theorem cut_rep {Z : Addr → Prop} {H : Hp} {xs : List W} {vs : List V} (r : RepL G Z H xs vs) (lo hi : Option Int) : RepL G Z H (cutW xs lo hi) (cutV vs lo hi) := by
  unfold cutW cutV
  rw [r.length]
  exact (r.drop _).take _
def rSl2 (fz : Bool) (x : W) (lo hi : Option Int) (M : Heap2) (Q : Q2) : Prop := match x with
  | .str s => s.length ≤ 10000000 ∧ Q (.str (cutT s lo hi)) M
  | .tup xs => Q (.tup (cutW xs lo hi)) M
  | x => match listOf M x with
    | some xs => if fz = true then Q (.lst (cutW xs lo hi)) M else ∀ p, M p = none → Q (.ref p) (upd2 M p (some (.flat (.lst (cutW xs lo hi)))))
    | none => False
def tSl2' (fz : Bool) (te : T2) (tl th : TO2) : T2 := fun env M Q E => te env M (fun x M1 => tl env M1 (fun l M2 => th env M2 (fun u M3 => rSl2 fz x l u M3 Q) E) E) E
@[simp] abbrev tSl2 := tSl2' true
@[simp] abbrev tSlC := tSl2' false
def liftSl (G : Gm) (r : W → Option Int → Option Int → Heap2 → Q2 → Prop) : V → Option Int → Option Int → Hp → VK → Prop := fun x lo hi H Q => ∃ g M w Q0, Sim G g M H ∧ Rep G g.Z H w x ∧ r w lo hi M Q0 ∧
  ∀ w M', Q0 w M' → ∀ g' v H', Keep g H g' H' → Sim G g' M' H' → Rep G g'.Z H' w v → Q v H'
theorem slR_imp {r r' : V → Option Int → Option Int → Hp → VK → Prop} (h : SlR X r) (i : ∀ x lo hi H Q, r' x lo hi H Q → r x lo hi H Q) : SlR X r' := fun pins s σ H x v vl vu lo hi sl Q I rx hs pl pu q => h pins s σ H x v vl vu lo hi sl Q I rx hs pl pu (i _ _ _ _ _ q)
theorem slR_or {r1 r2 : V → Option Int → Option Int → Hp → VK → Prop} (h1 : SlR X r1) (h2 : SlR X r2) : SlR X (fun x lo hi H Q => r1 x lo hi H Q ∨ r2 x lo hi H Q) := fun pins s σ H x v vl vu lo hi sl Q I rx hs pl pu q =>
  q.elim (h1 pins s σ H x v vl vu lo hi sl Q I rx hs pl pu) (h2 pins s σ H x v vl vu lo hi sl Q I rx hs pl pu)
theorem ofString_cut (s : String) (lo hi : Option Int) : cutS (Str.ofString s) lo hi = Str.ofString (cutT s lo hi) := by
  unfold cutS cutT
  rw [Str.ofString_eq_toList (String.ofList _), ofString_cps, ofString_len]
  simp only [String.toList_ofList, List.map_take, List.map_drop]
theorem sl_all (hK : X.K = G.K) (fz : Bool) : SlR X (liftSl G (rSl2 fz)) := by
  refine slR_imp (slR_or (sl_list (X := X)) (slR_or (sl_tupA (X := X)) sl_str)) ?_
  rintro x lo hi H Q ⟨g, M, w, Q0, s, rx, q, k⟩
  have gen : ∀ xs, listOf M w = some xs → (if fz = true then Q0 (.lst (cutW xs lo hi)) M else ∀ p, M p = none → Q0 (.ref p) (upd2 M p (some (.flat (.lst (cutW xs lo hi)))))) → rSlL X.K x lo hi H Q := fun xs e q => by
    obtain ⟨p, vs, rfl, h1, r1⟩ := listOf_rep e s rx
    refine ⟨p, vs, rfl, by rw [hK]; exact h1, fun l hl => ?_⟩
    cases fz with
    | true =>
      obtain ⟨sn, kn⟩ := s.newZ (o := .lst (cutV vs lo hi)) hl
      exact k _ _ q _ _ _ kn sn ⟨l, _, rfl, .inr rfl, upd_same, cut_rep (r1.keep kn.kz) lo hi⟩
    | false =>
      have kn := Keep.new (o := .lst (cutV vs lo hi)) hl s
      obtain ⟨sn, kn'⟩ := s.alloc (m := .lst (cutW xs lo hi)) (o := .lst (cutV vs lo hi)) hl ⟨_, upd_same, cut_rep (r1.keep kn.kz) lo hi⟩
      exact k _ _ (q l (s.free hl).1) _ _ _ kn' sn rfl
  cases w with
  | str t =>
    have q' : t.length ≤ 10000000 ∧ Q0 (.str (cutT t lo hi)) M := q
    exact .inr (.inr ⟨_, rx, by rw [ofString_len]; exact big_size q'.1, by rw [ofString_cut]; exact k _ _ q'.2 g _ H (Keep.refl g H) s rfl⟩)
  | tup xs =>
    have q' : Q0 (.tup (cutW xs lo hi)) M := q
    obtain ⟨p, vs, rfl, h1, r1⟩ := rx
    refine .inr (.inl ⟨p, vs, rfl, SqT.of h1, fun hw => ?_, fun hw l hl => ?_⟩)
    · have e : cutW xs lo hi = xs := by
        unfold cutW
        rw [← r1.length, hw.1, hw.2, r1.length]
        simp
      rw [e] at q'
      exact k _ _ q' g _ H (Keep.refl g H) s ⟨p, vs, rfl, h1, r1⟩
    · have kn := Keep.new (o := .tup (cutV vs lo hi)) hl s
      exact k _ _ q' g _ _ kn (s.new hl) ⟨l, _, rfl, upd_same, cut_rep (r1.keep kn.kz) lo hi⟩
  | lst xs => exact .inl (gen xs rfl q)
  | scr xs => exact .inl (gen xs rfl q)
  | ref a =>
    have q' : (match listOf M (.ref a) with | some xs => (if fz = true then Q0 (.lst (cutW xs lo hi)) M else ∀ p, M p = none → Q0 (.ref p) (upd2 M p (some (.flat (.lst (cutW xs lo hi)))))) | none => False) := q
    split at q'
    · rename_i xs e; exact .inl (gen xs e q')
    · exact q'.elim
  | non => exact q.elim
  | bl _ => exact q.elim
  | int _ => exact q.elim
  | ins _ _ => exact q.elim
  | exn _ => exact q.elim
  | ktp _ => exact q.elim
theorem se_sl' {fz : Bool} {lo hi : Option Expr} {tl th : TO2} {p2 : Pos} (he : SE G X Wx e te) (hl : SO G X Wx lo tl) (hu : SO G X Wx hi th) (hK : X.K = G.K) : SE G X Wx (.Subscript e (.Slice lo hi none p2) pos) (tSl2' fz te tl th) := by
  refine pe_imp (pe_slice (sl_all hK fz) he hl hu) ?_
  rintro σ H Q ⟨g, env, M, Q0, E0, s, ev, tt, k, x⟩
  refine ⟨g, env, M, _, E0, s, ev, tt, fun w M1 h1 g1 v H1 k1 s1 r1 => ?_, x⟩
  refine ⟨g1, env, M1, _, E0, s1, ev.keep k1.kz, h1, fun l M2 h2 g2 H2 k2 s2 => ?_, x.keep k1⟩
  refine ⟨g2, env, M2, _, E0, s2, (ev.keep k1.kz).keep k2.kz, h2, fun u M3 h3 g3 H3 k3 s3 => ?_, (x.keep k1).keep k2⟩
  exact ⟨g3, M3, w, Q0, s3, (r1.keep k2.kz).keep k3.kz, h3, fun w' M' h4 g' v' H' k4 s4 r4 => k w' M' h4 g' v' H' (((k1.trans k2).trans k3).trans k4) s4 r4⟩
theorem se_sl {lo hi : Option Expr} {tl th : TO2} {p2 : Pos} (he : SE G X Wx e te) (hl : SO G X Wx lo tl) (hu : SO G X Wx hi th) (hK : X.K = G.K := by rfl) : SE G X Wx (.Subscript e (.Slice lo hi none p2) pos) (tSl2 te tl th) := se_sl' he hl hu hK
theorem se_slC {lo hi : Option Expr} {tl th : TO2} {p2 : Pos} (he : SE G X Wx e te) (hl : SO G X Wx lo tl) (hu : SO G X Wx hi th) (hK : X.K = G.K := by rfl) : SE G X Wx (.Subscript e (.Slice lo hi none p2) pos) (tSlC te tl th) := se_sl' he hl hu hK
end
end LW

namespace LW
open PySem L2 PyProof.Rows
section
variable {X : Cx} {G : Gm} {Wx : WX} {p pos apos cpos : Pos} {e o a b i : Expr} {es : List Expr} {ta tb te to' ti tv : T2} {t : TA2}
abbrev RS2 := W → W → W → Heap2 → (Heap2 → Prop) → Prop
def liftSet (G : Gm) (r : RS2) : TSet := fun o i v H Q => ∃ g M wo wi wv Q0, Sim G g M H ∧ Rep G g.Z H wo o ∧ Rep G g.Z H wi i ∧ Rep G g.Z H wv v ∧ r wo wi wv M Q0 ∧
  ∀ M', Q0 M' → ∀ g' H', Keep g H g' H' → Sim G g' M' H' → Q H'
def rSetL2 : RS2 := fun o i v M Q => match o, i with
  | .ref a, .int k => (match M a with
    | some (.flat (.lst xs)) => (match ixN xs.length k with
      | some j => Q (upd2 M a (some (.flat (.lst (xs.set j v)))))
      | none => False)
    | _ => False)
  | _, _ => False
theorem pset_imp {r r' : TSet} (h : PSet X r) (k : ∀ o i v H Q, r' o i v H Q → r o i v H Q) : PSet X r' := fun pins s σ H o i v ov iv u Q I ro ri rv q => h pins s σ H o i v ov iv u Q I ro ri rv (k _ _ _ _ _ q)
theorem pset_or {r1 r2 : TSet} (h1 : PSet X r1) (h2 : PSet X r2) : PSet X (fun o i v H Q => r1 o i v H Q ∨ r2 o i v H Q) := fun pins s σ H o i v ov iv u Q I ro ri rv q => q.elim (h1 pins s σ H o i v ov iv u Q I ro ri rv) (h2 pins s σ H o i v ov iv u Q I ro ri rv)
theorem set_list2 : PSet X (liftSet G rSetL2) := by
  refine pset_imp set_list ?_
  rintro o i v H Q ⟨g, M, wo, wi, wv, Q0, s, ro, ri, rv, q, k⟩
  unfold rSetL2 at q
  split at q
  · rename_i a kk
    split at q
    · rename_i xs hm
      split at q
      · rename_i j hj
        obtain ⟨_, vs, hv, r⟩ := s.cell a _ hm
        obtain ⟨s2, k2⟩ := s.write (m' := .lst (xs.set j wv)) (o := .lst (vs.set j v)) hm fun k2 => ⟨_, upd_same, RepL.set (rv.keep k2.kz) j (r.keep k2.kz)⟩
        exact ⟨a, vs, kk, j, ro, ri, hv, by rw [r.length]; exact hj, k _ q g _ k2 s2⟩
      · exact q.elim
    · exact q.elim
  · exact q.elim
def tSetIx (r : RS2) (to' ti tv : T2) : TS2 := fun D env M => tv env M (fun v M1 => to' env M1 (fun o M2 => ti env M2 (fun i M3 => r o i v M3 (fun M4 => D.nx env M4)) D.ex) D.ex) D.ex
theorem ss_setix' {r : RS2} {value : Expr} {pos' : Pos} (hr : PSet X (liftSet G r)) (ho : SE G X Wx o to') (hi : SE G X Wx i ti) (hv : SE G X Wx value tv) (hs : swapsWithSole [.Subscript o i pos'] value pos.line X.env = pure false) (hw : swappedStores [.Subscript o i pos'] value X.env = pure none)
    (h1 : (assignEach [.Subscript o i pos'] X.env).map (·.2) = [assign (.Subscript o i pos') X.env])
    (ha : ∀ v, assign (.Subscript o i pos') X.env v = (do
      let ov ← holding [v] (eval o X.env)
      let iv ← holding [v, ov] (eval i X.env)
      standAt pos'
      holding [v, ov, iv] (setItem ov iv v)
      release [v, ov, iv] [])) : SS G X Wx (.Assign [.Subscript o i pos'] value pos) (tSetIx r to' ti tv) := by
  refine ps_imp (ps_asg hv (pg_sub ho hi hr ha) hs hw h1) ?_
  rintro D σ H h
  obtain ⟨g, env, M, D0, s, ev, tt, r⟩ := liftS_iff.mp h
  refine ⟨g, env, M, _, D0.ex, s, ev, tt, fun w M1 h1 g1 v H1 k1 s1 r1 => ?_, r.ex⟩
  refine ⟨g1, env, M1, _, D0.ex, s1, ev.keep k1.kz, h1, fun wo M2 h2 g2 vo H2 k2 s2 r2 => ?_, r.ex.keep k1⟩
  refine ⟨g2, env, M2, _, D0.ex, s2, (ev.keep k1.kz).keep k2.kz, h2, fun wi M3 h3 g3 vi H3 k3 s3 r3 => ?_, (r.ex.keep k1).keep k2⟩
  refine ⟨g3, M3, wo, wi, w, _, s3, r2.keep k3.kz, r3, (r1.keep k2.kz).keep k3.kz, h3, fun M4 h4 g4 H4 k4 s4 => ?_⟩
  have kk := ((k1.trans k2).trans k3).trans k4
  exact r.nx _ _ h4 g4 _ H4 kk s4 (ev.keep kk.kz)
theorem ss_setixL {value : Expr} {pos' : Pos} (ho : SE G X Wx o to') (hi : SE G X Wx i ti) (hv : SE G X Wx value tv) (hs : swapsWithSole [.Subscript o i pos'] value pos.line X.env = pure false := by rfl) (hw : swappedStores [.Subscript o i pos'] value X.env = pure none := by rfl)
    (h1 : (assignEach [.Subscript o i pos'] X.env).map (·.2) = [assign (.Subscript o i pos') X.env] := by rfl)
    (ha : ∀ v, assign (.Subscript o i pos') X.env v = (do
      let ov ← holding [v] (eval o X.env)
      let iv ← holding [v, ov] (eval i X.env)
      standAt pos'
      holding [v, ov, iv] (setItem ov iv v)
      release [v, ov, iv] []) := by intro _; rfl) : SS G X Wx (.Assign [.Subscript o i pos'] value pos) (tSetIx rSetL2 to' ti tv) := ss_setix' set_list2 ho hi hv hs hw h1 ha

def enumW (k : Nat) : List W → List W
  | [] => []
  | x :: xs => .tup [.int (k : Int), x] :: enumW (k + 1) xs
theorem enumW_length : ∀ (xs : List W) k, (enumW k xs).length = xs.length
  | [], _ => rfl
  | x :: xs, k => by show (enumW (k + 1) xs).length + 1 = xs.length + 1; rw [enumW_length xs]
theorem enumW_get : ∀ (xs : List W) (k i : Nat), (enumW k xs)[i]? = xs[i]?.map fun x => W.tup [.int ((k + i : Nat) : Int), x]
  | [], _, i => by simp [enumW]
  | x :: xs, k, 0 => by simp [enumW]
  | x :: xs, k, i + 1 => by
    show (enumW (k + 1) xs)[i]? = xs[i]?.map _
    rw [enumW_get xs (k + 1) i]
    have : k + 1 + i = k + (i + 1) := by omega
    rw [this]
theorem pair_rep {g : Gh} {M : Heap2} {H : Hp} {T : Addr} {x y : W} {v u : V} (s : Sim G g M H) (hT : H T = none) (rx : Rep G g.Z H x v) (ry : Rep G g.Z H y u) :
    Keep g H g (upd H T (.tup [v, u])) ∧ Sim G g M (upd H T (.tup [v, u])) ∧ Rep G g.Z (upd H T (.tup [v, u])) (.tup [x, y]) (.ref T) := by
  have kn := Keep.new (o := .tup [v, u]) hT s
  exact ⟨kn, s.new hT, T, _, rfl, upd_same, v, _, rfl, rx.keep kn.kz, u, _, rfl, ry.keep kn.kz, rfl⟩
theorem itR_enum {g0 : Gh} {H0 : Hp} {a : Addr} {w : W} {xs : List W} (r0 : Rep G g0.Z H0 w (.ref a)) (hK : X.K = G.K) : ItR G (Ite X.K a) g0 H0 (enumW 0 xs) (fun M => listOf M w = some xs) := by
  intro g M H k s hc
  obtain ⟨p, vs, e1, h1, r1⟩ := listOf_rep hc s (r0.keep k)
  cases e1
  rw [hK]
  refine ⟨⟨vs, h1, by rw [r1.length, enumW_length]; exact Nat.le_refl _⟩, fun i x hx => ?_⟩
  rw [enumW_get] at hx
  obtain ⟨w0, hw, rfl⟩ := Option.map_eq_some_iff.mp hx
  obtain ⟨v, hv, rv⟩ := r1.get hw
  refine ⟨⟨vs, v, h1, hv⟩, fun u H' y => ?_⟩
  obtain ⟨T, x, rfl, hT, rfl, y⟩ := y
  have e : vs[i]? = some x := y vs h1
  rw [hv] at e
  cases e
  obtain ⟨k2, s2, r2⟩ := pair_rep s hT (x := .int ((0 + i : Nat) : Int)) (v := .int (i : Nat)) (by rw [Nat.zero_add]; exact rfl) rv
  exact ⟨g, k2, s2, r2⟩
def iEnumerate2 (t : TA2) : TI2 := fun env M R E => t env M (fun ws M1 => match ws with
  | [w] => (match listOf M1 w with
    | some xs => R (enumW 0 xs) (fun M' => listOf M' w = some xs) M1
    | none => False)
  | _ => False) E
theorem si_enumerate {elts : List Expr} {kk : Nat} {tpos : Pos} (hg : Gl X "enumerate") (hm : X.mg "enumerate" = none) (ha : SA G X Wx [e] t) (hK : X.K = G.K := by rfl) (hs : starEach [e] X.env = [(false, eval e X.env)] := by rfl) :
    SI G X Wx (.Tuple elts kk tpos) (.Call (.Name "enumerate" p) [e] [] pos) (iEnumerate2 t) := by
  refine ⟨fun pins s0 σ H R I h => (pi_enum hg hm ha hs).run pins s0 σ H R I ?_⟩
  obtain ⟨g, env, M, Q0, E0, s, ev, tt, k, x⟩ := h
  refine ⟨g, env, M, _, E0, s, ev, tt, fun ws M1 h1 g1 vs H1 k1 s1 r1 => ?_, x⟩
  split at h1
  · rename_i w
    split at h1
    · rename_i xs hx
      obtain ⟨v, r, rfl, ra, rb⟩ := r1
      rw [show r = [] from rb]
      obtain ⟨p, vs, rfl, hp, rl⟩ := listOf_rep hx s1 ra
      exact ⟨p, vs, rfl, hK ▸ hp, k _ _ _ h1 g1 _ H1 k1 s1 (itR_enum ra hK)⟩
    · exact h1.elim
  · exact h1.elim
def zipW : List W → List W → List W
  | x :: xs, y :: ys => .tup [x, y] :: zipW xs ys
  | _, _ => []
theorem zipW_length : ∀ xs ys : List W, (zipW xs ys).length = min xs.length ys.length
  | [], ys => by simp [zipW]
  | x :: xs, [] => by simp [zipW]
  | x :: xs, y :: ys => by
    show (zipW xs ys).length + 1 = min (xs.length + 1) (ys.length + 1)
    rw [zipW_length]; omega
theorem zipW_get : ∀ (xs ys : List W) (i : Nat) (z : W), (zipW xs ys)[i]? = some z → ∃ x y, xs[i]? = some x ∧ ys[i]? = some y ∧ z = .tup [x, y]
  | [], ys, i, z, h => by simp [zipW] at h
  | x :: xs, [], i, z, h => by simp [zipW] at h
  | x :: xs, y :: ys, 0, z, h => by
    have h' : some (W.tup [x, y]) = some z := h
    cases h'
    exact ⟨x, y, rfl, rfl, rfl⟩
  | x :: xs, y :: ys, i + 1, z, h => zipW_get xs ys i z h
theorem itR_zip {g0 : Gh} {H0 : Hp} {a b : Addr} {w u : W} {xs ys : List W} (r0 : Rep G g0.Z H0 w (.ref a)) (r0' : Rep G g0.Z H0 u (.ref b)) (hK : X.K = G.K) : ItR G (Itz X.K a b) g0 H0 (zipW xs ys) (fun M => listOf M w = some xs ∧ listOf M u = some ys) := by
  intro g M H k s hc
  obtain ⟨p, vs, e1, h1, r1⟩ := listOf_rep hc.1 s (r0.keep k)
  cases e1
  obtain ⟨p, us, e1, h2, r2⟩ := listOf_rep hc.2 s (r0'.keep k)
  cases e1
  rw [hK]
  refine ⟨⟨vs, us, h1, h2, by rw [r1.length, r2.length, zipW_length]; omega⟩, fun i z hz => ?_⟩
  obtain ⟨x, y, hx, hy, rfl⟩ := zipW_get xs ys i z hz
  obtain ⟨v, hv, rv⟩ := r1.get hx
  obtain ⟨v', hv', rv'⟩ := r2.get hy
  refine ⟨⟨vs, us, v, v', h1, h2, hv, hv'⟩, fun q H' y => ?_⟩
  obtain ⟨T, x, x', rfl, hT, rfl, y1, y2⟩ := y
  have e : vs[i]? = some x := y1 vs h1
  rw [hv] at e
  cases e
  have e : us[i]? = some x' := y2 us h2
  rw [hv'] at e
  cases e
  obtain ⟨k2, s2, r2⟩ := pair_rep s hT rv rv'
  exact ⟨g, k2, s2, r2⟩
theorem itR_zipT {g0 : Gh} {H0 : Hp} {a b : Addr} {vs us : List V} {xs ys : List W} (h1 : H0 a = some (.tup vs)) (h2 : H0 b = some (.tup us)) (r1 : RepL G g0.Z H0 xs vs) (r2 : RepL G g0.Z H0 ys us) : ItR G (RZ.ItzT X.K a b) g0 H0 (zipW xs ys) (fun _ => True) := by
  intro g M H k s hc
  have h1 : SqT X.K H a vs := SqT.of (k.tups _ _ h1)
  have h2 : SqT X.K H b us := SqT.of (k.tups _ _ h2)
  have r1 := r1.keep k
  have r2 := r2.keep k
  refine ⟨⟨vs, us, h1, h2, by rw [r1.length, r2.length, zipW_length]; omega⟩, fun i z hz => ?_⟩
  obtain ⟨x, y, hx, hy, rfl⟩ := zipW_get xs ys i z hz
  obtain ⟨v, hv, rv⟩ := r1.get hx
  obtain ⟨v', hv', rv'⟩ := r2.get hy
  refine ⟨⟨vs, us, v, v', h1, h2, hv, hv'⟩, fun q H' y => ?_⟩
  obtain ⟨T, x, x', rfl, hT, rfl, y1, y2⟩ := y
  have e : vs[i]? = some x := y1 vs h1
  rw [hv] at e
  cases e
  have e : us[i]? = some x' := y2 us h2
  rw [hv'] at e
  cases e
  obtain ⟨k2, s2, r2⟩ := pair_rep s hT rv rv'
  exact ⟨g, k2, s2, r2⟩
def iZip2 (t : TA2) : TI2 := fun env M R E => t env M (fun ws M1 => match ws with
  | [.tup xs, .tup ys] => R (zipW xs ys) (fun _ => True) M1
  | [w, u] => (match listOf M1 w, listOf M1 u with
    | some xs, some ys => R (zipW xs ys) (fun M' => listOf M' w = some xs ∧ listOf M' u = some ys) M1
    | _, _ => False)
  | _ => False) E
theorem si_zip {e2 : Expr} {elts : List Expr} {kk : Nat} {tpos : Pos} (hg : Gl X "zip") (hm : X.mg "zip" = none) (ha : SA G X Wx [e, e2] t) (hK : X.K = G.K := by rfl)
    (hs : starEach [e, e2] X.env = (false, eval e X.env) :: starEach [e2] X.env := by rfl) (hpl : (backTo pos (starEach [e2] X.env)).any (·.1) = false := by rfl) :
    SI G X Wx (.Tuple elts kk tpos) (.Call (.Name "zip" p) [e, e2] [] pos) (iZip2 t) := by
  refine ⟨fun pins s0 σ H R I h => (RZ.pi_zipA hg hm ha hs hpl).run pins s0 σ H R I ?_⟩
  obtain ⟨g, env, M, Q0, E0, s, ev, tt, k, x⟩ := h
  refine ⟨g, env, M, _, E0, s, ev, tt, fun ws M1 h1 g1 vs H1 k1 s1 r1 => ?_, x⟩
  split at h1
  · rename_i xs ys
    obtain ⟨v, r, rfl, ra, v', r', rfl, rb, rc⟩ := r1
    rw [show r' = [] from rc]
    obtain ⟨p, vs, rfl, hp, rl⟩ := ra
    obtain ⟨p', vs', rfl, hp', rl'⟩ := rb
    exact ⟨p, p', vs, vs', rfl, .inr ⟨SqT.of hp, SqT.of hp', k _ _ _ h1 g1 _ H1 k1 s1 (itR_zipT hp hp' rl rl')⟩⟩
  · rename_i w u _
    split at h1
    · rename_i xs ys hx hy
      obtain ⟨v, r, rfl, ra, v', r', rfl, rb, rc⟩ := r1
      rw [show r' = [] from rc]
      obtain ⟨p, vs, rfl, hp, rl⟩ := listOf_rep hx s1 ra
      obtain ⟨p', vs', rfl, hp', rl'⟩ := listOf_rep hy s1 rb
      exact ⟨p, p', vs, vs', rfl, .inl ⟨hK ▸ hp, hK ▸ hp', k _ _ _ h1 g1 _ H1 k1 s1 (itR_zip ra rb hK)⟩⟩
    · exact h1.elim
  · exact h1.elim
theorem rev_get {α : Type} (xs : List α) (i : Nat) (h : i < xs.length) : xs.reverse[i]? = xs[xs.length - 1 - i]? := by
  rw [List.getElem?_reverse h]
theorem itR_rev {g0 : Gh} {H0 : Hp} {a : Addr} {w : W} {xs : List W} (r0 : Rep G g0.Z H0 w (.ref a)) (hK : X.K = G.K) : ItR G (Itv X.K a xs.length) g0 H0 xs.reverse (fun M => listOf M w = some xs) := by
  intro g M H k s hc
  obtain ⟨p, vs, e1, h1, r1⟩ := listOf_rep hc s (r0.keep k)
  cases e1
  rw [hK]
  refine ⟨by show xs.length ≤ xs.reverse.length; simp, fun i x hx => ?_⟩
  have hi : i < xs.length := by
    have := (List.getElem?_eq_some_iff.mp hx).1
    simpa using this
  rw [rev_get xs i hi] at hx
  obtain ⟨v, hv, rv⟩ := r1.get hx
  refine ⟨⟨hi, vs, v, h1, hv⟩, fun u H' y => ?_⟩
  obtain ⟨rfl, y⟩ := y
  have e : vs[xs.length - 1 - i]? = some u := y vs h1
  rw [hv] at e
  cases e
  exact ⟨g, Keep.refl _ _, s, rv⟩
theorem itR_revT {g0 : Gh} {H0 : Hp} {a : Addr} {vs : List V} {xs : List W} (h1 : H0 a = some (.tup vs)) (r1 : RepL G g0.Z H0 xs vs) : ItR G (RT.ItvT X.K a xs.length) g0 H0 xs.reverse (fun _ => True) := by
  intro g M H k s hc
  have h1 : SqT X.K H a vs := SqT.of (k.tups _ _ h1)
  have r1 := r1.keep k
  refine ⟨by show xs.length ≤ xs.reverse.length; simp, fun i x hx => ?_⟩
  have hi : i < xs.length := by
    have := (List.getElem?_eq_some_iff.mp hx).1
    simpa using this
  rw [rev_get xs i hi] at hx
  obtain ⟨v, hv, rv⟩ := r1.get hx
  refine ⟨⟨hi, vs, v, h1, hv⟩, fun u H' y => ?_⟩
  obtain ⟨rfl, y⟩ := y
  have e : vs[xs.length - 1 - i]? = some u := y vs h1
  rw [hv] at e
  cases e
  exact ⟨g, Keep.refl _ _, s, rv⟩
def iReversed2 (t : T2) : TI2 := fun env M R E => t env M (fun w M1 => match w with
  | .tup xs => R xs.reverse (fun _ => True) M1
  | w => (match listOf M1 w with
    | some xs => R xs.reverse (fun M' => listOf M' w = some xs) M1
    | none => False)) E
theorem si_reversed {tg : Expr} (hg : Gl X "reversed") (hm : X.mg "reversed" = none) (he : SE G X Wx e te) (hK : X.K = G.K := by rfl) (hs : starEach [e] X.env = (false, eval e X.env) :: starEach [] X.env := by rfl) : SI G X Wx tg (.Call (.Name "reversed" p) [e] [] pos) (iReversed2 te) := by
  refine ⟨fun pins s0 σ H R I h => (RT.pi_revA hg hm he hs).run pins s0 σ H R I ?_⟩
  obtain ⟨g, env, M, Q0, E0, s, ev, tt, k, x⟩ := h
  refine ⟨g, env, M, _, E0, s, ev, tt, fun w M1 h1 g1 v H1 k1 s1 r1 => ?_, x⟩
  split at h1
  · obtain ⟨p, vs, rfl, hp, rl⟩ := r1
    exact ⟨p, vs, rfl, .inr ⟨SqT.of hp, rl.length.symm ▸ k _ _ _ h1 g1 _ H1 k1 s1 (itR_revT hp rl)⟩⟩
  · split at h1
    · rename_i xs hx
      obtain ⟨p, vs, rfl, hp, rl⟩ := listOf_rep hx s1 r1
      exact ⟨p, vs, rfl, .inl ⟨hK ▸ hp, rl.length.symm ▸ k _ _ _ h1 g1 _ H1 k1 s1 (itR_rev r1 hK)⟩⟩
    · exact h1.elim
theorem itR_str {g0 : Gh} {H0 : Hp} {z : String} : ItR G (Its (Str.ofString z)) g0 H0 (z.toList.map fun c => W.str (String.singleton c)) (fun _ => True) := by
  intro g M H k s _
  have hs : (Str.ofString z).cps.size = z.toList.length := by
    rw [← Array.length_toList, ofString_cps, List.length_map]
  refine ⟨by show (Str.ofString z).cps.size ≤ _; rw [hs]; simp, fun i x hx => ?_⟩
  rw [List.getElem?_map] at hx
  obtain ⟨c, hc, rfl⟩ := Option.map_eq_some_iff.mp hx
  refine ⟨by show i < (Str.ofString z).cps.size; rw [hs]; exact (List.getElem?_eq_some_iff.mp hc).1, fun v H' y => ?_⟩
  obtain ⟨rfl, n, hn, rfl⟩ := y
  refine ⟨g, Keep.refl _ _, s, ?_⟩
  show V.str _ = V.str _
  rw [ofString_single]
  rw [← Array.getElem?_toList, ofString_cps, List.getElem?_map, hc] at hn
  cases hn
  rfl
def iStr2 (te : T2) : TI2 := fun env M R E => te env M (fun w M1 => match w with
  | .str z => R (z.toList.map fun c => W.str (String.singleton c)) (fun _ => True) M1
  | _ => False) E
theorem si_str {tg : Expr} (he : SE G X Wx e te) : SI G X Wx tg e (iStr2 te) := by
  refine ⟨fun pins s0 σ H R I h => (pi_str he).run pins s0 σ H R I ?_⟩
  obtain ⟨g, env, M, Q0, E0, s, ev, tt, k, x⟩ := h
  refine ⟨g, env, M, _, E0, s, ev, tt, fun w M1 h1 g1 v H1 k1 s1 r1 => ?_, x⟩
  cases w <;> try exact h1.elim
  exact ⟨_, r1, k _ _ _ h1 g1 _ H1 k1 s1 itR_str⟩

@[simp] def rI1 (f : Int → W) : List W → Heap2 → Q2 → Prop := fun ws M Q => match ws with
  | [.int i] => Q (f i) M
  | _ => False
@[simp] def rI2w (f : Int → Int → W) : List W → Heap2 → Q2 → Prop := fun ws M Q => match ws with
  | [.int i, .int j] => Q (f i j) M
  | _ => False
@[simp] abbrev rAbs2 : List W → Heap2 → Q2 → Prop := rI1 fun i => .int (if i < 0 then -i else i)
@[simp] abbrev rMax2 : List W → Heap2 → Q2 → Prop := rI2w fun i j => .int (if j > i then j else i)
@[simp] abbrev rMin2 : List W → Heap2 → Q2 → Prop := rI2w fun i j => .int (if j < i then j else i)
@[simp] def rDivmod2 : List W → Heap2 → Q2 → Prop := fun ws M Q => match ws with
  | [.int i, .int j] => CDiv i j ∧ Q (.tup [.int (i / j), .int (i % j)]) M
  | _ => False
@[simp] def rIntB2 : List W → Heap2 → Q2 → Prop := fun ws M Q => match ws with
  | [.int i] => Q (.int i) M
  | [.bl b] => Q (.int (if b then 1 else 0)) M
  | _ => False
theorem call_rAbs : CallR X (.builtin "abs") (liftRL G rAbs2) := by
  refine callR_imp call_abs ?_
  rintro xs H Q ⟨g, M, ws, Q0, s, rl, q, k⟩
  unfold rAbs2 rI1 at q
  split at q
  · obtain ⟨v, r, rfl, ra, rb⟩ := rl
    rw [show r = [] from rb, show v = _ from ra]
    exact ⟨_, rfl, k _ _ q g _ H (Keep.refl g H) s rfl⟩
  · exact q.elim
theorem call_rMax (hc : X.calm = true) : CallR X (.builtin "max") (liftRL G rMax2) := by
  refine callR_imp (call_max2 hc) ?_
  rintro xs H Q ⟨g, M, ws, Q0, s, rl, q, k⟩
  unfold rMax2 rI2w at q
  split at q
  · obtain ⟨v, r, rfl, ra, v', r', rfl, rb, rc⟩ := rl
    rw [show r' = [] from rc, show v = _ from ra, show v' = _ from rb]
    exact ⟨_, _, rfl, k _ _ q g _ H (Keep.refl g H) s rfl⟩
  · exact q.elim
theorem call_rMin (hc : X.calm = true) : CallR X (.builtin "min") (liftRL G rMin2) := by
  refine callR_imp (call_min2 hc) ?_
  rintro xs H Q ⟨g, M, ws, Q0, s, rl, q, k⟩
  unfold rMin2 rI2w at q
  split at q
  · obtain ⟨v, r, rfl, ra, v', r', rfl, rb, rc⟩ := rl
    rw [show r' = [] from rc, show v = _ from ra, show v' = _ from rb]
    exact ⟨_, _, rfl, k _ _ q g _ H (Keep.refl g H) s rfl⟩
  · exact q.elim
theorem call_rDivmod : CallR X (.builtin "divmod") (liftRL G rDivmod2) := by
  refine callR_imp call_divmod ?_
  rintro xs H Q ⟨g, M, ws, Q0, s, rl, q, k⟩
  unfold rDivmod2 at q
  split at q
  · obtain ⟨v, r, rfl, ra, v', r', rfl, rb, rc⟩ := rl
    rw [show r' = [] from rc, show v = _ from ra, show v' = _ from rb]
    refine ⟨_, _, rfl, q.1, fun p hp => ?_⟩
    obtain ⟨k2, s2, r2⟩ := pair_rep s hp (x := .int _) (y := .int _) rfl rfl
    exact k _ _ q.2 g _ _ k2 s2 r2
  · exact q.elim
theorem call_rInt : CallR X (.type "int") (liftRL G rIntB2) := by
  refine callR_imp call_int1 ?_
  rintro xs H Q ⟨g, M, ws, Q0, s, rl, q, k⟩
  unfold rIntB2 at q
  split at q
  · obtain ⟨v, r, rfl, ra, rb⟩ := rl
    rw [show r = [] from rb, show v = _ from ra]
    exact .inl ⟨_, rfl, k _ _ q g _ H (Keep.refl g H) s rfl⟩
  · obtain ⟨v, r, rfl, ra, rb⟩ := rl
    rw [show r = [] from rb, show v = _ from ra]
    exact .inr ⟨_, rfl, k _ _ q g _ H (Keep.refl g H) s rfl⟩
  · exact q.elim
theorem se_abs (hg : Gl X "abs") (hm : X.mg "abs" = none) (ha : SA G X Wx (e :: es) t) (he : starEach (e :: es) X.env = (false, eval e X.env) :: starEach es X.env := by rfl) (hpl : (backTo pos (starEach es X.env)).any (·.1) = false := by rfl) :
    SE G X Wx (.Call (.Name "abs" p) (e :: es) [] pos) (tCB2 rAbs2 t) := se_callB call_rAbs hg hm (by decide +kernel) ha (by decide) (by decide) he hpl
theorem se_max2 (hg : Gl X "max") (hm : X.mg "max" = none) (ha : SA G X Wx (e :: es) t) (hc : X.calm = true := by rfl) (he : starEach (e :: es) X.env = (false, eval e X.env) :: starEach es X.env := by rfl) (hpl : (backTo pos (starEach es X.env)).any (·.1) = false := by rfl) :
    SE G X Wx (.Call (.Name "max" p) (e :: es) [] pos) (tCB2 rMax2 t) := se_callB (call_rMax hc) hg hm (by decide +kernel) ha (by decide) (by decide) he hpl
theorem se_min2 (hg : Gl X "min") (hm : X.mg "min" = none) (ha : SA G X Wx (e :: es) t) (hc : X.calm = true := by rfl) (he : starEach (e :: es) X.env = (false, eval e X.env) :: starEach es X.env := by rfl) (hpl : (backTo pos (starEach es X.env)).any (·.1) = false := by rfl) :
    SE G X Wx (.Call (.Name "min" p) (e :: es) [] pos) (tCB2 rMin2 t) := se_callB (call_rMin hc) hg hm (by decide +kernel) ha (by decide) (by decide) he hpl
theorem se_divmod (hg : Gl X "divmod") (hm : X.mg "divmod" = none) (ha : SA G X Wx (e :: es) t) (he : starEach (e :: es) X.env = (false, eval e X.env) :: starEach es X.env := by rfl) (hpl : (backTo pos (starEach es X.env)).any (·.1) = false := by rfl) :
    SE G X Wx (.Call (.Name "divmod" p) (e :: es) [] pos) (tCB2 rDivmod2 t) := se_callB call_rDivmod hg hm (by decide +kernel) ha (by decide) (by decide) he hpl
theorem se_intb (hg : Gl X "int") (hm : X.mg "int" = none) (ha : SA G X Wx (e :: es) t) (he : starEach (e :: es) X.env = (false, eval e X.env) :: starEach es X.env := by rfl) (hpl : (backTo pos (starEach es X.env)).any (·.1) = false := by rfl) :
    SE G X Wx (.Call (.Name "int" p) (e :: es) [] pos) (tCB2 rIntB2 t) := se_callTy call_rInt hg hm (by decide +kernel) ha (by decide) (by decide) he hpl
end
end LW

namespace LW
open PySem L2 PyProof.Rows
section
variable {chk : Heap2 → Prop} {gt : TG2} {tt : TT2} {te : T2} {tb : TS2} {D : Ends2}
theorem lcI_filt {M : Heap2} {env : Env2} {R : List W → Heap2 → Prop} (p : W → Bool) (f : W → W) (hchk : chk M) : ∀ (xs acc : List W),
    (∀ x ∈ xs, ∀ (K : W → Heap2 → Prop) (K' : Heap2 → Prop), (if p x = true then K (f x) M else K' M) → gt x env M fun e2 M2 => tt e2 M2 (fun b M3 => if b = true then te e2 M3 K (fun _ _ _ => False) else K' M3) (fun _ _ _ => False)) →
    acc.length + xs.length < 10000000 → R (acc ++ (xs.filter p).map f) M → tLcI chk gt tt te env xs acc M R
  | [], acc, _, _, hR => ⟨hchk, by simpa using hR⟩
  | x :: xs, acc, hx, hl, hR => by
    rw [List.length_cons] at hl
    refine ⟨hchk, hx x (List.mem_cons_self ..) _ _ ?_⟩
    cases h : p x with
    | true =>
      rw [if_pos rfl]
      refine ⟨by omega, lcI_filt p f hchk xs _ (fun y hy => hx y (List.mem_cons_of_mem _ hy)) (by rw [List.length_append]; show acc.length + 1 + _ < _; omega) ?_⟩
      rw [List.filter_cons, if_pos h, List.map_cons] at hR
      simpa using hR
    | false =>
      rw [if_neg (by simp)]
      refine lcI_filt p f hchk xs acc (fun y hy => hx y (List.mem_cons_of_mem _ hy)) (by omega) ?_
      rw [List.filter_cons, if_neg (by simp [h])] at hR
      exact hR
theorem lcI_map {M : Heap2} {env : Env2} {R : List W → Heap2 → Prop} (f : W → W) (xs acc : List W) (hchk : chk M)
    (hx : ∀ x ∈ xs, ∀ (K : W → Heap2 → Prop), K (f x) M → gt x env M fun e2 M2 => te e2 M2 K (fun _ _ _ => False))
    (hl : acc.length + xs.length < 10000000) (hR : R (acc ++ xs.map f) M) : tLcI chk gt tYes2 te env xs acc M R := by
  refine lcI_filt (fun _ => true) f hchk xs acc (fun x hm K K' h => ?_) hl (by rw [List.filter_eq_self.mpr fun _ _ => rfl]; exact hR)
  have := hx x hm K (by simpa using h)
  simpa using this
/-- a for over numbers -/
theorem forR_ind (I : Int → Env2 → Heap2 → Prop) (hi : Int) (h0 : ∀ env M, I hi env M → chk M ∧ D.nx env M)
    (hs : ∀ i env M (K : Env2 → Heap2 → Prop), i < hi → I i env M → (∀ e M, I (i + 1) e M → K e M) → chk M ∧ gt (.int i) env M fun e1 M1 => tb { D with nx := K, ct := K, bk := D.nx } e1 M1) :
    ∀ (n : Nat) (lo : Int) env M, lo + n = hi → I lo env M → tForI chk gt tb (intsW lo n) D env M
  | 0, lo, env, M, e, h => by
    have : lo = hi := by omega
    subst this
    exact h0 env M h
  | n + 1, lo, env, M, e, h => hs lo env M _ (by omega) h fun e' M' h' => forR_ind I hi h0 hs n (lo + 1) e' M' (by omega) h'
theorem intsW_eq : ∀ (n : Nat) (lo : Int), intsW lo n = (List.range n).map fun i : Nat => W.int (lo + i)
  | 0, lo => rfl
  | n + 1, lo => by
    rw [List.range_succ_eq_map, List.map_cons, List.map_map]
    show W.int lo :: intsW (lo + 1) n = _
    rw [intsW_eq n (lo + 1)]
    congr 1
    · simp
    · apply List.map_congr_left
      intro i _
      show W.int _ = W.int _
      congr 1
      show lo + 1 + (i : Int) = lo + ((i + 1 : Nat) : Int)
      omega
theorem mem_intsW {x : W} {n : Nat} {lo : Int} (h : x ∈ intsW lo n) : ∃ i : Int, x = .int i ∧ lo ≤ i ∧ i < lo + n := by
  rw [intsW_eq] at h
  obtain ⟨i, hi, rfl⟩ := List.mem_map.mp h
  rw [List.mem_range] at hi
  exact ⟨_, rfl, by omega, by omega⟩
theorem intsW_map {α : Type} (f : W → α) (n : Nat) (lo : Int) : (intsW lo n).map f = (List.range n).map fun i : Nat => f (.int (lo + i)) := by
  rw [intsW_eq, List.map_map]; rfl
theorem atI_nat {α : Type} (xs : List α) (k : Nat) (h : k < xs.length) : atI xs (k : Int) = some xs[k] := by
  unfold atI ixN
  simp [h]
theorem atI_int {α : Type} (xs : List α) (k : Int) (h0 : 0 ≤ k) (h : k < xs.length) : atI xs k = xs[k.toNat]? := by
  obtain ⟨n, rfl⟩ := Int.eq_ofNat_of_zero_le h0
  unfold atI ixN
  have : n < xs.length := by omega
  simp [this]
theorem ixN_int (n : Nat) (k : Int) (h0 : 0 ≤ k) (h : k < n) : ixN n k = some k.toNat := by
  unfold ixN
  simp [h0, h]
end
/-- numbers of any list -/
theorem atI_ints (ns : List Int) (k : Nat) (h : k < ns.length) : atI (ns.map W.int) (k : Int) = some (.int ns[k]) := by
  rw [atI_nat _ _ (by simpa using h)]
  simp
/-- a while: its measure and what holds at each turn -/
theorem while_ind {c : TT2} {tb : TS2} {D : Ends2} (I : Nat → Env2 → Heap2 → Prop) (m0 : Nat) {env : Env2} {M : Heap2} (h0 : I m0 env M)
    (hs : ∀ m env M, I m env M → c env M (fun b M1 => if b = true then tb { D with nx := fun e M => ∃ m', m' < m ∧ I m' e M, ct := fun e M => ∃ m', m' < m ∧ I m' e M, bk := D.nx } env M1 else D.nx env M1) D.ex) : tWhile2 c tb D env M := ⟨I, ⟨m0, h0⟩, hs⟩
end LW

namespace LW
open PySem L2 PyProof.Rows
section
variable {X : Cx} {G : Gm} {Wx : WX} {p pos apos cpos : Pos} {e o a b c i : Expr} {es : List Expr} {ta tb tc te to' ti tv : T2} {t : TA2}
@[simp] def tChain2 (r r' : R22) (ta tb tc : T2) : T2 := fun env M Q E => ta env M (fun x M1 => tb env M1 (fun y M2 => r x y M2 (fun z M3 => match z with
  | .bl k => if k = true then tc env M3 (fun w M4 => r' y w M4 Q) E else Q (.bl false) M3
  | _ => False)) E) E
theorem chain2 {r r' : R22} : ∀ σ H Q, liftE G Wx (tChain2 r r' ta tb tc) σ H Q → tChain (liftR G r) (liftR G r') (liftE G Wx ta) (liftE G Wx tb) (liftE G Wx tc) σ H Q := by
  rintro σ H Q ⟨g, env, M, Q0, E0, s, ev, t, k, x⟩
  refine ⟨g, env, M, _, E0, s, ev, t, fun wx M1 h g1 vx H1 k1 s1 r1 => ?_, x⟩
  refine ⟨g1, env, M1, _, E0, s1, ev.keep k1.kz, h, fun wy M2 h2 g2 vy H2 k2 s2 r2 => ?_, x.keep k1⟩
  refine ⟨g2, M2, wx, wy, _, s2, r1.keep k2.kz, r2, h2, fun z M3 h3 g3 vz H3 k3 s3 r3 => ?_⟩
  cases z <;> try exact h3.elim
  rename_i kk
  refine ⟨kk, r3, ?_⟩
  have k123 := (k1.trans k2).trans k3
  cases kk with
  | false =>
    rw [if_neg (by simp)]
    exact k _ _ h3 g3 _ H3 k123 s3 rfl
  | true =>
    rw [if_pos rfl]
    refine ⟨g3, env, M3, _, E0, s3, ev.keep k123.kz, h3, fun wz M4 h4 g4 vz H4 k4 s4 r4 => ?_, x.keep k123⟩
    exact ⟨g4, M4, wy, wz, Q0, s4, (r2.keep k3.kz).keep k4.kz, r4, h4, fun w' M' h5 g' v' H' k5 s5 r5 => k w' M' h5 g' v' H' ((k123.trans k4).trans k5) s5 r5⟩
theorem se_chain (ha : SE G X Wx a ta) (hb : SE G X Wx b tb) (hc : SE G X Wx c tc) (hm : lastMarks [.LtE, .Lt] [b, c] = false := by with_unfolding_all rfl) : SE G X Wx (.Compare a [.LtE, .Lt] [b, c] pos) (tChain2 rLeW rLtW ta tb tc) :=
  pe_imp (pe_chain (opR_imp op_le rIntB_lift) (opR_imp op_lt rIntB_lift) ha hb hc hm) chain2
theorem sb_chain (ha : SE G X Wx a ta) (hb : SE G X Wx b tb) (hc : SE G X Wx c tc) (hm : lastMarks [.LtE, .Lt] [b, c] = false := by with_unfolding_all rfl) : SB G X Wx (.Compare a [.LtE, .Lt] [b, c] pos) (tTest2 (tChain2 rLeW rLtW ta tb tc)) := by
  refine pt_imp (pt_chain (opR_imp op_le (rIntB_lift (G := G))) (opR_imp op_lt (rIntB_lift (G := G))) ha hb hc hm) ?_
  rintro σ H Q ⟨g, env, M, Q0, E0, s, ev, t, k, x⟩
  refine chain2 (Wx := Wx) (G := G) (ta := ta) (tb := tb) (tc := tc) (r := rLeW) (r' := rLtW) σ H (fun v H1 => ∃ c, v = .bl c ∧ Q c H1) ⟨g, env, M, _, E0, s, ev, t, fun w M1 h1 g1 v H1 k1 s1 r1 => ?_, x⟩
  cases w <;> try exact h1.elim
  exact ⟨_, r1, k _ _ h1 g1 H1 k1 s1⟩

@[simp] def lstOf (M : Heap2) : W → Option (List W)
  | .lst xs => some xs
  | .ref a => match M a with
    | some (.flat (.lst xs)) => some xs
    | _ => none
  | _ => none
theorem lstOf_rep {g : Gh} {M : Heap2} {H : Hp} {w : W} {v : V} {xs : List W} (e : lstOf M w = some xs) (s : Sim G g M H) (r : Rep G g.Z H w v) : ∃ p vs, v = .ref p ∧ H p = some (.lst vs) ∧ RepL G g.Z H xs vs := by
  cases w <;> try (cases e; done)
  · cases e; obtain ⟨p, vs, e1, z, h, q⟩ := r; exact ⟨p, vs, e1, h, q⟩
  · rename_i a
    simp only [lstOf] at e
    split at e
    · rename_i ys hm
      cases e
      obtain ⟨_, vs, h, q⟩ := s.cell a _ hm
      exact ⟨a, vs, r, h, q⟩
    · cases e
@[simp] def rCatW (fz : Bool) : R22 := fun x y M Q => match lstOf M x, lstOf M y with
  | some xs, some ys => xs.length + ys.length ≤ 10000000 ∧ (if fz = true then Q (.lst (xs ++ ys)) M else ∀ p, M p = none → Q (.ref p) (upd2 M p (some (.flat (.lst (xs ++ ys))))))
  | _, _ => False
theorem op_rCat (fz : Bool) : OpR X (binaryOp .Add) (liftR G (rCatW fz)) := by
  refine opR_imp op_cat ?_
  rintro x y H Q ⟨g, M, wx, wy, Q0, s, rx, ry, q, k⟩
  unfold rCatW at q
  split at q
  · rename_i xs ys hx hy
    obtain ⟨p, vs, rfl, h1, r1⟩ := lstOf_rep hx s rx
    obtain ⟨p', us, rfl, h2, r2⟩ := lstOf_rep hy s ry
    refine ⟨p, p', vs, us, rfl, rfl, h1, h2, by rw [r1.length, r2.length]; exact big_size q.1, fun l hl => ?_⟩
    cases fz with
    | true =>
      obtain ⟨sn, kn⟩ := s.newZ (o := .lst (vs ++ us)) hl
      exact k _ _ q.2 _ _ _ kn sn ⟨l, _, rfl, .inr rfl, upd_same, (r1.append r2).keep kn.kz⟩
    | false =>
      have kn := Keep.new (o := .lst (vs ++ us)) hl s
      obtain ⟨sn, kn'⟩ := s.alloc (m := .lst (xs ++ ys)) (o := .lst (vs ++ us)) hl ⟨_, upd_same, (r1.append r2).keep kn.kz⟩
      exact k _ _ (q.2 l (s.free hl).1) _ _ _ kn' sn rfl
  · exact q.elim
theorem se_catC (ha : SE G X Wx a ta) (hb : SE G X Wx b tb) : SE G X Wx (.BinOp a .Add b pos) (tOp2 (rCatW false) ta tb) := se_bin (op_rCat false) ha hb
theorem se_cat (ha : SE G X Wx a ta) (hb : SE G X Wx b tb) : SE G X Wx (.BinOp a .Add b pos) (tOp2 (rCatW true) ta tb) := se_bin (op_rCat true) ha hb
/-- what is kept of cells -/
def Ext (M M' : Heap2) : Prop := ∀ a c, M a = some c → M' a = some c
theorem Ext.refl (M : Heap2) : Ext M M := fun _ _ h => h
theorem Ext.trans {M1 M2 M3 : Heap2} (a : Ext M1 M2) (b : Ext M2 M3) : Ext M1 M3 := fun p c h => b p c (a p c h)
theorem Ext.new {M : Heap2} {p : Addr} {c : Option Cell} (h : M p = none) : Ext M (upd2 M p c) := fun a d e => by
  rw [upd2_ne]
  · exact e
  · intro z; subst z; rw [h] at e; cases e
theorem upd2_upd2 {M : Heap2} {p : Addr} {c d : Option Cell} : upd2 (upd2 M p c) p d = upd2 M p d := by
  funext b
  unfold upd2
  split <;> rfl
theorem upd2_none {M : Heap2} {p : Addr} (h : M p = none) : upd2 M p none = M := by
  funext b
  unfold upd2
  split
  · rename_i e; rw [e, h]
  · rfl
end
end LW

namespace LW
open PySem L2 PyProof.Rows
mutual
theorem seen_pure {look : Addr → Option (List W)} : ∀ {w : W}, W.pure w = true → W.seen look w = some w
  | .non, _ => rfl
  | .bl _, _ => rfl
  | .int _, _ => rfl
  | .str _, _ => rfl
  | .tup xs, h => by
    simp only [W.pure] at h
    simp only [W.seen, seens_pure h]; rfl
  | .lst xs, h => by
    simp only [W.pure] at h
    simp only [W.seen, seens_pure h]; rfl
  | .scr xs, h => by
    simp only [W.pure] at h
    simp only [W.seen, seens_pure h]; rfl
  | .ins _ _, h => by simp [W.pure] at h
  | .ref _, h => by simp [W.pure] at h
  | .exn _, h => by simp [W.pure] at h
  | .ktp _, h => by simp [W.pure] at h
theorem seens_pure {look : Addr → Option (List W)} : ∀ {ws : List W}, W.pures ws = true → W.seens look ws = some ws
  | [], _ => rfl
  | x :: xs, h => by
    simp only [W.pures, Bool.and_eq_true] at h
    simp only [W.seens, seen_pure h.1, seens_pure h.2]; rfl
end
mutual
theorem eqv_refl : ∀ {w : W}, W.pure w = true → W.eqv w w = true
  | .non, _ => rfl
  | .bl _, _ => by simp [W.eqv]
  | .int _, _ => by simp [W.eqv]
  | .str _, _ => by simp [W.eqv]
  | .tup xs, h => by
    simp only [W.pure] at h
    simp only [W.eqv, eqvs_refl h]
  | .lst xs, h => by
    simp only [W.pure] at h
    simp only [W.eqv, eqvs_refl h]
  | .scr xs, h => by
    simp only [W.pure] at h
    simp only [W.eqv, eqvs_refl h]
  | .ins _ _, h => by simp [W.pure] at h
  | .ref _, h => by simp [W.pure] at h
  | .exn _, h => by simp [W.pure] at h
  | .ktp _, h => by simp [W.pure] at h
theorem eqvs_refl : ∀ {ws : List W}, W.pures ws = true → W.eqvs ws ws = true
  | [], _ => by simp [W.eqvs]
  | x :: xs, h => by
    simp only [W.pures, Bool.and_eq_true] at h
    simp only [W.eqvs, eqv_refl h.1, eqvs_refl h.2]; rfl
end
theorem pures_of {ws : List W} (h : ∀ x ∈ ws, W.pure x = true) : W.pures ws = true := by
  induction ws with
  | nil => rfl
  | cons x xs ih =>
    simp only [W.pures, Bool.and_eq_true]
    exact ⟨h x (List.mem_cons_self ..), ih fun y hy => h y (List.mem_cons_of_mem _ hy)⟩
theorem pures_mem {ws : List W} (h : W.pures ws = true) : ∀ x ∈ ws, W.pure x = true := by
  induction ws with
  | nil => intro x hx; cases hx
  | cons y ys ih =>
    simp only [W.pures, Bool.and_eq_true] at h
    intro x hx
    rcases List.mem_cons.mp hx with e | e
    · rw [e]; exact h.1
    · exact ih h.2 x e
theorem deps_of {ws : List W} {n : Nat} (h : ∀ x ∈ ws, W.dep x ≤ n) : W.deps ws ≤ n := by
  induction ws with
  | nil => exact Nat.zero_le _
  | cons x xs ih =>
    simp only [W.deps]
    have h1 := h x (List.mem_cons_self ..)
    have h2 := ih fun y hy => h y (List.mem_cons_of_mem _ hy)
    omega
theorem deps_mem {ws : List W} : ∀ x ∈ ws, W.dep x ≤ W.deps ws := by
  induction ws with
  | nil => intro x hx; cases hx
  | cons y ys ih =>
    intro x hx
    simp only [W.deps]
    rcases List.mem_cons.mp hx with e | e
    · rw [e]; omega
    · have := ih x e; omega
/-- a value that is told, and not deep -/
def Told (n : Nat) (w : W) : Prop := W.pure w = true ∧ W.dep w ≤ n
theorem Told.lst {n : Nat} {ws : List W} (h : ∀ x ∈ ws, Told n x) : Told (n + 1) (.lst ws) := ⟨pures_of fun x hx => (h x hx).1, Nat.succ_le_succ (deps_of fun x hx => (h x hx).2)⟩
theorem Told.tup {n : Nat} {ws : List W} (h : ∀ x ∈ ws, Told n x) : Told (n + 1) (.tup ws) := ⟨pures_of fun x hx => (h x hx).1, Nat.succ_le_succ (deps_of fun x hx => (h x hx).2)⟩
theorem Told.mono {n m : Nat} {w : W} (h : Told n w) (k : n ≤ m) : Told m w := ⟨h.1, Nat.le_trans h.2 k⟩
theorem Told.int {n : Nat} {i : Int} : Told n (.int i) := ⟨rfl, Nat.zero_le _⟩
theorem Told.str {n : Nat} {i : String} : Told n (.str i) := ⟨rfl, Nat.zero_le _⟩
theorem Told.non {n : Nat} : Told n .non := ⟨rfl, Nat.zero_le _⟩
theorem Told.bl {n : Nat} {b : Bool} : Told n (.bl b) := ⟨rfl, Nat.zero_le _⟩
theorem drf_told {M : Heap2} {n : Nat} {w : W} (h : Told n w) : drf2 M w = some w := by
  unfold drf2 drf
  exact seen_pure h.1
theorem drf_ref {M : Heap2} {n : Nat} {a : Addr} {ws : List W} (hm : M a = some (.flat (.lst ws))) (h : Told n (.lst ws)) : drf2 M (.ref a) = some (.lst ws) := by
  unfold drf2 drf
  simp only [W.seen, cellList, hm]
  have h1 : W.pures ws = true := h.1
  simp [seens_pure h1]
/-- a list, however it is held -/
def IsL (M : Heap2) (w : W) (ws : List W) : Prop := w = .lst ws ∨ ∃ a, w = .ref a ∧ M a = some (.flat (.lst ws))
theorem IsL.drf {M : Heap2} {n : Nat} {w : W} {ws : List W} (h : IsL M w ws) (t : Told n (.lst ws)) : drf2 M w = some (.lst ws) := by
  rcases h with rfl | ⟨a, rfl, hm⟩
  · exact drf_told t
  · exact drf_ref hm t
theorem rEq_same {M : Heap2} {x y v : W} {Q : Q2} (hx : drf2 M x = some v) (hy : drf2 M y = some v) (t : Told 64 v) (q : Q (.bl true) M) : rEq2 false x y M Q :=
  ⟨v, v, hx, hy, t.2, t.2, by rw [eqv_refl t.1]; exact q⟩
theorem rNe_same {M : Heap2} {x y v : W} {Q : Q2} (hx : drf2 M x = some v) (hy : drf2 M y = some v) (t : Told 64 v) (q : Q (.bl false) M) : rEq2 true x y M Q :=
  ⟨v, v, hx, hy, t.2, t.2, by rw [eqv_refl t.1]; exact q⟩
theorem rEq_any {neg : Bool} {M : Heap2} {x y v u : W} {Q : Q2} (hx : drf2 M x = some v) (hy : drf2 M y = some u) (t : Told 64 v) (t' : Told 64 u) (q : Q (.bl (if neg then !W.eqv v u else W.eqv v u)) M) : rEq2 neg x y M Q :=
  ⟨v, u, hx, hy, t.2, t'.2, q⟩
end LW
namespace LW
theorem upd2_fresh {M : Heap2} {p q : PySem.Addr} {c : Cell} (h : upd2 M p (some c) q = none) : q ≠ p ∧ M q = none := by
  unfold upd2 at h
  split at h
  · cases h
  · rename_i e; exact ⟨e, h⟩
theorem atI2 {α : Type} {x y : α} {i : Int} (h : i = 0 ∨ i = 1) : L2.atI [x, y] i = some (if i = 0 then x else y) := by
  rcases h with rfl | rfl <;> rfl
theorem atI3 {α : Type} {x y z : α} {i : Int} (h : i = 0 ∨ i = 1 ∨ i = 2) : L2.atI [x, y, z] i = some (if i = 0 then x else if i = 1 then y else z) := by
  rcases h with rfl | rfl | rfl <;> rfl
theorem atI4 {α : Type} {x y z u : α} {i : Int} (h : i = 0 ∨ i = 1 ∨ i = 2 ∨ i = 3) : L2.atI [x, y, z, u] i = some (if i = 0 then x else if i = 1 then y else if i = 2 then z else u) := by
  rcases h with rfl | rfl | rfl | rfl <;> rfl
/-- a literal's item: there is one, and it is one of them -/
theorem atI_some {α : Type} (xs : List α) (i : Int) (h0 : 0 ≤ i) (h : i < xs.length) : ∃ x, x ∈ xs ∧ L2.atI xs i = some x := by
  rw [atI_int xs i h0 h]
  have : i.toNat < xs.length := by omega
  exact ⟨xs[i.toNat], List.getElem_mem _, by simp [this]⟩
end LW
namespace LW
@[simp] theorem atI_c0 {α : Type} {x : α} {r : List α} : L2.atI (x :: r) 0 = some x := by unfold L2.atI L2.ixN; simp
@[simp] theorem atI_c1 {α : Type} {x y : α} {r : List α} : L2.atI (x :: y :: r) 1 = some y := by
  have e : (1 : Int) < ((x :: y :: r).length : Nat) := by simp only [List.length_cons]; omega
  unfold L2.atI L2.ixN; rw [if_pos (by decide), if_pos e]; rfl
@[simp] theorem atI_c2 {α : Type} {x y z : α} {r : List α} : L2.atI (x :: y :: z :: r) 2 = some z := by
  have e : (2 : Int) < ((x :: y :: z :: r).length : Nat) := by simp only [List.length_cons]; omega
  unfold L2.atI L2.ixN; rw [if_pos (by decide), if_pos e]; rfl
@[simp] theorem atI_c3 {α : Type} {x y z u : α} {r : List α} : L2.atI (x :: y :: z :: u :: r) 3 = some u := by
  have e : (3 : Int) < ((x :: y :: z :: u :: r).length : Nat) := by simp only [List.length_cons]; omega
  unfold L2.atI L2.ixN; rw [if_pos (by decide), if_pos e]; rfl
@[simp] theorem atI_c4 {α : Type} {x y z u v : α} {r : List α} : L2.atI (x :: y :: z :: u :: v :: r) 4 = some v := by
  have e : (4 : Int) < ((x :: y :: z :: u :: v :: r).length : Nat) := by simp only [List.length_cons]; omega
  unfold L2.atI L2.ixN; rw [if_pos (by decide), if_pos e]; rfl
end LW
namespace LW
theorem lcI_all {chk : Heap2 → Prop} {gt : TG2} {te : T2} {M : Heap2} {env : Env2} {R : List W → Heap2 → Prop} (Pw : W → Prop) (hchk : chk M) : ∀ (xs acc : List W),
    (∀ x ∈ xs, ∀ (K : W → Heap2 → Prop), (∀ w, Pw w → K w M) → gt x env M fun e2 M2 => te e2 M2 K (fun _ _ _ => False)) →
    acc.length + xs.length < 10000000 → (∀ ys, ys.length = xs.length → (∀ y ∈ ys, Pw y) → R (acc ++ ys) M) → tLcI chk gt tYes2 te env xs acc M R
  | [], acc, _, _, hR => ⟨hchk, by simpa using hR [] rfl (fun _ h => by cases h)⟩
  | x :: xs, acc, hx, hl, hR => by
    rw [List.length_cons] at hl
    refine ⟨hchk, ?_⟩
    have := hx x (List.mem_cons_self ..) (fun w M4 => acc.length < 10000000 ∧ tLcI chk gt tYes2 te env xs (acc ++ [w]) M4 R) fun w hw => ⟨by omega, lcI_all Pw hchk xs _ (fun y hy => hx y (List.mem_cons_of_mem _ hy)) (by rw [List.length_append]; show acc.length + 1 + _ < _; omega) fun ys hl hy => by
      have := hR (w :: ys) (by simp [hl]) fun y hm => by
        rcases List.mem_cons.mp hm with rfl | e
        · exact hw
        · exact hy y e
      simpa using this⟩
    simpa using this
theorem ex_map {α : Type} {f : α → W} : ∀ {ys : List W}, (∀ y ∈ ys, ∃ a, y = f a) → ∃ as : List α, ys = as.map f
  | [], _ => ⟨[], rfl⟩
  | y :: ys, h => by
    obtain ⟨a, rfl⟩ := h y (List.mem_cons_self ..)
    obtain ⟨as, rfl⟩ := ex_map (f := f) fun z hz => h z (List.mem_cons_of_mem _ hz)
    exact ⟨a :: as, rfl⟩
end LW

namespace K53
open PySem L2 PyProof.Rows LW
abbrev G (K : PySem.W.Frag) : Gm := GK K
def top (i : Nat) : Stmt := PySem.Challenge.pw_linewarden_k53_rows_of_line_and_near.main.body.getD i (.Pass ⟨0, 0, 0, 0⟩)
structure Rw where
  near : Int
  kind : String
  place : Int
  rest : List Int
  value : Int
def Rw.w (r : Rw) : W := .tup [.int r.near, .tup (.str r.kind :: .int r.place :: r.rest.map W.int), .int r.value]
theorem Rw.told (r : Rw) : Told 2 r.w := by
  refine Told.tup fun x hx => ?_
  simp at hx
  rcases hx with rfl | rfl | rfl
  · exact Told.int
  · refine Told.tup fun y hy => ?_
    simp at hy
    rcases hy with rfl | rfl | ⟨i, _, rfl⟩
    · exact Told.str
    · exact Told.int
    · exact Told.int
  · exact Told.int
theorem told_rows (rs : List Rw) : Told 3 (.lst (rs.map Rw.w)) := Told.lst fun x hx => by
  obtain ⟨r, _, rfl⟩ := List.mem_map.mp hx
  exact r.told
def plW : W → Int
  | .tup [_, .tup (_ :: .int p :: _), _] => p
  | _ => 0
def nrW : W → Int
  | .tup [.int p, _, _] => p
  | _ => 0
theorem pl_w (r : Rw) : plW r.w = r.place := rfl
theorem nr_w (r : Rw) : nrW r.w = r.near := rfl
theorem filt_w (p : W → Bool) (rs : List Rw) : (rs.map Rw.w).filter p = (rs.filter fun r => p r.w).map Rw.w := by
  rw [List.filter_map]; rfl
section
variable {P : Program} {w : World} {K : PySem.W.Frag} {mg : Str → Option Value} {base : Heap}
def sp_line_of : Spec2 := fun ws M Q _ => match ws with
  | [.int a, .int b] => (0 < b ∧ b ≤ 1000) ∧ Q (.int (a / b)) M
  | _ => False
def sp_rows_of_line : Spec2 := fun ws M Q _ => match ws with
  | [.lst xs, .int line, .int b] => ∃ rs : List Rw, xs = rs.map Rw.w ∧ rs.length ≤ 1000 ∧ (0 < b ∧ b ≤ 1000) ∧ ∀ p, M p = none → Q (.ref p) (upd2 M p (some (.flat (.lst ((rs.filter fun r => decide (r.place / b = line)).map Rw.w)))))
  | _ => False
def sp_rows_of_near : Spec2 := fun ws M Q _ => match ws with
  | [.lst xs, .int near] => ∃ rs : List Rw, xs = rs.map Rw.w ∧ rs.length ≤ 1000 ∧ ∀ p, M p = none → Q (.ref p) (upd2 M p (some (.flat (.lst ((rs.filter fun r => decide (r.near = near)).map Rw.w)))))
  | _ => False
def sp_L_cell_at : Spec2 := fun ws M Q _ => match ws with
  | [.scr xs, .int k] => ∃ ns : List Int, xs = ns.map W.int ∧ 0 ≤ k ∧ ns.length ≤ 1000 ∧ ∀ n, Q (.int n) M
  | _ => False
def sp_L_row : Spec2 := fun ws M Q _ => match ws with
  | [.int _, .int _, .int wd] => (0 < wd ∧ wd ≤ 16) ∧ ∀ r : Rw, Q r.w M
  | _ => False
def sp_L_line : Spec2 := fun ws M Q _ => match ws with
  | [.lst xs, .int line, .int b] => ∃ rs : List Rw, xs = rs.map Rw.w ∧ rs.length ≤ 1000 ∧ (0 < b ∧ b ≤ 16) ∧ ∀ M', Q (.bl true) M'
  | _ => False
def sp_L_near : Spec2 := fun ws M Q _ => match ws with
  | [.lst xs, .int near] => ∃ rs : List Rw, xs = rs.map Rw.w ∧ rs.length ≤ 1000 ∧ ∀ M', Q (.bl true) M'
  | _ => False
def sp_law : Spec2 := fun ws M Q _ => match ws with
  | [.scr xs] => (∃ ns : List Int, xs = ns.map W.int ∧ ns.length ≤ 63) ∧ ∀ M', Q (.bl true) M'
  | _ => False
abbrev s_line_of : Stmt := top 1
theorem sc_line_of : FnScope ["address", "width"] ["address", "width"] (defScope s_line_of) := ⟨rfl, rfl, rfl, by decide +kernel, rfl, by decide +kernel, by decide +kernel⟩
def m_line_of : TS2 :=
  tRet2 (tOp2 rFdivW (tVar2 0) (tVar2 1))
theorem d_line_of {f : Addr} {fd : FuncData} (F : FunD K "line_of" "line_of" (defArgs s_line_of) (defBody s_line_of) (defScope s_line_of) [] [] f fd)  :
    FnOk P w K mg base (L2.CX P w) 1 f fd ["address", "width"] (spOf (G K) 2 (bodySpec 2 m_line_of)) :=
  fn_ok F sc_line_of fun cdv A outer s H E hr => by
    have tk0 : Takes (cxOf (L2.CX P w) P w K mg base ["address", "width"] "line_of" (defScope s_line_of) f cdv A outer s H E) (fun cls d _ H => E cls d H) := takes_of rfl rfl rfl rfl
    have po0 : PassesOwn (model P w) (cxOf (L2.CX P w) P w K mg base ["address", "width"] "line_of" (defScope s_line_of) f cdv A outer s H E).A (cxOf (L2.CX P w) P w K mg base ["address", "width"] "line_of" (defScope s_line_of) f cdv A outer s H E).env (cxOf (L2.CX P w) P w K mg base ["address", "width"] "line_of" (defScope s_line_of) f cdv A outer s H E).xe := passes_of rfl
    exact sss_one (ss_ret (se_fdiv (se_var (i := 0) rfl (by first | exact Or.inl rfl | exact Or.inr (Or.inl rfl) | exact Or.inr (Or.inr rfl))) (se_var (i := 1) rfl (by first | exact Or.inl rfl | exact Or.inr (Or.inl rfl) | exact Or.inr (Or.inr rfl)))))
abbrev s_rows_of_line : Stmt := top 3
theorem sc_rows_of_line : FnScope ["trail", "line", "width", "row"] ["trail", "line", "width"] (defScope s_rows_of_line) := ⟨rfl, rfl, rfl, by decide +kernel, rfl, by decide +kernel, by decide +kernel⟩
def m_rows_of_line : TS2 :=
  tRet2 (tLcC (iList2 (tVar2 0)) (gName2 3) (tTest2 (tOp2 (rEq2 false) (tCall2 2 [] sp_line_of (tCons2 (tOp2 rIx2 (tOp2 rIx2 (tVar2 3) (tC2 (.int 1))) (tC2 (.int 1))) (tCons2 (tVar2 2) (tNil2)))) (tVar2 1))) (tVar2 3) [3])
theorem d_rows_of_line {f : Addr} {fd : FuncData} (F : FunD K "rows_of_line" "rows_of_line" (defArgs s_rows_of_line) (defBody s_rows_of_line) (defScope s_rows_of_line) [] [] f fd) (c_line_of_2 : CallS P w K mg base (G K) "line_of" 1 2 [] sp_line_of) :
    FnOk P w K mg base (L2.CX P w) 2 f fd ["trail", "line", "width"] (spOf (G K) 3 (bodySpec 4 m_rows_of_line)) :=
  fn_ok F sc_rows_of_line fun cdv A outer s H E hr => by
    have tk0 : Takes (cxOf (L2.CX P w) P w K mg base ["trail", "line", "width", "row"] "rows_of_line" (defScope s_rows_of_line) f cdv A outer s H E) (fun cls d _ H => E cls d H) := takes_of rfl rfl rfl rfl
    have po0 : PassesOwn (model P w) (cxOf (L2.CX P w) P w K mg base ["trail", "line", "width", "row"] "rows_of_line" (defScope s_rows_of_line) f cdv A outer s H E).A (cxOf (L2.CX P w) P w K mg base ["trail", "line", "width", "row"] "rows_of_line" (defScope s_rows_of_line) f cdv A outer s H E).env (cxOf (L2.CX P w) P w K mg base ["trail", "line", "width", "row"] "rows_of_line" (defScope s_rows_of_line) f cdv A outer s H E).xe := passes_of rfl
    exact sss_one (ss_ret (se_lcC (own := [("row", 3)]) rfl sc_rows_of_line.nd (si_list (se_var (i := 0) rfl (by first | exact Or.inl rfl | exact Or.inr (Or.inl rfl) | exact Or.inr (Or.inr rfl)))) (blkOk_by (by rfl)) (nt_name) (fun _ _ _ _ _ => pg_name (i := 3) sc_rows_of_line.nd rfl (Or.inl rfl)) (fun _ _ _ _ _ => sts_one (sb_eq hr.units (se_call c_line_of_2 (hr.mono (by decide)) (by rfl) takes0 (sa_cons (se_ix (se_ix (se_var (i := 3) rfl (by first | exact Or.inl rfl | exact Or.inr (Or.inl rfl) | exact Or.inr (Or.inr rfl))) (se_int)) (se_int)) (sa_cons (se_var (i := 2) rfl (by first | exact Or.inl rfl | exact Or.inr (Or.inl rfl) | exact Or.inr (Or.inr rfl))) (sa_nil)))) (se_var (i := 1) rfl (by first | exact Or.inl rfl | exact Or.inr (Or.inl rfl) | exact Or.inr (Or.inr rfl))))) (fun _ _ _ _ _ => se_var (i := 3) rfl (by first | exact Or.inl rfl | exact Or.inr (Or.inl rfl) | exact Or.inr (Or.inr rfl)))))
abbrev s_rows_of_near : Stmt := top 4
theorem sc_rows_of_near : FnScope ["trail", "near", "row"] ["trail", "near"] (defScope s_rows_of_near) := ⟨rfl, rfl, rfl, by decide +kernel, rfl, by decide +kernel, by decide +kernel⟩
def m_rows_of_near : TS2 :=
  tRet2 (tLcC (iList2 (tVar2 0)) (gName2 2) (tTest2 (tOp2 (rEq2 false) (tOp2 rIx2 (tVar2 2) (tC2 (.int 0))) (tVar2 1))) (tVar2 2) [2])
theorem d_rows_of_near {f : Addr} {fd : FuncData} (F : FunD K "rows_of_near" "rows_of_near" (defArgs s_rows_of_near) (defBody s_rows_of_near) (defScope s_rows_of_near) [] [] f fd)  :
    FnOk P w K mg base (L2.CX P w) 1 f fd ["trail", "near"] (spOf (G K) 2 (bodySpec 3 m_rows_of_near)) :=
  fn_ok F sc_rows_of_near fun cdv A outer s H E hr => by
    have tk0 : Takes (cxOf (L2.CX P w) P w K mg base ["trail", "near", "row"] "rows_of_near" (defScope s_rows_of_near) f cdv A outer s H E) (fun cls d _ H => E cls d H) := takes_of rfl rfl rfl rfl
    have po0 : PassesOwn (model P w) (cxOf (L2.CX P w) P w K mg base ["trail", "near", "row"] "rows_of_near" (defScope s_rows_of_near) f cdv A outer s H E).A (cxOf (L2.CX P w) P w K mg base ["trail", "near", "row"] "rows_of_near" (defScope s_rows_of_near) f cdv A outer s H E).env (cxOf (L2.CX P w) P w K mg base ["trail", "near", "row"] "rows_of_near" (defScope s_rows_of_near) f cdv A outer s H E).xe := passes_of rfl
    exact sss_one (ss_ret (se_lcC (own := [("row", 2)]) rfl sc_rows_of_near.nd (si_list (se_var (i := 0) rfl (by first | exact Or.inl rfl | exact Or.inr (Or.inl rfl) | exact Or.inr (Or.inr rfl)))) (blkOk_by (by rfl)) (nt_name) (fun _ _ _ _ _ => pg_name (i := 2) sc_rows_of_near.nd rfl (Or.inl rfl)) (fun _ _ _ _ _ => sts_one (sb_eq hr.units (se_ix (se_var (i := 2) rfl (by first | exact Or.inl rfl | exact Or.inr (Or.inl rfl) | exact Or.inr (Or.inr rfl))) (se_int)) (se_var (i := 1) rfl (by first | exact Or.inl rfl | exact Or.inr (Or.inl rfl) | exact Or.inr (Or.inr rfl))))) (fun _ _ _ _ _ => se_var (i := 2) rfl (by first | exact Or.inl rfl | exact Or.inr (Or.inl rfl) | exact Or.inr (Or.inr rfl)))))
abbrev s_L_cell_at : Stmt := top 6
theorem sc_L_cell_at : FnScope ["_law_script", "_law_k"] ["_law_script", "_law_k"] (defScope s_L_cell_at) := ⟨rfl, rfl, rfl, by decide +kernel, rfl, by decide +kernel, by decide +kernel⟩
def m_L_cell_at : TS2 :=
  tSeq2 (tIf2 (tTest2 (tOp2 (rLtW) (tVar2 1) (tCB2 rLen2 (tCons2 (tVar2 0) (tNil2))))) (tRet2 (tOp2 rIx2 (tVar2 0) (tVar2 1))) (tNext2)) (tRet2 (tC2 (.int 0)))
theorem d_L_cell_at {f : Addr} {fd : FuncData} (F : FunD K "_law_cell_at" "_law_cell_at" (defArgs s_L_cell_at) (defBody s_L_cell_at) (defScope s_L_cell_at) [] [] f fd) (b_len : mg "len" = Option.none) :
    FnOk P w K mg base (L2.CX P w) 1 f fd ["_law_script", "_law_k"] (spOf (G K) 2 (bodySpec 2 m_L_cell_at)) :=
  fn_ok F sc_L_cell_at fun cdv A outer s H E hr => by
    have tk0 : Takes (cxOf (L2.CX P w) P w K mg base ["_law_script", "_law_k"] "_law_cell_at" (defScope s_L_cell_at) f cdv A outer s H E) (fun cls d _ H => E cls d H) := takes_of rfl rfl rfl rfl
    have po0 : PassesOwn (model P w) (cxOf (L2.CX P w) P w K mg base ["_law_script", "_law_k"] "_law_cell_at" (defScope s_L_cell_at) f cdv A outer s H E).A (cxOf (L2.CX P w) P w K mg base ["_law_script", "_law_k"] "_law_cell_at" (defScope s_L_cell_at) f cdv A outer s H E).env (cxOf (L2.CX P w) P w K mg base ["_law_script", "_law_k"] "_law_cell_at" (defScope s_L_cell_at) f cdv A outer s H E).xe := passes_of rfl
    exact sss_cons (ss_if (sb_lt (se_var (i := 1) rfl (by first | exact Or.inl rfl | exact Or.inr (Or.inl rfl) | exact Or.inr (Or.inr rfl))) (se_len (by rfl) b_len (sa_cons (se_var (i := 0) rfl (by first | exact Or.inl rfl | exact Or.inr (Or.inl rfl) | exact Or.inr (Or.inr rfl))) (sa_nil)))) (sss_one (ss_ret (se_ix (se_var (i := 0) rfl (by first | exact Or.inl rfl | exact Or.inr (Or.inl rfl) | exact Or.inr (Or.inr rfl))) (se_var (i := 1) rfl (by first | exact Or.inl rfl | exact Or.inr (Or.inl rfl) | exact Or.inr (Or.inr rfl)))))) (sss_nil)) (sss_one (ss_ret (se_int)))
abbrev s_L_row : Stmt := top 7
theorem sc_L_row : FnScope ["_law_cell", "_law_base", "_law_width", "_law_mixed", "_law_place", "_law_near_here"] ["_law_cell", "_law_base", "_law_width"] (defScope s_L_row) := ⟨rfl, rfl, rfl, by decide +kernel, rfl, by decide +kernel, by decide +kernel⟩
def m_L_row : TS2 :=
  tSeq2 (tAsg2 (tOp2 rModW (tOp2 rMulW (tVar2 0) (tC2 (.int 48271))) (tC2 (.int 2147483647))) (gName2 3)) (tSeq2 (tAsg2 (tOp2 rAddW (tOp2 rMulW (tOp2 rAddW (tVar2 1) (tOp2 rModW (tVar2 3) (tC2 (.int 4)))) (tVar2 2)) (tOp2 rModW (tOp2 rFdivW (tVar2 3) (tC2 (.int 1024))) (tVar2 2))) (gName2 4)) (tSeq2 (tAsg2 (tOp2 rModW (tOp2 rFdivW (tVar2 3) (tC2 (.int 4))) (tOp2 rIx2 (tLst2 (tCons2 (tC2 (.int 4)) (tCons2 (tC2 (.int 16)) (tNil2)))) (tOp2 rModW (tOp2 rFdivW (tVar2 3) (tC2 (.int 256))) (tC2 (.int 2))))) (gName2 5)) (tSeq2 (tIf2 (tTest2 (tOp2 (rEq2 false) (tOp2 rModW (tOp2 rFdivW (tVar2 3) (tC2 (.int 64))) (tC2 (.int 4))) (tC2 (.int 0)))) (tRet2 (tTup2 (tCons2 (tVar2 5) (tCons2 (tTup2 (tCons2 (tC2 (.str "read")) (tCons2 (tVar2 4) (tNil2)))) (tCons2 (tOp2 rModW (tVar2 0) (tOp2 rPowW (tC2 (.int 10)) (tC2 (.int 60)))) (tNil2)))))) (tNext2)) (tSeq2 (tIf2 (tTest2 (tOp2 (rEq2 false) (tOp2 rModW (tOp2 rFdivW (tVar2 3) (tC2 (.int 64))) (tC2 (.int 4))) (tC2 (.int 1)))) (tRet2 (tTup2 (tCons2 (tVar2 5) (tCons2 (tTup2 (tCons2 (tC2 (.str "write")) (tCons2 (tVar2 4) (tCons2 (tOp2 rSubW (tC2 (.int 0)) (tOp2 rModW (tVar2 0) (tOp2 rPowW (tC2 (.int 10)) (tC2 (.int 60))))) (tNil2))))) (tCons2 (tC2 (.int 0)) (tNil2)))))) (tNext2)) (tSeq2 (tIf2 (tTest2 (tOp2 (rEq2 false) (tOp2 rModW (tOp2 rFdivW (tVar2 3) (tC2 (.int 64))) (tC2 (.int 4))) (tC2 (.int 2)))) (tRet2 (tTup2 (tCons2 (tVar2 5) (tCons2 (tTup2 (tCons2 (tC2 (.str "add")) (tCons2 (tVar2 4) (tCons2 (tOp2 rModW (tVar2 0) (tOp2 rPowW (tC2 (.int 10)) (tC2 (.int 60)))) (tNil2))))) (tCons2 (tOp2 rSubW (tC2 (.int 0)) (tVar2 3)) (tNil2)))))) (tNext2)) (tRet2 (tTup2 (tCons2 (tVar2 5) (tCons2 (tTup2 (tCons2 (tC2 (.str "swap")) (tCons2 (tVar2 4) (tCons2 (tVar2 3) (tCons2 (tOp2 rModW (tVar2 0) (tOp2 rPowW (tC2 (.int 10)) (tC2 (.int 60)))) (tNil2)))))) (tCons2 (tVar2 3) (tNil2)))))))))))
theorem d_L_row {f : Addr} {fd : FuncData} (F : FunD K "_law_row" "_law_row" (defArgs s_L_row) (defBody s_L_row) (defScope s_L_row) [] [] f fd)  :
    FnOk P w K mg base (L2.CX P w) 1 f fd ["_law_cell", "_law_base", "_law_width"] (spOf (G K) 3 (bodySpec 6 m_L_row)) :=
  fn_ok F sc_L_row fun cdv A outer s H E hr => by
    have tk0 : Takes (cxOf (L2.CX P w) P w K mg base ["_law_cell", "_law_base", "_law_width", "_law_mixed", "_law_place", "_law_near_here"] "_law_row" (defScope s_L_row) f cdv A outer s H E) (fun cls d _ H => E cls d H) := takes_of rfl rfl rfl rfl
    have po0 : PassesOwn (model P w) (cxOf (L2.CX P w) P w K mg base ["_law_cell", "_law_base", "_law_width", "_law_mixed", "_law_place", "_law_near_here"] "_law_row" (defScope s_L_row) f cdv A outer s H E).A (cxOf (L2.CX P w) P w K mg base ["_law_cell", "_law_base", "_law_width", "_law_mixed", "_law_place", "_law_near_here"] "_law_row" (defScope s_L_row) f cdv A outer s H E).env (cxOf (L2.CX P w) P w K mg base ["_law_cell", "_law_base", "_law_width", "_law_mixed", "_law_place", "_law_near_here"] "_law_row" (defScope s_L_row) f cdv A outer s H E).xe := passes_of rfl
    exact sss_cons (ss_set (i := 3) sc_L_row.nd rfl (by first | exact Or.inl rfl | exact Or.inr rfl) (se_mod (se_mul (se_var (i := 0) rfl (by first | exact Or.inl rfl | exact Or.inr (Or.inl rfl) | exact Or.inr (Or.inr rfl))) (se_int)) (se_int))) (sss_cons (ss_set (i := 4) sc_L_row.nd rfl (by first | exact Or.inl rfl | exact Or.inr rfl) (se_add (se_mul (se_add (se_var (i := 1) rfl (by first | exact Or.inl rfl | exact Or.inr (Or.inl rfl) | exact Or.inr (Or.inr rfl))) (se_mod (se_var (i := 3) rfl (by first | exact Or.inl rfl | exact Or.inr (Or.inl rfl) | exact Or.inr (Or.inr rfl))) (se_int))) (se_var (i := 2) rfl (by first | exact Or.inl rfl | exact Or.inr (Or.inl rfl) | exact Or.inr (Or.inr rfl)))) (se_mod (se_fdiv (se_var (i := 3) rfl (by first | exact Or.inl rfl | exact Or.inr (Or.inl rfl) | exact Or.inr (Or.inr rfl))) (se_int)) (se_var (i := 2) rfl (by first | exact Or.inl rfl | exact Or.inr (Or.inl rfl) | exact Or.inr (Or.inr rfl)))))) (sss_cons (ss_set (i := 5) sc_L_row.nd rfl (by first | exact Or.inl rfl | exact Or.inr rfl) (se_mod (se_fdiv (se_var (i := 3) rfl (by first | exact Or.inl rfl | exact Or.inr (Or.inl rfl) | exact Or.inr (Or.inr rfl))) (se_int)) (se_ix (se_lst (sa_cons (se_int) (sa_cons (se_int) (sa_nil)))) (se_mod (se_fdiv (se_var (i := 3) rfl (by first | exact Or.inl rfl | exact Or.inr (Or.inl rfl) | exact Or.inr (Or.inr rfl))) (se_int)) (se_int))))) (sss_cons (ss_if (sb_eq hr.units (se_mod (se_fdiv (se_var (i := 3) rfl (by first | exact Or.inl rfl | exact Or.inr (Or.inl rfl) | exact Or.inr (Or.inr rfl))) (se_int)) (se_int)) (se_int)) (sss_one (ss_ret (se_tup (sa_cons (se_var (i := 5) rfl (by first | exact Or.inl rfl | exact Or.inr (Or.inl rfl) | exact Or.inr (Or.inr rfl))) (sa_cons (se_tup (sa_cons (se_str) (sa_cons (se_var (i := 4) rfl (by first | exact Or.inl rfl | exact Or.inr (Or.inl rfl) | exact Or.inr (Or.inr rfl))) (sa_nil)))) (sa_cons (se_mod (se_var (i := 0) rfl (by first | exact Or.inl rfl | exact Or.inr (Or.inl rfl) | exact Or.inr (Or.inr rfl))) (se_pow (se_int) (se_int))) (sa_nil))))))) (sss_nil)) (sss_cons (ss_if (sb_eq hr.units (se_mod (se_fdiv (se_var (i := 3) rfl (by first | exact Or.inl rfl | exact Or.inr (Or.inl rfl) | exact Or.inr (Or.inr rfl))) (se_int)) (se_int)) (se_int)) (sss_one (ss_ret (se_tup (sa_cons (se_var (i := 5) rfl (by first | exact Or.inl rfl | exact Or.inr (Or.inl rfl) | exact Or.inr (Or.inr rfl))) (sa_cons (se_tup (sa_cons (se_str) (sa_cons (se_var (i := 4) rfl (by first | exact Or.inl rfl | exact Or.inr (Or.inl rfl) | exact Or.inr (Or.inr rfl))) (sa_cons (se_sub (se_int) (se_mod (se_var (i := 0) rfl (by first | exact Or.inl rfl | exact Or.inr (Or.inl rfl) | exact Or.inr (Or.inr rfl))) (se_pow (se_int) (se_int)))) (sa_nil))))) (sa_cons (se_int) (sa_nil))))))) (sss_nil)) (sss_cons (ss_if (sb_eq hr.units (se_mod (se_fdiv (se_var (i := 3) rfl (by first | exact Or.inl rfl | exact Or.inr (Or.inl rfl) | exact Or.inr (Or.inr rfl))) (se_int)) (se_int)) (se_int)) (sss_one (ss_ret (se_tup (sa_cons (se_var (i := 5) rfl (by first | exact Or.inl rfl | exact Or.inr (Or.inl rfl) | exact Or.inr (Or.inr rfl))) (sa_cons (se_tup (sa_cons (se_str) (sa_cons (se_var (i := 4) rfl (by first | exact Or.inl rfl | exact Or.inr (Or.inl rfl) | exact Or.inr (Or.inr rfl))) (sa_cons (se_mod (se_var (i := 0) rfl (by first | exact Or.inl rfl | exact Or.inr (Or.inl rfl) | exact Or.inr (Or.inr rfl))) (se_pow (se_int) (se_int))) (sa_nil))))) (sa_cons (se_sub (se_int) (se_var (i := 3) rfl (by first | exact Or.inl rfl | exact Or.inr (Or.inl rfl) | exact Or.inr (Or.inr rfl)))) (sa_nil))))))) (sss_nil)) (sss_one (ss_ret (se_tup (sa_cons (se_var (i := 5) rfl (by first | exact Or.inl rfl | exact Or.inr (Or.inl rfl) | exact Or.inr (Or.inr rfl))) (sa_cons (se_tup (sa_cons (se_str) (sa_cons (se_var (i := 4) rfl (by first | exact Or.inl rfl | exact Or.inr (Or.inl rfl) | exact Or.inr (Or.inr rfl))) (sa_cons (se_var (i := 3) rfl (by first | exact Or.inl rfl | exact Or.inr (Or.inl rfl) | exact Or.inr (Or.inr rfl))) (sa_cons (se_mod (se_var (i := 0) rfl (by first | exact Or.inl rfl | exact Or.inr (Or.inl rfl) | exact Or.inr (Or.inr rfl))) (se_pow (se_int) (se_int))) (sa_nil)))))) (sa_cons (se_var (i := 3) rfl (by first | exact Or.inl rfl | exact Or.inr (Or.inl rfl) | exact Or.inr (Or.inr rfl))) (sa_nil))))))))))))
abbrev s_L_line : Stmt := top 8
theorem sc_L_line : FnScope ["_law_trail", "_law_line_here", "_law_width", "_law_found", "_law_due", "_law_row_here"] ["_law_trail", "_law_line_here", "_law_width"] (defScope s_L_line) := ⟨rfl, rfl, rfl, by decide +kernel, rfl, by decide +kernel, by decide +kernel⟩
/-- body of: for _law_row_here in _law_trail -/
def m_L_line_1 : TS2 :=
  tIf2 (tTest2 (tChain2 rLeW rLtW (tOp2 rMulW (tVar2 1) (tVar2 2)) (tOp2 rIx2 (tOp2 rIx2 (tVar2 5) (tC2 (.int 1))) (tC2 (.int 1))) (tOp2 rAddW (tOp2 rMulW (tVar2 1) (tVar2 2)) (tVar2 2)))) (tDrop2 (tAppend (tVar2 4) (tVar2 5))) (tNext2)
/-- from: if not isinstance(_law_found, list) or _law_found != _law_due: -/
def m_L_line_2 : TS2 :=
  tSeq2 (tIf2 (tOr2 (tNot2 (tTest2 (tIsi2 "list" (tVar2 3)))) (tTest2 (tOp2 (rEq2 true) (tVar2 3) (tVar2 4)))) (tRet2 (tC2 (.bl false))) (tNext2)) (tSeq2 (tDrop2 (tAppend (tVar2 3) (tC2 (.int 1)))) (tRet2 (tOp2 (rEq2 false) (tCall2 3 [] sp_rows_of_line (tCons2 (tVar2 0) (tCons2 (tVar2 1) (tCons2 (tVar2 2) (tNil2))))) (tVar2 4))))
def m_L_line : TS2 :=
  tSeq2 (tAsg2 (tCall2 3 [] sp_rows_of_line (tCons2 (tVar2 0) (tCons2 (tVar2 1) (tCons2 (tVar2 2) (tNil2))))) (gName2 3)) (tSeq2 (tAsg2 (tLstC (tNil2)) (gName2 4)) (tSeq2 (tFor2 (iList2 (tVar2 0)) (gName2 5) (m_L_line_1)) (m_L_line_2)))
theorem d_L_line {f : Addr} {fd : FuncData} (F : FunD K "_law_line" "_law_line" (defArgs s_L_line) (defBody s_L_line) (defScope s_L_line) [] [] f fd) (c_rows_of_line_3 : CallS P w K mg base (G K) "rows_of_line" 2 3 [] sp_rows_of_line) (b_isinstance : mg "isinstance" = Option.none) (b_list : mg "list" = Option.none) :
    FnOk P w K mg base (L2.CX P w) 3 f fd ["_law_trail", "_law_line_here", "_law_width"] (spOf (G K) 3 (bodySpec 6 m_L_line)) :=
  fn_ok F sc_L_line fun cdv A outer s H E hr => by
    have tk0 : Takes (cxOf (L2.CX P w) P w K mg base ["_law_trail", "_law_line_here", "_law_width", "_law_found", "_law_due", "_law_row_here"] "_law_line" (defScope s_L_line) f cdv A outer s H E) (fun cls d _ H => E cls d H) := takes_of rfl rfl rfl rfl
    have po0 : PassesOwn (model P w) (cxOf (L2.CX P w) P w K mg base ["_law_trail", "_law_line_here", "_law_width", "_law_found", "_law_due", "_law_row_here"] "_law_line" (defScope s_L_line) f cdv A outer s H E).A (cxOf (L2.CX P w) P w K mg base ["_law_trail", "_law_line_here", "_law_width", "_law_found", "_law_due", "_law_row_here"] "_law_line" (defScope s_L_line) f cdv A outer s H E).env (cxOf (L2.CX P w) P w K mg base ["_law_trail", "_law_line_here", "_law_width", "_law_found", "_law_due", "_law_row_here"] "_law_line" (defScope s_L_line) f cdv A outer s H E).xe := passes_of rfl
    exact sss_cons (ss_set (i := 3) sc_L_line.nd rfl (by first | exact Or.inl rfl | exact Or.inr rfl) (se_call c_rows_of_line_3 (hr.mono (by decide)) (by rfl) tk0 (sa_cons (se_var (i := 0) rfl (by first | exact Or.inl rfl | exact Or.inr (Or.inl rfl) | exact Or.inr (Or.inr rfl))) (sa_cons (se_var (i := 1) rfl (by first | exact Or.inl rfl | exact Or.inr (Or.inl rfl) | exact Or.inr (Or.inr rfl))) (sa_cons (se_var (i := 2) rfl (by first | exact Or.inl rfl | exact Or.inr (Or.inl rfl) | exact Or.inr (Or.inr rfl))) (sa_nil)))))) (sss_cons (ss_set (i := 4) sc_L_line.nd rfl (by first | exact Or.inl rfl | exact Or.inr rfl) (se_lstC (sa_nil))) (sss_cons (ss_for po0 rfl (si_list (se_var (i := 0) rfl (by first | exact Or.inl rfl | exact Or.inr (Or.inl rfl) | exact Or.inr (Or.inr rfl)))) (sg_name (i := 5) sc_L_line.nd rfl (by first | exact Or.inl rfl | exact Or.inr rfl)) (sss_one (ss_if (sb_chain (se_mul (se_var (i := 1) rfl (by first | exact Or.inl rfl | exact Or.inr (Or.inl rfl) | exact Or.inr (Or.inr rfl))) (se_var (i := 2) rfl (by first | exact Or.inl rfl | exact Or.inr (Or.inl rfl) | exact Or.inr (Or.inr rfl)))) (se_ix (se_ix (se_var (i := 5) rfl (by first | exact Or.inl rfl | exact Or.inr (Or.inl rfl) | exact Or.inr (Or.inr rfl))) (se_int)) (se_int)) (se_add (se_mul (se_var (i := 1) rfl (by first | exact Or.inl rfl | exact Or.inr (Or.inl rfl) | exact Or.inr (Or.inr rfl))) (se_var (i := 2) rfl (by first | exact Or.inl rfl | exact Or.inr (Or.inl rfl) | exact Or.inr (Or.inr rfl)))) (se_var (i := 2) rfl (by first | exact Or.inl rfl | exact Or.inr (Or.inl rfl) | exact Or.inr (Or.inr rfl))))) (sss_one (ss_expr (se_append (se_var (i := 4) rfl (by first | exact Or.inl rfl | exact Or.inr (Or.inl rfl) | exact Or.inr (Or.inr rfl))) (se_var (i := 5) rfl (by first | exact Or.inl rfl | exact Or.inr (Or.inl rfl) | exact Or.inr (Or.inr rfl)))))) (sss_nil)))) (sss_cons (ss_if (sw_sb (sw_or (sb_not (sb_val (se_isi (b := "list") (by rfl) b_isinstance (by rfl) b_list (by decide +kernel) (by decide) (se_var (i := 3) rfl (by first | exact Or.inl rfl | exact Or.inr (Or.inl rfl) | exact Or.inr (Or.inr rfl)))))) (sw_or1 (sb_ne hr.units (se_var (i := 3) rfl (by first | exact Or.inl rfl | exact Or.inr (Or.inl rfl) | exact Or.inr (Or.inr rfl))) (se_var (i := 4) rfl (by first | exact Or.inl rfl | exact Or.inr (Or.inl rfl) | exact Or.inr (Or.inr rfl))))))) (sss_one (ss_ret (se_bl))) (sss_nil)) (sss_cons (ss_expr (se_append (se_var (i := 3) rfl (by first | exact Or.inl rfl | exact Or.inr (Or.inl rfl) | exact Or.inr (Or.inr rfl))) (se_int))) (sss_one (ss_ret (se_eq hr.units (se_call c_rows_of_line_3 (hr.mono (by decide)) (by rfl) tk0 (sa_cons (se_var (i := 0) rfl (by first | exact Or.inl rfl | exact Or.inr (Or.inl rfl) | exact Or.inr (Or.inr rfl))) (sa_cons (se_var (i := 1) rfl (by first | exact Or.inl rfl | exact Or.inr (Or.inl rfl) | exact Or.inr (Or.inr rfl))) (sa_cons (se_var (i := 2) rfl (by first | exact Or.inl rfl | exact Or.inr (Or.inl rfl) | exact Or.inr (Or.inr rfl))) (sa_nil))))) (se_var (i := 4) rfl (by first | exact Or.inl rfl | exact Or.inr (Or.inl rfl) | exact Or.inr (Or.inr rfl))))))))))
abbrev s_L_near : Stmt := top 9
theorem sc_L_near : FnScope ["_law_trail", "_law_near_here", "_law_found", "_law_due", "_law_row_here"] ["_law_trail", "_law_near_here"] (defScope s_L_near) := ⟨rfl, rfl, rfl, by decide +kernel, rfl, by decide +kernel, by decide +kernel⟩
/-- body of: for _law_row_here in _law_trail -/
def m_L_near_1 : TS2 :=
  tIf2 (tTest2 (tOp2 (rEq2 false) (tOp2 rIx2 (tVar2 4) (tC2 (.int 0))) (tVar2 1))) (tDrop2 (tAppend (tVar2 3) (tVar2 4))) (tNext2)
/-- from: if not isinstance(_law_found, list) or _law_found != _law_due: -/
def m_L_near_2 : TS2 :=
  tSeq2 (tIf2 (tOr2 (tNot2 (tTest2 (tIsi2 "list" (tVar2 2)))) (tTest2 (tOp2 (rEq2 true) (tVar2 2) (tVar2 3)))) (tRet2 (tC2 (.bl false))) (tNext2)) (tSeq2 (tDrop2 (tAppend (tVar2 2) (tC2 (.int 1)))) (tRet2 (tOp2 (rEq2 false) (tCall2 2 [] sp_rows_of_near (tCons2 (tVar2 0) (tCons2 (tVar2 1) (tNil2)))) (tVar2 3))))
def m_L_near : TS2 :=
  tSeq2 (tAsg2 (tCall2 2 [] sp_rows_of_near (tCons2 (tVar2 0) (tCons2 (tVar2 1) (tNil2)))) (gName2 2)) (tSeq2 (tAsg2 (tLstC (tNil2)) (gName2 3)) (tSeq2 (tFor2 (iList2 (tVar2 0)) (gName2 4) (m_L_near_1)) (m_L_near_2)))
theorem d_L_near {f : Addr} {fd : FuncData} (F : FunD K "_law_near" "_law_near" (defArgs s_L_near) (defBody s_L_near) (defScope s_L_near) [] [] f fd) (c_rows_of_near_2 : CallS P w K mg base (G K) "rows_of_near" 1 2 [] sp_rows_of_near) (b_isinstance : mg "isinstance" = Option.none) (b_list : mg "list" = Option.none) :
    FnOk P w K mg base (L2.CX P w) 2 f fd ["_law_trail", "_law_near_here"] (spOf (G K) 2 (bodySpec 5 m_L_near)) :=
  fn_ok F sc_L_near fun cdv A outer s H E hr => by
    have tk0 : Takes (cxOf (L2.CX P w) P w K mg base ["_law_trail", "_law_near_here", "_law_found", "_law_due", "_law_row_here"] "_law_near" (defScope s_L_near) f cdv A outer s H E) (fun cls d _ H => E cls d H) := takes_of rfl rfl rfl rfl
    have po0 : PassesOwn (model P w) (cxOf (L2.CX P w) P w K mg base ["_law_trail", "_law_near_here", "_law_found", "_law_due", "_law_row_here"] "_law_near" (defScope s_L_near) f cdv A outer s H E).A (cxOf (L2.CX P w) P w K mg base ["_law_trail", "_law_near_here", "_law_found", "_law_due", "_law_row_here"] "_law_near" (defScope s_L_near) f cdv A outer s H E).env (cxOf (L2.CX P w) P w K mg base ["_law_trail", "_law_near_here", "_law_found", "_law_due", "_law_row_here"] "_law_near" (defScope s_L_near) f cdv A outer s H E).xe := passes_of rfl
    exact sss_cons (ss_set (i := 2) sc_L_near.nd rfl (by first | exact Or.inl rfl | exact Or.inr rfl) (se_call c_rows_of_near_2 (hr.mono (by decide)) (by rfl) tk0 (sa_cons (se_var (i := 0) rfl (by first | exact Or.inl rfl | exact Or.inr (Or.inl rfl) | exact Or.inr (Or.inr rfl))) (sa_cons (se_var (i := 1) rfl (by first | exact Or.inl rfl | exact Or.inr (Or.inl rfl) | exact Or.inr (Or.inr rfl))) (sa_nil))))) (sss_cons (ss_set (i := 3) sc_L_near.nd rfl (by first | exact Or.inl rfl | exact Or.inr rfl) (se_lstC (sa_nil))) (sss_cons (ss_for po0 rfl (si_list (se_var (i := 0) rfl (by first | exact Or.inl rfl | exact Or.inr (Or.inl rfl) | exact Or.inr (Or.inr rfl)))) (sg_name (i := 4) sc_L_near.nd rfl (by first | exact Or.inl rfl | exact Or.inr rfl)) (sss_one (ss_if (sb_eq hr.units (se_ix (se_var (i := 4) rfl (by first | exact Or.inl rfl | exact Or.inr (Or.inl rfl) | exact Or.inr (Or.inr rfl))) (se_int)) (se_var (i := 1) rfl (by first | exact Or.inl rfl | exact Or.inr (Or.inl rfl) | exact Or.inr (Or.inr rfl)))) (sss_one (ss_expr (se_append (se_var (i := 3) rfl (by first | exact Or.inl rfl | exact Or.inr (Or.inl rfl) | exact Or.inr (Or.inr rfl))) (se_var (i := 4) rfl (by first | exact Or.inl rfl | exact Or.inr (Or.inl rfl) | exact Or.inr (Or.inr rfl)))))) (sss_nil)))) (sss_cons (ss_if (sw_sb (sw_or (sb_not (sb_val (se_isi (b := "list") (by rfl) b_isinstance (by rfl) b_list (by decide +kernel) (by decide) (se_var (i := 2) rfl (by first | exact Or.inl rfl | exact Or.inr (Or.inl rfl) | exact Or.inr (Or.inr rfl)))))) (sw_or1 (sb_ne hr.units (se_var (i := 2) rfl (by first | exact Or.inl rfl | exact Or.inr (Or.inl rfl) | exact Or.inr (Or.inr rfl))) (se_var (i := 3) rfl (by first | exact Or.inl rfl | exact Or.inr (Or.inl rfl) | exact Or.inr (Or.inr rfl))))))) (sss_one (ss_ret (se_bl))) (sss_nil)) (sss_cons (ss_expr (se_append (se_var (i := 2) rfl (by first | exact Or.inl rfl | exact Or.inr (Or.inl rfl) | exact Or.inr (Or.inr rfl))) (se_int))) (sss_one (ss_ret (se_eq hr.units (se_call c_rows_of_near_2 (hr.mono (by decide)) (by rfl) tk0 (sa_cons (se_var (i := 0) rfl (by first | exact Or.inl rfl | exact Or.inr (Or.inl rfl) | exact Or.inr (Or.inr rfl))) (sa_cons (se_var (i := 1) rfl (by first | exact Or.inl rfl | exact Or.inr (Or.inl rfl) | exact Or.inr (Or.inr rfl))) (sa_nil)))) (se_var (i := 3) rfl (by first | exact Or.inl rfl | exact Or.inr (Or.inl rfl) | exact Or.inr (Or.inr rfl))))))))))
abbrev s_law : Stmt := top 10
theorem sc_law : FnScope ["_law_script", "_law_first", "_law_width", "_law_base", "_law_trail", "_law_kept", "_law_k", "_law_cell"] ["_law_script"] (defScope s_law) := ⟨rfl, rfl, rfl, by decide +kernel, rfl, by decide +kernel, by decide +kernel⟩
/-- body of: for _law_k in range(5) -/
def m_law_1 : TS2 :=
  tIf2 (tOr2 (tNot2 (tTest2 (tCall2 3 [] sp_L_line (tCons2 (tVar2 4) (tCons2 (tOp2 rAddW (tVar2 3) (tOp2 rModW (tOp2 rAddW (tVar2 1) (tVar2 6)) (tC2 (.int 5)))) (tCons2 (tVar2 2) (tNil2))))))) (tTest2 (tOp2 (rEq2 true) (tVar2 4) (tVar2 5)))) (tRet2 (tC2 (.bl false))) (tNext2)
/-- body of: for _law_k in range(16) -/
def m_law_2 : TS2 :=
  tIf2 (tOr2 (tNot2 (tTest2 (tCall2 2 [] sp_L_near (tCons2 (tVar2 4) (tCons2 (tOp2 rModW (tOp2 rAddW (tVar2 1) (tOp2 rMulW (tC2 (.int 7)) (tVar2 6))) (tC2 (.int 16))) (tNil2)))))) (tTest2 (tOp2 (rEq2 true) (tVar2 4) (tVar2 5)))) (tRet2 (tC2 (.bl false))) (tNext2)
/-- from: return True -/
def m_law_3 : TS2 :=
  tRet2 (tC2 (.bl true))
/-- from: for _law_k in range(16): -/
def m_law_4 : TS2 :=
  tSeq2 (tFor2 (iRng2_1 (tCons2 (tC2 (.int 16)) (tNil2))) (gName2 6) (m_law_2)) (m_law_3)
/-- from: _law_kept = list(_law_trail) -/
def m_law_5 : TS2 :=
  tSeq2 (tAsg2 (tCB2 rList2 (tCons2 (tVar2 4) (tNil2))) (gName2 5)) (tSeq2 (tFor2 (iRng2_1 (tCons2 (tC2 (.int 5)) (tNil2))) (gName2 6) (m_law_1)) (m_law_4))
def m_law : TS2 :=
  tSeq2 (tAsg2 (tCall2 2 [] sp_L_cell_at (tCons2 (tVar2 0) (tCons2 (tC2 (.int 0)) (tNil2)))) (gName2 1)) (tSeq2 (tAsg2 (tOp2 rIx2 (tLst2 (tCons2 (tC2 (.int 1)) (tCons2 (tC2 (.int 2)) (tCons2 (tC2 (.int 3)) (tCons2 (tC2 (.int 16)) (tNil2)))))) (tOp2 rModW (tVar2 1) (tC2 (.int 4)))) (gName2 2)) (tSeq2 (tAsg2 (tOp2 rIx2 (tLst2 (tCons2 (tC2 (.int 0)) (tCons2 (tOp2 rModW (tVar2 1) (tOp2 rPowW (tC2 (.int 10)) (tC2 (.int 50)))) (tNil2)))) (tOp2 rModW (tOp2 rFdivW (tVar2 1) (tC2 (.int 4))) (tC2 (.int 2)))) (gName2 3)) (tSeq2 (tAsg2 (tLc2 (iList2 (tSl2 (tVar2 0) (tNoPart2) (tPart2 (tC2 (.int 98))))) (gName2 7) (tYes2) (tCall2 3 [] sp_L_row (tCons2 (tVar2 7) (tCons2 (tVar2 3) (tCons2 (tVar2 2) (tNil2))))) [7]) (gName2 4)) (tSeq2 (tIf2 (tTest2 (tOp2 (rEq2 false) (tOp2 rModW (tOp2 rFdivW (tVar2 1) (tC2 (.int 8))) (tC2 (.int 3))) (tC2 (.int 0)))) (tAsg2 (tOp2 (rCatW true) (tVar2 4) (tSl2 (tVar2 4) (tNoPart2) (tPart2 (tC2 (.int 3))))) (gName2 4)) (tNext2)) (m_law_5)))))
theorem d_law {f : Addr} {fd : FuncData} (F : FunD K "law" "law" (defArgs s_law) (defBody s_law) (defScope s_law) [] [] f fd) (c_L_cell_at_2 : CallS P w K mg base (G K) "_law_cell_at" 1 2 [] sp_L_cell_at) (c_L_row_3 : CallS P w K mg base (G K) "_law_row" 1 3 [] sp_L_row) (b_list : mg "list" = Option.none) (b_range : mg "range" = Option.none) (c_L_line_3 : CallS P w K mg base (G K) "_law_line" 3 3 [] sp_L_line) (c_L_near_2 : CallS P w K mg base (G K) "_law_near" 2 2 [] sp_L_near) :
    FnOk P w K mg base (L2.CX P w) 4 f fd ["_law_script"] (spOf (G K) 1 (bodySpec 8 m_law)) :=
  fn_ok F sc_law fun cdv A outer s H E hr => by
    have tk0 : Takes (cxOf (L2.CX P w) P w K mg base ["_law_script", "_law_first", "_law_width", "_law_base", "_law_trail", "_law_kept", "_law_k", "_law_cell"] "law" (defScope s_law) f cdv A outer s H E) (fun cls d _ H => E cls d H) := takes_of rfl rfl rfl rfl
    have po0 : PassesOwn (model P w) (cxOf (L2.CX P w) P w K mg base ["_law_script", "_law_first", "_law_width", "_law_base", "_law_trail", "_law_kept", "_law_k", "_law_cell"] "law" (defScope s_law) f cdv A outer s H E).A (cxOf (L2.CX P w) P w K mg base ["_law_script", "_law_first", "_law_width", "_law_base", "_law_trail", "_law_kept", "_law_k", "_law_cell"] "law" (defScope s_law) f cdv A outer s H E).env (cxOf (L2.CX P w) P w K mg base ["_law_script", "_law_first", "_law_width", "_law_base", "_law_trail", "_law_kept", "_law_k", "_law_cell"] "law" (defScope s_law) f cdv A outer s H E).xe := passes_of rfl
    exact sss_cons (ss_set (i := 1) sc_law.nd rfl (by first | exact Or.inl rfl | exact Or.inr rfl) (se_call c_L_cell_at_2 (hr.mono (by decide)) (by rfl) tk0 (sa_cons (se_var (i := 0) rfl (by first | exact Or.inl rfl | exact Or.inr (Or.inl rfl) | exact Or.inr (Or.inr rfl))) (sa_cons (se_int) (sa_nil))))) (sss_cons (ss_set (i := 2) sc_law.nd rfl (by first | exact Or.inl rfl | exact Or.inr rfl) (se_ix (se_lst (sa_cons (se_int) (sa_cons (se_int) (sa_cons (se_int) (sa_cons (se_int) (sa_nil)))))) (se_mod (se_var (i := 1) rfl (by first | exact Or.inl rfl | exact Or.inr (Or.inl rfl) | exact Or.inr (Or.inr rfl))) (se_int)))) (sss_cons (ss_set (i := 3) sc_law.nd rfl (by first | exact Or.inl rfl | exact Or.inr rfl) (se_ix (se_lst (sa_cons (se_int) (sa_cons (se_mod (se_var (i := 1) rfl (by first | exact Or.inl rfl | exact Or.inr (Or.inl rfl) | exact Or.inr (Or.inr rfl))) (se_pow (se_int) (se_int))) (sa_nil)))) (se_mod (se_fdiv (se_var (i := 1) rfl (by first | exact Or.inl rfl | exact Or.inr (Or.inl rfl) | exact Or.inr (Or.inr rfl))) (se_int)) (se_int)))) (sss_cons (ss_setlc (own := [("_law_cell", 7)]) (i := 4) rfl sc_law.nd rfl rfl (sw_true rfl rfl rfl (by decide +kernel)) (si_list (se_sl (se_var (i := 0) rfl (by first | exact Or.inl rfl | exact Or.inr (Or.inl rfl) | exact Or.inr (Or.inr rfl))) (so_none) (so_some (se_int)))) (blkOk_by (by rfl)) (nt_name) (fun _ _ _ _ _ => pg_name (i := 7) sc_law.nd rfl (Or.inl rfl)) (fun _ _ _ _ _ => sts_nil) (fun _ _ _ _ _ => se_call c_L_row_3 (hr.mono (by decide)) (by rfl) takes0 (sa_cons (se_var (i := 7) rfl (by first | exact Or.inl rfl | exact Or.inr (Or.inl rfl) | exact Or.inr (Or.inr rfl))) (sa_cons (se_var (i := 3) rfl (by first | exact Or.inl rfl | exact Or.inr (Or.inl rfl) | exact Or.inr (Or.inr rfl))) (sa_cons (se_var (i := 2) rfl (by first | exact Or.inl rfl | exact Or.inr (Or.inl rfl) | exact Or.inr (Or.inr rfl))) (sa_nil)))))) (sss_cons (ss_if (sb_eq hr.units (se_mod (se_fdiv (se_var (i := 1) rfl (by first | exact Or.inl rfl | exact Or.inr (Or.inl rfl) | exact Or.inr (Or.inr rfl))) (se_int)) (se_int)) (se_int)) (sss_one (ss_set (i := 4) sc_law.nd rfl (by first | exact Or.inl rfl | exact Or.inr rfl) (se_cat (se_var (i := 4) rfl (by first | exact Or.inl rfl | exact Or.inr (Or.inl rfl) | exact Or.inr (Or.inr rfl))) (se_sl (se_var (i := 4) rfl (by first | exact Or.inl rfl | exact Or.inr (Or.inl rfl) | exact Or.inr (Or.inr rfl))) (so_none) (so_some (se_int)))))) (sss_nil)) (sss_cons (ss_set (i := 5) sc_law.nd rfl (by first | exact Or.inl rfl | exact Or.inr rfl) (se_list (by rfl) b_list (sa_cons (se_var (i := 4) rfl (by first | exact Or.inl rfl | exact Or.inr (Or.inl rfl) | exact Or.inr (Or.inr rfl))) (sa_nil)))) (sss_cons (ss_for po0 rfl (si_range1 (by rfl) b_range (sa_cons (se_int) (sa_nil))) (sg_name (i := 6) sc_law.nd rfl (by first | exact Or.inl rfl | exact Or.inr rfl)) (sss_one (ss_if (sw_sb (sw_or (sb_not (sb_val (se_call c_L_line_3 (hr.mono (by decide)) (by rfl) tk0 (sa_cons (se_var (i := 4) rfl (by first | exact Or.inl rfl | exact Or.inr (Or.inl rfl) | exact Or.inr (Or.inr rfl))) (sa_cons (se_add (se_var (i := 3) rfl (by first | exact Or.inl rfl | exact Or.inr (Or.inl rfl) | exact Or.inr (Or.inr rfl))) (se_mod (se_add (se_var (i := 1) rfl (by first | exact Or.inl rfl | exact Or.inr (Or.inl rfl) | exact Or.inr (Or.inr rfl))) (se_var (i := 6) rfl (by first | exact Or.inl rfl | exact Or.inr (Or.inl rfl) | exact Or.inr (Or.inr rfl)))) (se_int))) (sa_cons (se_var (i := 2) rfl (by first | exact Or.inl rfl | exact Or.inr (Or.inl rfl) | exact Or.inr (Or.inr rfl))) (sa_nil))))))) (sw_or1 (sb_ne hr.units (se_var (i := 4) rfl (by first | exact Or.inl rfl | exact Or.inr (Or.inl rfl) | exact Or.inr (Or.inr rfl))) (se_var (i := 5) rfl (by first | exact Or.inl rfl | exact Or.inr (Or.inl rfl) | exact Or.inr (Or.inr rfl))))))) (sss_one (ss_ret (se_bl))) (sss_nil)))) (sss_cons (ss_for po0 rfl (si_range1 (by rfl) b_range (sa_cons (se_int) (sa_nil))) (sg_name (i := 6) sc_law.nd rfl (by first | exact Or.inl rfl | exact Or.inr rfl)) (sss_one (ss_if (sw_sb (sw_or (sb_not (sb_val (se_call c_L_near_2 (hr.mono (by decide)) (by rfl) tk0 (sa_cons (se_var (i := 4) rfl (by first | exact Or.inl rfl | exact Or.inr (Or.inl rfl) | exact Or.inr (Or.inr rfl))) (sa_cons (se_mod (se_add (se_var (i := 1) rfl (by first | exact Or.inl rfl | exact Or.inr (Or.inl rfl) | exact Or.inr (Or.inr rfl))) (se_mul (se_int) (se_var (i := 6) rfl (by first | exact Or.inl rfl | exact Or.inr (Or.inl rfl) | exact Or.inr (Or.inr rfl))))) (se_int)) (sa_nil)))))) (sw_or1 (sb_ne hr.units (se_var (i := 4) rfl (by first | exact Or.inl rfl | exact Or.inr (Or.inl rfl) | exact Or.inr (Or.inr rfl))) (se_var (i := 5) rfl (by first | exact Or.inl rfl | exact Or.inr (Or.inl rfl) | exact Or.inr (Or.inr rfl))))))) (sss_one (ss_ret (se_bl))) (sss_nil)))) (sss_one (ss_ret (se_bl))))))))))
theorem ok_line_of : ∀ ws M Q E, ws.length = 2 → sp_line_of ws M Q E → bodySpec 2 m_line_of ws M Q E := by
  intro ws M Q E hl h
  unfold sp_line_of at h
  split at h
  · simp [m_line_of, CDiv]
    exact ⟨by omega, h.2⟩
  · exact h.elim
theorem ok_rows_of_line : ∀ ws M Q E, ws.length = 3 → sp_rows_of_line ws M Q E → bodySpec 4 m_rows_of_line ws M Q E := by
  intro ws M Q E hl h
  unfold sp_rows_of_line at h
  split at h
  · rename_i xs line b
    obtain ⟨rs, rfl, hn, hb, h⟩ := h
    simp [m_rows_of_line, LW.tLcC, iList2]
    refine lcI_filt (fun x => decide (plW x / b = line)) id ?_ _ _ ?_ ?_ ?_
    · simp
    · intro x hx K K' hk
      obtain ⟨r, _, rfl⟩ := List.mem_map.mp hx
      rw [pl_w] at hk
      simp [Rw.w, sp_line_of] at hk ⊢
      refine ⟨hb, ?_⟩
      simpa [eq_comm] using hk
    · simp; omega
    · simp [filt_w, pl_w]
      intro p hp
      exact h p hp
  · exact h.elim
theorem ok_rows_of_near : ∀ ws M Q E, ws.length = 2 → sp_rows_of_near ws M Q E → bodySpec 3 m_rows_of_near ws M Q E := by
  intro ws M Q E hl h
  unfold sp_rows_of_near at h
  split at h
  · rename_i xs line
    obtain ⟨rs, rfl, hn, h⟩ := h
    simp [m_rows_of_near, LW.tLcC, iList2]
    refine lcI_filt (fun x => decide (nrW x = line)) id ?_ _ _ ?_ ?_ ?_
    · simp
    · intro x hx K K' hk
      obtain ⟨r, _, rfl⟩ := List.mem_map.mp hx
      rw [nr_w] at hk
      simp [Rw.w] at hk ⊢
      simpa [eq_comm] using hk
    · simp; omega
    · simp [filt_w, nr_w]
      intro p hp
      exact h p hp
  · exact h.elim
theorem ok_L_cell_at : ∀ ws M Q E, ws.length = 2 → sp_L_cell_at ws M Q E → bodySpec 2 m_L_cell_at ws M Q E := by
  intro ws M Q E hl h
  unfold sp_L_cell_at at h
  split at h
  · rename_i xs k
    obtain ⟨ns, rfl, h0, hn, h⟩ := h
    simp [m_L_cell_at]
    split
    · rename_i hk
      obtain ⟨k, rfl⟩ := Int.eq_ofNat_of_zero_le h0
      rw [atI_ints ns k (by omega)]
      exact h _
    · exact h _
  · exact h.elim
theorem ok_L_row : ∀ ws M Q E, ws.length = 3 → sp_L_row ws M Q E → bodySpec 6 m_L_row ws M Q E := by
  intro ws M Q E hl h
  unfold sp_L_row at h
  split at h
  · rename_i c b wd
    obtain ⟨hb, h⟩ := h
    simp [m_L_row, CMul, CDiv, CPow]
    refine ⟨Or.inr ⟨by omega, by omega⟩, hb.1, ?_⟩
    have e : ∀ j : Int, 0 < j → ∀ v : W, v = .int j → (match v with
        | W.int j => 0 < j ∧
            if c * 48271 % 2147483647 / 64 % 4 = 0 then Q (W.tup [W.int (c * 48271 % 2147483647 / 4 % j), W.tup [W.str "read", W.int ((b + c * 48271 % 2147483647 % 4) * wd + c * 48271 % 2147483647 / 1024 % wd)], W.int (c % 1000000000000000000000000000000000000000000000000000000000000)]) M
            else if c * 48271 % 2147483647 / 64 % 4 = 1 then Q (W.tup [W.int (c * 48271 % 2147483647 / 4 % j), W.tup [W.str "write", W.int ((b + c * 48271 % 2147483647 % 4) * wd + c * 48271 % 2147483647 / 1024 % wd), W.int (-(c % 1000000000000000000000000000000000000000000000000000000000000))], W.int 0]) M
              else if c * 48271 % 2147483647 / 64 % 4 = 2 then Q (W.tup [W.int (c * 48271 % 2147483647 / 4 % j), W.tup [W.str "add", W.int ((b + c * 48271 % 2147483647 % 4) * wd + c * 48271 % 2147483647 / 1024 % wd), W.int (c % 1000000000000000000000000000000000000000000000000000000000000)], W.int (-(c * 48271 % 2147483647))]) M
                else Q (W.tup [W.int (c * 48271 % 2147483647 / 4 % j), W.tup [W.str "swap", W.int ((b + c * 48271 % 2147483647 % 4) * wd + c * 48271 % 2147483647 / 1024 % wd), W.int (c * 48271 % 2147483647), W.int (c % 1000000000000000000000000000000000000000000000000000000000000)], W.int (c * 48271 % 2147483647)]) M
        | _ => False) := by
      rintro j hj v rfl
      refine ⟨hj, ?_⟩
      split
      · exact h ⟨_, "read", _, [], _⟩
      split
      · exact h ⟨_, "write", _, [_], _⟩
      split
      · exact h ⟨_, "add", _, [_], _⟩
      · exact h ⟨_, "swap", _, [_, _], _⟩
    rcases Int.emod_two_eq (c * 48271 % 2147483647 / 256) with q | q
    · rw [q]; exact e 4 (by omega) _ rfl
    · rw [q]; exact e 16 (by omega) _ rfl
  · exact h.elim
theorem ok_L_line : ∀ ws M Q E, ws.length = 3 → sp_L_line ws M Q E → bodySpec 6 m_L_line ws M Q E := by
  intro ws M Q E hl h
  unfold sp_L_line at h
  split at h
  · rename_i xs line b
    obtain ⟨rs, rfl, hn, hb, h⟩ := h
    simp [m_L_line, sp_rows_of_line]
    refine ⟨rs, rfl, hn, by omega, fun p hp q hq => ?_⟩
    obtain ⟨hqp, hqM⟩ := upd2_fresh hq
    simp [tFor2, iList2]
    refine forI_ind (fun xs env M' => ∃ (d r : List Rw) (s5 : Option W), rs = d ++ r ∧ xs = r.map Rw.w ∧ M' p = some (.flat (.lst ((rs.filter fun r => decide (r.place / b = line)).map Rw.w))) ∧ M' q = some (.flat (.lst ((d.filter fun r => decide (r.place / b = line)).map Rw.w))) ∧
      env = [some (W.lst (List.map Rw.w rs)), some (W.int line), some (W.int b), some (W.ref p), some (W.ref q), s5]) ?_ ?_ _ _ _ ⟨[], rs, _, rfl, rfl, by simp [upd2, Ne.symm hqp], by simp [upd2], rfl⟩
    · rintro env M' ⟨d, r, s5, e1, e2, hp', hq', rfl⟩
      have : r = [] := by cases r with | nil => rfl | cons _ _ => cases e2
      subst this
      rw [List.append_nil] at e1
      subst e1
      refine ⟨trivial, ?_⟩
      simp [m_L_line_2, hp', tBm2, -rEq2]
      refine rNe_same (drf_ref hp' (told_rows _)) (drf_ref hq' (told_rows _)) ((told_rows _).mono (by decide)) ?_
      simp [hp', sp_rows_of_line, -rEq2]
      refine ⟨by have := List.length_filter_le (fun r : Rw => decide (r.place / b = line)) rs; omega, rs, rfl, hn, by omega, fun z hz => ?_⟩
      obtain ⟨hzp, hzM⟩ := upd2_fresh hz
      have hzq : z ≠ q := fun e => by rw [e, hq'] at hzM; cases hzM
      refine rEq_same (drf_ref upd2_same (told_rows _)) (drf_ref (by rw [upd2_ne (Ne.symm hzq), upd2_ne hqp]; exact hq') (told_rows _)) ((told_rows _).mono (by decide)) (h _)
    · rintro x xs env M' K ⟨d, r, s5, e1, e2, hp', hq', rfl⟩ hK
      cases r with
      | nil => cases e2
      | cons r rr =>
        cases e2
        refine ⟨trivial, ?_⟩
        have e : decide (r.place / b = line) = (decide (line * b ≤ r.place) && decide (r.place < line * b + b)) := by
          rw [Bool.eq_iff_iff]
          simp only [Bool.and_eq_true, decide_eq_true_eq]
          have h1 := Int.mul_ediv_add_emod r.place b
          have h2 := Int.emod_nonneg r.place (show b ≠ 0 by omega)
          have h3 := Int.emod_lt_of_pos r.place hb.1
          constructor
          · intro e
            rw [e, Int.mul_comm] at h1
            omega
          · intro ⟨e1, e2⟩
            have e3 : line = r.place / b := by
              rcases Int.lt_trichotomy line (r.place / b) with z | z | z
              · have : (line + 1) * b ≤ r.place / b * b := Int.mul_le_mul_of_nonneg_right (by omega) (by omega)
                rw [Int.add_mul, Int.mul_comm (r.place / b)] at this
                omega
              · exact z
              · have : (r.place / b + 1) * b ≤ line * b := Int.mul_le_mul_of_nonneg_right (by omega) (by omega)
                rw [Int.add_mul, Int.mul_comm (r.place / b)] at this
                omega
            exact e3.symm
        have hl := List.length_filter_le (fun r : Rw => decide (r.place / b = line)) d
        have hd : d.length ≤ rs.length := by rw [e1]; simp
        have cont : ∀ s5, K [some (W.lst (List.map Rw.w rs)), some (W.int line), some (W.int b), some (W.ref p), some (W.ref q), s5] (if decide (r.place / b = line) = true then upd2 M' q (some (.flat (.lst ((d.filter fun r => decide (r.place / b = line)).map Rw.w ++ [r.w])))) else M') := by
          intro s5
          refine hK _ _ ⟨d ++ [r], rr, s5, by rw [e1]; simp, rfl, ?_, ?_, rfl⟩
          · split
            · rw [upd2_ne (Ne.symm hqp)]; exact hp'
            · exact hp'
          · rw [List.filter_append]
            split
            · rename_i z
              rw [upd2_same]
              simp [List.filter_cons, of_decide_eq_true z]
            · rename_i z
              simp [List.filter_cons, z]; exact hq'
        rw [e] at cont
        simp [m_L_line_1, CMul, Rw.w]
        refine ⟨Or.inr ⟨by omega, by omega⟩, ?_⟩
        by_cases c1 : line * b ≤ r.place
        · rw [if_pos c1]
          refine ⟨Or.inr ⟨by omega, by omega⟩, ?_⟩
          by_cases c2 : r.place < line * b + b
          · rw [if_pos c2]
            simp [c1, c2] at cont
            simp [tBm2, hq']
            exact ⟨by omega, cont _⟩
          · rw [if_neg c2]
            simp [c1, c2] at cont
            exact cont _
        · rw [if_neg c1]
          simp [c1] at cont
          exact cont _
  · exact h.elim
theorem ok_L_near : ∀ ws M Q E, ws.length = 2 → sp_L_near ws M Q E → bodySpec 5 m_L_near ws M Q E := by
  intro ws M Q E hl h
  unfold sp_L_near at h
  split at h
  · rename_i xs line
    obtain ⟨rs, rfl, hn, h⟩ := h
    simp [m_L_near, sp_rows_of_near]
    refine ⟨rs, rfl, hn, fun p hp q hq => ?_⟩
    obtain ⟨hqp, hqM⟩ := upd2_fresh hq
    simp [tFor2, iList2]
    refine forI_ind (fun xs env M' => ∃ (d r : List Rw) (s5 : Option W), rs = d ++ r ∧ xs = r.map Rw.w ∧ M' p = some (.flat (.lst ((rs.filter fun r => decide (r.near = line)).map Rw.w))) ∧ M' q = some (.flat (.lst ((d.filter fun r => decide (r.near = line)).map Rw.w))) ∧
      env = [some (W.lst (List.map Rw.w rs)), some (W.int line), some (W.ref p), some (W.ref q), s5]) ?_ ?_ _ _ _ ⟨[], rs, _, rfl, rfl, by simp [upd2, Ne.symm hqp], by simp [upd2], rfl⟩
    · rintro env M' ⟨d, r, s5, e1, e2, hp', hq', rfl⟩
      have : r = [] := by cases r with | nil => rfl | cons _ _ => cases e2
      subst this
      rw [List.append_nil] at e1
      subst e1
      refine ⟨trivial, ?_⟩
      simp [m_L_near_2, hp', tBm2, -rEq2]
      refine rNe_same (drf_ref hp' (told_rows _)) (drf_ref hq' (told_rows _)) ((told_rows _).mono (by decide)) ?_
      simp [hp', sp_rows_of_near, -rEq2]
      refine ⟨by have := List.length_filter_le (fun r : Rw => decide (r.near = line)) rs; omega, rs, rfl, hn, fun z hz => ?_⟩
      obtain ⟨hzp, hzM⟩ := upd2_fresh hz
      have hzq : z ≠ q := fun e => by rw [e, hq'] at hzM; cases hzM
      refine rEq_same (drf_ref upd2_same (told_rows _)) (drf_ref (by rw [upd2_ne (Ne.symm hzq), upd2_ne hqp]; exact hq') (told_rows _)) ((told_rows _).mono (by decide)) (h _)
    · rintro x xs env M' K ⟨d, r, s5, e1, e2, hp', hq', rfl⟩ hK
      cases r with
      | nil => cases e2
      | cons r rr =>
        cases e2
        refine ⟨trivial, ?_⟩
        have hl := List.length_filter_le (fun r : Rw => decide (r.near = line)) d
        have hd : d.length ≤ rs.length := by rw [e1]; simp
        have cont : ∀ s5, K [some (W.lst (List.map Rw.w rs)), some (W.int line), some (W.ref p), some (W.ref q), s5] (if decide (r.near = line) = true then upd2 M' q (some (.flat (.lst ((d.filter fun r => decide (r.near = line)).map Rw.w ++ [r.w])))) else M') := by
          intro s5
          refine hK _ _ ⟨d ++ [r], rr, s5, by rw [e1]; simp, rfl, ?_, ?_, rfl⟩
          · split
            · rw [upd2_ne (Ne.symm hqp)]; exact hp'
            · exact hp'
          · rw [List.filter_append]
            split
            · rename_i z
              rw [upd2_same]
              simp [List.filter_cons, of_decide_eq_true z]
            · rename_i z
              simp [List.filter_cons, z]; exact hq'
        simp [m_L_near_1, Rw.w]
        by_cases c1 : r.near = line
        · rw [if_pos c1]
          simp [c1] at cont
          simp [tBm2, hq']
          exact ⟨by omega, cont _⟩
        · rw [if_neg c1]
          simp [c1] at cont
          exact cont _
  · exact h.elim
theorem ok_law : ∀ ws M Q E, ws.length = 1 → sp_law ws M Q E → bodySpec 8 m_law ws M Q E := by
  intro ws M Q E hl h
  unfold sp_law at h
  split at h
  · rename_i xs
    obtain ⟨⟨ns, rfl, hn⟩, h2⟩ := h
    have main : ∀ (f wd bb : Int) (rs : List Rw), rs.length ≤ 200 → 0 < wd → wd ≤ 16 → ∀ M, m_law_5 { nx := fun x M' => Q W.non M', rt := Q, bk := fun x x_1 => False, ct := fun x x_1 => False, ex := fun c x M' => E c M' } [some (.scr (ns.map W.int)), some (.int f), some (.int wd), some (.int bb), some (.lst (rs.map Rw.w)), none, none, none] M := by
      intro f wd bb rs hl h0 h1 M
      simp [m_law_5, tFor2, iRng2_1]
      refine forR_ind (fun i env M' => ∃ s, env = [some (.scr (ns.map W.int)), some (.int f), some (.int wd), some (.int bb), some (.lst (rs.map Rw.w)), some (.lst (rs.map Rw.w)), s, none]) 5 ?_ ?_ _ _ _ _ (by simp) ⟨_, rfl⟩
      · rintro env M' ⟨s, rfl⟩
        refine ⟨trivial, ?_⟩
        simp [m_law_4, tFor2, iRng2_1]
        refine forR_ind (fun i env M' => ∃ s, env = [some (.scr (ns.map W.int)), some (.int f), some (.int wd), some (.int bb), some (.lst (rs.map Rw.w)), some (.lst (rs.map Rw.w)), s, none]) 16 ?_ ?_ _ _ _ _ (by simp) ⟨_, rfl⟩
        · rintro env M' ⟨s, rfl⟩
          simp [m_law_3]
          exact h2 _
        · rintro i env M' K hi ⟨s, rfl⟩ hK
          simp [m_law_2, CMul, sp_L_near, -rEq2]
          exact ⟨rs, rfl, by omega, fun M' => rNe_same (drf_told (told_rows _)) (drf_told (told_rows _)) ((told_rows _).mono (by decide)) (hK _ _ ⟨_, rfl⟩)⟩
      · rintro i env M' K hi ⟨s, rfl⟩ hK
        simp [m_law_1, sp_L_line, -rEq2]
        exact ⟨rs, rfl, by omega, by omega, fun M' => rNe_same (drf_told (told_rows _)) (drf_told (told_rows _)) ((told_rows _).mono (by decide)) (hK _ _ ⟨_, rfl⟩)⟩
    simp [m_law, sp_L_cell_at, CPow, CDiv]
    refine ⟨ns, rfl, by omega, fun f => ?_⟩
    obtain ⟨x, hx, e⟩ := atI_some [W.int 1, W.int 2, W.int 3, W.int 16] (f % 4) (by omega) (by simp; omega)
    have hx : ∃ wd, x = .int wd ∧ 0 < wd ∧ wd ≤ 16 := by
      simp at hx
      rcases hx with rfl | rfl | rfl | rfl <;> exact ⟨_, rfl, by omega, by omega⟩
    obtain ⟨wd, rfl, hw0, hw1⟩ := hx
    simp [e]
    obtain ⟨x, hx, e⟩ := atI_some [W.int 0, W.int (f % 100000000000000000000000000000000000000000000000000)] (f / 4 % 2) (by omega) (by simp; omega)
    have hx : ∃ bb, x = .int bb := by
      simp at hx
      rcases hx with rfl | rfl <;> exact ⟨_, rfl⟩
    obtain ⟨bb, rfl⟩ := hx
    simp [e, LW.tLc2, iList2, tSl2', rSl2]
    refine lcI_all (fun w => ∃ r : Rw, w = r.w) ?_ _ _ ?_ ?_ ?_
    · trivial
    · intro x hx K hK
      have hx := List.mem_of_mem_drop (List.mem_of_mem_take hx)
      obtain ⟨n, _, rfl⟩ := List.mem_map.mp hx
      simp [sp_L_row]
      exact ⟨⟨hw0, hw1⟩, fun r => hK _ ⟨r, rfl⟩⟩
    · simp; omega
    · intro ys hl hy
      obtain ⟨rs, rfl⟩ := ex_map hy
      simp at hl ⊢
      split
      · refine ⟨by omega, ?_⟩
        have := main f wd bb (rs ++ (rs.drop (HT.sIx rs.length 0 none)).take (HT.sIx rs.length rs.length (some 3) - HT.sIx rs.length 0 none)) (by simp; omega) hw0 hw1 M
        simpa using this
      · exact main f wd bb rs (by omega) hw0 hw1 M
  · exact h.elim
theorem law_true (ns : List Int) (hl : ns.length ≤ 63) : sp_law [.scr (ns.map W.int)] (fun _ => none) (fun w _ => w = .bl true) fun _ _ => False := ⟨⟨ns, rfl, hl⟩, fun _ => rfl⟩
end
def D_line_of : He.DefD := ⟨("line_of", none), "line_of", "line_of", defArgs s_line_of, defBody s_line_of, defScope s_line_of, [], []⟩
def D_rows_of_line : He.DefD := ⟨("rows_of_line", none), "rows_of_line", "rows_of_line", defArgs s_rows_of_line, defBody s_rows_of_line, defScope s_rows_of_line, [], []⟩
def D_rows_of_near : He.DefD := ⟨("rows_of_near", none), "rows_of_near", "rows_of_near", defArgs s_rows_of_near, defBody s_rows_of_near, defScope s_rows_of_near, [], []⟩
def D_L_cell_at : He.DefD := ⟨("_law_cell_at", none), "_law_cell_at", "_law_cell_at", defArgs s_L_cell_at, defBody s_L_cell_at, defScope s_L_cell_at, [], []⟩
def D_L_row : He.DefD := ⟨("_law_row", none), "_law_row", "_law_row", defArgs s_L_row, defBody s_L_row, defScope s_L_row, [], []⟩
def D_L_line : He.DefD := ⟨("_law_line", none), "_law_line", "_law_line", defArgs s_L_line, defBody s_L_line, defScope s_L_line, [], []⟩
def D_L_near : He.DefD := ⟨("_law_near", none), "_law_near", "_law_near", defArgs s_L_near, defBody s_L_near, defScope s_L_near, [], []⟩
def D_law : He.DefD := ⟨("law", none), "law", "law", defArgs s_law, defBody s_law, defScope s_law, [], []⟩
def fn : List He.DefD := [D_line_of, D_rows_of_line, D_rows_of_near, D_L_cell_at, D_L_row, D_L_line, D_L_near, D_law]
def fa : List He.Fa := [.free "len", .free "isinstance", .free "list", .free "range", .glo "line_of", .glo "rows_of_line", .glo "rows_of_near", .glo "_law_cell_at", .glo "_law_row", .glo "_law_line", .glo "_law_near", .glo "law"]
theorem facts {P : Program} {w : World} {K : PySem.W.Frag} {h : Heap} {mg : Str → Option Value} {f : Addr} (X : K.In h) (Gn : h.Ns mainGlobals mg) (hfa : mg ("law" : Str) = some (.ref f)) (c : He.SaysD fa fn K) :
    ∃ fd : FuncData, (∀ (s : Shared) (v : Value), BindsTo s fd ⟨[v], []⟩ [("_law_script", v)]) ∧ ∀ base : Heap, K.In base → base.Ns mainGlobals mg → FnOk P w K mg base (L2.CX P w) 4 f fd ["_law_script"] (spOf (GK K) 1 sp_law) := by
  obtain ⟨fd_line_of, F_line_of⟩ := c.def_ 0 (d := D_line_of) rfl
  obtain ⟨fd_rows_of_line, F_rows_of_line⟩ := c.def_ 1 (d := D_rows_of_line) rfl
  obtain ⟨fd_rows_of_near, F_rows_of_near⟩ := c.def_ 2 (d := D_rows_of_near) rfl
  obtain ⟨fd_L_cell_at, F_L_cell_at⟩ := c.def_ 3 (d := D_L_cell_at) rfl
  obtain ⟨fd_L_row, F_L_row⟩ := c.def_ 4 (d := D_L_row) rfl
  obtain ⟨fd_L_line, F_L_line⟩ := c.def_ 5 (d := D_L_line) rfl
  obtain ⟨fd_L_near, F_L_near⟩ := c.def_ 6 (d := D_L_near) rfl
  obtain ⟨fd_law, F_law⟩ := c.def_ 7 (d := D_law) rfl
  have b_len : mg "len" = Option.none := He.free_ok X Gn (c.fact 0 rfl)
  have b_isinstance : mg "isinstance" = Option.none := He.free_ok X Gn (c.fact 1 rfl)
  have b_list : mg "list" = Option.none := He.free_ok X Gn (c.fact 2 rfl)
  have b_range : mg "range" = Option.none := He.free_ok X Gn (c.fact 3 rfl)
  have e := hfa.symm.trans (He.glo_ok X Gn (c.fact 11 rfl))
  cases e
  have bl := FunD.bindsA (ps := ["_law_script"]) F_law fun _ _ _ _ _ _ us hl => match us, hl with | [_], _ => rfl
  refine ⟨fd_law, fun s v => bl s [v] rfl, fun base _ _ => ?_⟩
  have O_line_of := FnOk.to (d_line_of (P := P) (w := w) (mg := mg) (base := base) F_line_of ) ok_line_of
  have c_line_of_2 : CallS P w K mg base (G K) "line_of" 1 2 [] sp_line_of := callS_mk O_line_of (He.glo_ok X Gn (c.fact 4 rfl)) F_line_of.kp (F_line_of.bindsN fun _ _ _ _ _ _ us hl => match us, hl with | [_, _], _ => rfl)
  have O_rows_of_line := FnOk.to (d_rows_of_line (P := P) (w := w) (mg := mg) (base := base) F_rows_of_line c_line_of_2) ok_rows_of_line
  have O_rows_of_near := FnOk.to (d_rows_of_near (P := P) (w := w) (mg := mg) (base := base) F_rows_of_near ) ok_rows_of_near
  have O_L_cell_at := FnOk.to (d_L_cell_at (P := P) (w := w) (mg := mg) (base := base) F_L_cell_at b_len) ok_L_cell_at
  have O_L_row := FnOk.to (d_L_row (P := P) (w := w) (mg := mg) (base := base) F_L_row ) ok_L_row
  have c_rows_of_line_3 : CallS P w K mg base (G K) "rows_of_line" 2 3 [] sp_rows_of_line := callS_mk O_rows_of_line (He.glo_ok X Gn (c.fact 5 rfl)) F_rows_of_line.kp (F_rows_of_line.bindsN fun _ _ _ _ _ _ us hl => match us, hl with | [_, _, _], _ => rfl)
  have O_L_line := FnOk.to (d_L_line (P := P) (w := w) (mg := mg) (base := base) F_L_line c_rows_of_line_3 b_isinstance b_list) ok_L_line
  have c_rows_of_near_2 : CallS P w K mg base (G K) "rows_of_near" 1 2 [] sp_rows_of_near := callS_mk O_rows_of_near (He.glo_ok X Gn (c.fact 6 rfl)) F_rows_of_near.kp (F_rows_of_near.bindsN fun _ _ _ _ _ _ us hl => match us, hl with | [_, _], _ => rfl)
  have O_L_near := FnOk.to (d_L_near (P := P) (w := w) (mg := mg) (base := base) F_L_near c_rows_of_near_2 b_isinstance b_list) ok_L_near
  have c_L_cell_at_2 : CallS P w K mg base (G K) "_law_cell_at" 1 2 [] sp_L_cell_at := callS_mk O_L_cell_at (He.glo_ok X Gn (c.fact 7 rfl)) F_L_cell_at.kp (F_L_cell_at.bindsN fun _ _ _ _ _ _ us hl => match us, hl with | [_, _], _ => rfl)
  have c_L_row_3 : CallS P w K mg base (G K) "_law_row" 1 3 [] sp_L_row := callS_mk O_L_row (He.glo_ok X Gn (c.fact 8 rfl)) F_L_row.kp (F_L_row.bindsN fun _ _ _ _ _ _ us hl => match us, hl with | [_, _, _], _ => rfl)
  have c_L_line_3 : CallS P w K mg base (G K) "_law_line" 3 3 [] sp_L_line := callS_mk O_L_line (He.glo_ok X Gn (c.fact 9 rfl)) F_L_line.kp (F_L_line.bindsN fun _ _ _ _ _ _ us hl => match us, hl with | [_, _, _], _ => rfl)
  have c_L_near_2 : CallS P w K mg base (G K) "_law_near" 2 2 [] sp_L_near := callS_mk O_L_near (He.glo_ok X Gn (c.fact 10 rfl)) F_L_near.kp (F_L_near.bindsN fun _ _ _ _ _ _ us hl => match us, hl with | [_, _], _ => rfl)
  have O_law := FnOk.to (d_law (P := P) (w := w) (mg := mg) (base := base) F_law c_L_cell_at_2 c_L_row_3 b_list b_range c_L_line_3 c_L_near_2) ok_law
  exact O_law
abbrev R : PySem.W.OpenRow := PySem.W.OpenLaw.row PySem.Challenge.rw_linewarden_k53_rows_of_line_and_near
abbrev hk : PySem.W.Hook := He.hookD 4 fa fn
def ob (s : PySem.W.SharedT) : He.AlD := He.obsDG 4 fa fn (HandSHeadRun.getT s)
theorem ob_eq (s : PySem.W.SharedT) : ob s = hk.obs s.abs := He.obsDG_eq (HandSHeadRun.getT_eq s)
def loose0 : List PySem.Str := ["line_of", "rows_of_line", "rows_of_near", "_law_cell_at", "_law_row", "_law_line", "_law_near"]
def loose : List PySem.Str := loose0
theorem run (w : World) : HandSHeadRun.RunEq R (PySem.W.view R.prog [10]) hk ob 4000 loose w := by
  intro os
  kernel_rfl
end K53
open PySem PySem.W PySem.Calls PyProof.Rows
theorem PySem.Challenge.cw_linewarden_k53_rows_of_line_and_near_holds : PySem.Challenge.rw_linewarden_k53_rows_of_line_and_near.Holds := by
  w_on; o_law
  refine HandSHeadRun.head_any (r := OpenLaw.row PySem.Challenge.rw_linewarden_k53_rows_of_line_and_near) (q := view (OpenLaw.row PySem.Challenge.rw_linewarden_k53_rows_of_line_and_near).prog [10]) (H := K53.hk) (ob := K53.ob) (M := 4000) (loose := K53.loose) (d := HandSHeadRun.topDef (OpenLaw.row PySem.Challenge.rw_linewarden_k53_rows_of_line_and_near).prog 10) (kwd := []) K53.ob_eq
    (by kernel_rfl) (fun s => by kernel_rfl) K53.run (by kernel_rfl) (by kernel_rfl) (by kernel_rfl) (by rfl) (by first | assumption | decide +kernel) (by decide +kernel) ⟨rfl, rfl, rfl, rfl, rfl, by decide +kernel⟩ ?hw ?hc
  case hw => w_witness2
  case hc =>
    refine LW.walk_ofX (l := PySem.Challenge.rw_linewarden_k53_rows_of_line_and_near) (n := 63) (k := 4) (x := "_law_script") rfl (by decide) (by kernel_rfl) ⟨rfl, by decide, by decide⟩ ?F
    intro w mg fa h Y G hmg0
    obtain ⟨K, KX, c⟩ := Y
    have hmg : mg ("law" : PySem.Str) = some (.ref fa) := by
      have e : (HandSHeadRun.topDef (OpenLaw.row PySem.Challenge.rw_linewarden_k53_rows_of_line_and_near).prog 10).name = ("law" : PySem.Str) := by kernel_rfl
      rw [← e]
      exact hmg0
    obtain ⟨fd, hb, hF⟩ := K53.facts (P := (PySem.Challenge.rw_linewarden_k53_rows_of_line_and_near).prog) (w := w) KX G hmg c
    exact ⟨K, fd, K53.sp_law, KX, hb, K53.law_true, hF⟩
#print axioms PySem.Challenge.cw_linewarden_k53_rows_of_line_and_near_holds

