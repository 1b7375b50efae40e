import PyProof.Rows.All
import Wide.All
import OpenK.AllK
import Wide.FinOn
import HandS.ForMost
import HandS.ForExc
import HandS.DictTup
import HandS.SortKw
import HandS.Deep
import HandS.Defaults
import HandS.IsInst
import HandS.TupAny
import HandS.HeadHook2
import HandS.HeadEnd
import HandS.Ends
import HandS.Head0
import HandS.Head1
import HandS.Head2
import PySem.Challenge.RW_linewarden_k01_an_address_cut
set_option Elab.async false
set_option linter.all false
set_option maxRecDepth 100000
set_option maxHeartbeats 4000000
namespace LW
open PySem L2

/-- a value: what never changes is a tree -/
inductive W where
  | non | bl (b : Bool) | int (i : Int) | str (s : String)
  | tup (xs : List W) | lst (xs : List W) | scr (xs : List W)
  | ins (C : String) (fs : List (String × W))
  | ref (a : Addr)
  | exn (C : String)

/-- what a cell holds: a list, a dict, an instance; or a whole object that is opened before use -/
inductive MO where
  | lst (xs : List W)
  | dic (kvs : List (W × W))
  | ins (C : String) (fs : List (String × W))
inductive BX where
  | val (w : W)
  | lst (xs : List W)
  | dic (kvs : List (W × W))
  | obj (C : String) (fs : List (String × BX))
  | lob (ts : List BX)
inductive Cell where
  | flat (m : MO)
  | box (t : BX)
abbrev Heap2 := Addr → Option Cell
def upd2 (M : Heap2) (a : Addr) (c : Option Cell) : Heap2 := fun b => if b = a then c else M b
theorem upd2_same {M : Heap2} {a : Addr} {c : Option Cell} : upd2 M a c a = c := by unfold upd2; rw [if_pos rfl]
theorem upd2_ne {M : Heap2} {a b : Addr} {c : Option Cell} (h : b ≠ a) : upd2 M a c b = M b := by unfold upd2; rw [if_neg h]
abbrev Env2 := List (Option W)

/-- the world of one run: the written part, the classes' addresses, the program and world -/
structure Gm where
  K : PySem.W.Frag
  cA : String → Addr

/-- ghosts: Z frozen, P kept for others, ft a cell's addresses -/
structure Gh where
  Z : Addr → Prop
  P : Addr → Prop
  ft : Addr → List Addr

/-- a key of a dict as the hand layer has it -/
def keyOf : W → Option Key
  | .int i => some (.inl i)
  | .str s => some (.inr (Str.ofString s))
  | _ => none

/-- a list that never changes: the script -/
def SqF (K : PySem.W.Frag) (H : Hp) (a : Addr) (xs : List V) : Prop :=
  (∃ o, H a = some (.frz o (.lst xs))) ∨
    ∃ (o : Obj) (its : Array Value) (n : Nat), K.lookup a = some o ∧ o.cls = .type "list" ∧ o.dict = none ∧ o.data = .seq its n ∧ its.size ≤ sizeLine ∧ Vals xs its.toList
theorem SqF.seq {K : PySem.W.Frag} {H : Hp} {a : Addr} {xs : List V} (h : SqF K H a xs) : SqL K H a xs := h.elim (fun h => .inl (.inr h)) .inr
section
variable (G : Gm) (Z : Addr → Prop) (H : Hp)
mutual
def Rep : W → V → Prop
  | .non, v => v = .non
  | .bl b, v => v = .bl b
  | .int i, v => v = .int i
  | .str s, v => v = .str (Str.ofString s)
  | .tup xs, v => ∃ p vs, v = .ref p ∧ SqT G.K H p vs ∧ RepL xs vs
  | .lst xs, v => ∃ p vs, v = .ref p ∧ Z p ∧ H p = some (.lst vs) ∧ RepL xs vs
  | .scr xs, v => ∃ p vs, v = .ref p ∧ SqF G.K H p vs ∧ RepL xs vs
  | .ins C fs, v => ∃ p dx vs, v = .ref p ∧ Z p ∧ H p = some (.ins (G.cA C) dx vs) ∧ RepF fs vs
  | .ref a, v => v = .ref a
  | .exn _, _ => False
def RepL : List W → List V → Prop
  | [], vs => vs = []
  | x :: xs, vs => ∃ v r, vs = v :: r ∧ Rep x v ∧ RepL xs r
def RepF : List (String × W) → List (Str × V) → Prop
  | [], vs => vs = []
  | (f, x) :: xs, vs => ∃ v r, vs = (Str.ofString f, v) :: r ∧ Rep x v ∧ RepF xs r
end
def RepD : List (W × W) → List (Key × V) → Prop
  | [], vs => vs = []
  | (k, x) :: xs, vs => ∃ kk v r, vs = (kk, v) :: r ∧ keyOf k = some kk ∧ Rep G Z H x v ∧ RepD xs r
def RepT : List (W × W) → List (List Key × V) → Prop
  | [], vs => vs = []
  | (k, x) :: xs, vs => ∃ ks kk v r, vs = (kk, v) :: r ∧ k = .tup ks ∧ ks.map keyOf = kk.map some ∧ Rep G Z H x v ∧ RepT xs r
def FlatR (a : Addr) : MO → Prop
  | .lst xs => ∃ vs, H a = some (.lst vs) ∧ RepL G Z H xs vs
  | .dic kvs => (∃ vs, H a = some (.dK vs) ∧ RepD G Z H kvs vs) ∨ (∃ vs, H a = some (.dT vs) ∧ RepT G Z H kvs vs)
  | .ins C fs => ∃ dx vs, H a = some (.ins (G.cA C) dx vs) ∧ RepF G Z H fs vs
mutual
def BoxR : BX → V → List Addr → Prop
  | .val w, v, A => A = [] ∧ Rep G Z H w v
  | .lst xs, v, A => ∃ p, v = .ref p ∧ A = [p] ∧ FlatR G Z H p (.lst xs)
  | .dic kvs, v, A => ∃ p, v = .ref p ∧ A = [p] ∧ FlatR G Z H p (.dic kvs)
  | .obj C fs, v, A => ∃ p dx vs B, v = .ref p ∧ A = p :: B ∧ H p = some (.ins (G.cA C) dx vs) ∧ BoxF fs vs B
  | .lob ts, v, A => ∃ p vs B, v = .ref p ∧ A = p :: B ∧ H p = some (.lst vs) ∧ BoxL ts vs B
def BoxL : List BX → List V → List Addr → Prop
  | [], vs, A => vs = [] ∧ A = []
  | t :: ts, vs, A => ∃ v r B C, vs = v :: r ∧ A = B ++ C ∧ BoxR t v B ∧ BoxL ts r C
def BoxF : List (String × BX) → List (Str × V) → List Addr → Prop
  | [], vs, A => vs = [] ∧ A = []
  | (f, t) :: ts, vs, A => ∃ v r B C, vs = (Str.ofString f, v) :: r ∧ A = B ++ C ∧ BoxR t v B ∧ BoxF ts r C
end
def CellR (a : Addr) : Cell → List Addr → Prop
  | .flat m, A => A = [a] ∧ FlatR G Z H a m
  | .box t, A => BoxR G Z H t (.ref a) A
end

/-- what is kept of the heap by every step -/
structure Keep (g : Gh) (H : Hp) (g' : Gh) (H' : Hp) : Prop where
  z : ∀ p, g.Z p → g'.Z p ∧ H' p = H p
  p : ∀ p, g.P p → g'.P p ∧ H' p = H p
  q : ∀ p, g'.P p → g.P p
  tups : ∀ b xs, H b = some (.tup xs) → H' b = some (.tup xs)
  frzs : ∀ b o u, H b = some (.frz o u) → H' b = some (.frz o u)
theorem Keep.refl (g : Gh) (H : Hp) : Keep g H g H := ⟨fun _ h => ⟨h, rfl⟩, fun _ h => ⟨h, rfl⟩, fun _ h => h, fun _ _ h => h, fun _ _ _ h => h⟩
theorem Keep.trans {g1 g2 g3 : Gh} {H1 H2 H3 : Hp} (a : Keep g1 H1 g2 H2) (b : Keep g2 H2 g3 H3) : Keep g1 H1 g3 H3 :=
  ⟨fun p h => ⟨(b.z p (a.z p h).1).1, ((b.z p (a.z p h).1).2).trans (a.z p h).2⟩, fun p h => ⟨(b.p p (a.p p h).1).1, ((b.p p (a.p p h).1).2).trans (a.p p h).2⟩,
    fun p h => a.q p (b.q p h), fun c xs h => b.tups c xs (a.tups c xs h), fun c o u h => b.frzs c o u (a.frzs c o u h)⟩

/-- the part of Keep that values lean on -/
structure KeepZ (Z : Addr → Prop) (H : Hp) (Z' : Addr → Prop) (H' : Hp) : Prop where
  z : ∀ p, Z p → Z' p ∧ H' p = H p
  tups : ∀ b xs, H b = some (.tup xs) → H' b = some (.tup xs)
  frzs : ∀ b o u, H b = some (.frz o u) → H' b = some (.frz o u)
theorem Keep.kz {g g' : Gh} {H H' : Hp} (k : Keep g H g' H') : KeepZ g.Z H g'.Z H' := ⟨k.z, k.tups, k.frzs⟩

section
variable {G : Gm} {Z Z' : Addr → Prop} {H H' : Hp}
theorem sqT_keep (k : KeepZ Z H Z' H') {p : Addr} {vs : List V} (h : SqT G.K H p vs) : SqT G.K H' p vs := by
  rcases h with (h | ⟨o, h⟩) | h
  · exact .inl (.inl (k.tups _ _ h))
  · exact .inl (.inr ⟨o, k.frzs _ _ _ h⟩)
  · exact .inr h
mutual
theorem Rep.keep (k : KeepZ Z H Z' H') : ∀ {w : W} {v : V}, Rep G Z H w v → Rep G Z' H' w v
  | .non, _, h => h
  | .bl _, _, h => h
  | .int _, _, h => h
  | .str _, _, h => h
  | .tup xs, _, ⟨p, vs, e, q, r⟩ => ⟨p, vs, e, sqT_keep k q, RepL.keep k r⟩
  | .lst xs, _, ⟨p, vs, e, q, q2, r⟩ => ⟨p, vs, e, (k.z p q).1, (k.z p q).2.trans q2, RepL.keep k r⟩
  | .scr xs, _, ⟨p, vs, e, q, r⟩ => ⟨p, vs, e, q.imp (fun ⟨o, q⟩ => ⟨o, k.frzs _ _ _ q⟩) id, RepL.keep k r⟩
  | .ins C fs, _, ⟨p, dx, vs, e, q, q2, r⟩ => ⟨p, dx, vs, e, (k.z p q).1, (k.z p q).2.trans q2, RepF.keep k r⟩
  | .ref _, _, h => h
  | .exn _, _, h => h
theorem RepL.keep (k : KeepZ Z H Z' H') : ∀ {xs : List W} {vs : List V}, RepL G Z H xs vs → RepL G Z' H' xs vs
  | [], _, h => h
  | x :: xs, _, ⟨v, r, e, a, b⟩ => ⟨v, r, e, Rep.keep k a, RepL.keep k b⟩
theorem RepF.keep (k : KeepZ Z H Z' H') : ∀ {xs : List (String × W)} {vs : List (Str × V)}, RepF G Z H xs vs → RepF G Z' H' xs vs
  | [], _, h => h
  | (f, x) :: xs, _, ⟨v, r, e, a, b⟩ => ⟨v, r, e, Rep.keep k a, RepF.keep k b⟩
end
theorem RepD.keep (k : KeepZ Z H Z' H') : ∀ {xs : List (W × W)} {vs : List (Key × V)}, RepD G Z H xs vs → RepD G Z' H' xs vs
  | [], _, h => h
  | (f, x) :: xs, _, ⟨kk, v, r, e, q, a, b⟩ => ⟨kk, v, r, e, q, Rep.keep k a, RepD.keep k b⟩
theorem RepT.keep (k : KeepZ Z H Z' H') : ∀ {xs : List (W × W)} {vs : List (List Key × V)}, RepT G Z H xs vs → RepT G Z' H' xs vs
  | [], _, h => h
  | (f, x) :: xs, _, ⟨ks, kk, v, r, e, q, q2, a, b⟩ => ⟨ks, kk, v, r, e, q, q2, Rep.keep k a, RepT.keep k b⟩
theorem FlatR.keep (k : KeepZ Z H Z' H') {a : Addr} (e : H' a = H a) : ∀ {m : MO}, FlatR G Z H a m → FlatR G Z' H' a m
  | .lst _, ⟨vs, q, r⟩ => ⟨vs, e.trans q, RepL.keep k r⟩
  | .dic _, .inl ⟨vs, q, r⟩ => .inl ⟨vs, e.trans q, RepD.keep k r⟩
  | .dic _, .inr ⟨vs, q, r⟩ => .inr ⟨vs, e.trans q, RepT.keep k r⟩
  | .ins _ _, ⟨dx, vs, q, r⟩ => ⟨dx, vs, e.trans q, RepF.keep k r⟩
mutual
theorem BoxR.keep (k : KeepZ Z H Z' H') : ∀ {t : BX} {v : V} {A : List Addr}, (∀ p ∈ A, H' p = H p) → BoxR G Z H t v A → BoxR G Z' H' t v A
  | .val _, _, _, _, ⟨e, q⟩ => ⟨e, Rep.keep k q⟩
  | .lst _, _, _, u, ⟨p, e, e2, q⟩ => ⟨p, e, e2, FlatR.keep k (u p (by simp [e2])) q⟩
  | .dic _, _, _, u, ⟨p, e, e2, q⟩ => ⟨p, e, e2, FlatR.keep k (u p (by simp [e2])) q⟩
  | .obj C fs, _, _, u, ⟨p, dx, vs, B, e, e2, q, r⟩ => ⟨p, dx, vs, B, e, e2, (u p (by simp [e2])).trans q, BoxF.keep k (fun x hx => u x (by simp [e2, hx])) r⟩
  | .lob ts, _, _, u, ⟨p, vs, B, e, e2, q, r⟩ => ⟨p, vs, B, e, e2, (u p (by simp [e2])).trans q, BoxL.keep k (fun x hx => u x (by simp [e2, hx])) r⟩
theorem BoxL.keep (k : KeepZ Z H Z' H') : ∀ {ts : List BX} {vs : List V} {A : List Addr}, (∀ p ∈ A, H' p = H p) → BoxL G Z H ts vs A → BoxL G Z' H' ts vs A
  | [], _, _, _, h => h
  | t :: ts, _, _, u, ⟨v, r, B, C, e, e2, a, b⟩ => ⟨v, r, B, C, e, e2, BoxR.keep k (fun x hx => u x (by simp [e2, hx])) a, BoxL.keep k (fun x hx => u x (by simp [e2, hx])) b⟩
theorem BoxF.keep (k : KeepZ Z H Z' H') : ∀ {ts : List (String × BX)} {vs : List (Str × V)} {A : List Addr}, (∀ p ∈ A, H' p = H p) → BoxF G Z H ts vs A → BoxF G Z' H' ts vs A
  | [], _, _, _, h => h
  | (f, t) :: ts, _, _, u, ⟨v, r, B, C, e, e2, a, b⟩ => ⟨v, r, B, C, e, e2, BoxR.keep k (fun x hx => u x (by simp [e2, hx])) a, BoxF.keep k (fun x hx => u x (by simp [e2, hx])) b⟩
end
theorem CellR.keep (k : KeepZ Z H Z' H') {a : Addr} {A : List Addr} (u : ∀ p ∈ A, H' p = H p) : ∀ {c : Cell}, CellR G Z H a c A → CellR G Z' H' a c A
  | .flat _, ⟨e, q⟩ => ⟨e, FlatR.keep k (u a (by simp [e])) q⟩
  | .box _, q => BoxR.keep k u q
/-- each of a cell's addresses is tracked -/
theorem FlatR.there {a : Addr} : ∀ {m : MO}, FlatR G Z H a m → ∃ o, H a = some o ∧ Mut (some o)
  | .lst _, ⟨vs, q, _⟩ => ⟨_, q, trivial⟩
  | .dic _, .inl ⟨vs, q, _⟩ => ⟨_, q, trivial⟩
  | .dic _, .inr ⟨vs, q, _⟩ => ⟨_, q, trivial⟩
  | .ins _ _, ⟨dx, vs, q, _⟩ => ⟨_, q, trivial⟩
mutual
theorem BoxR.there : ∀ {t : BX} {v : V} {A : List Addr}, BoxR G Z H t v A → ∀ p ∈ A, ∃ o, H p = some o ∧ Mut (some o)
  | .val _, _, _, ⟨e, _⟩ => by simp [e]
  | .lst _, _, _, ⟨p, _, e2, q⟩ => by
    intro x hx
    rw [e2] at hx
    rw [List.mem_singleton.mp hx]; exact q.there
  | .dic _, _, _, ⟨p, _, e2, q⟩ => by
    intro x hx
    rw [e2] at hx
    rw [List.mem_singleton.mp hx]; exact q.there
  | .obj C fs, _, _, ⟨p, dx, vs, B, _, e2, q, r⟩ => by
    intro x hx
    rw [e2] at hx
    rcases List.mem_cons.mp hx with e | h
    · rw [e]; exact ⟨_, q, trivial⟩
    · exact BoxF.there r x h
  | .lob ts, _, _, ⟨p, vs, B, _, e2, q, r⟩ => by
    intro x hx
    rw [e2] at hx
    rcases List.mem_cons.mp hx with e | h
    · rw [e]; exact ⟨_, q, trivial⟩
    · exact BoxL.there r x h
theorem BoxL.there : ∀ {ts : List BX} {vs : List V} {A : List Addr}, BoxL G Z H ts vs A → ∀ p ∈ A, ∃ o, H p = some o ∧ Mut (some o)
  | [], _, _, ⟨_, e⟩ => by simp [e]
  | t :: ts, _, _, ⟨v, r, B, C, _, e2, a, b⟩ => by
    intro x hx
    rw [e2] at hx
    rcases List.mem_append.mp hx with h | h
    · exact BoxR.there a x h
    · exact BoxL.there b x h
theorem BoxF.there : ∀ {ts : List (String × BX)} {vs : List (Str × V)} {A : List Addr}, BoxF G Z H ts vs A → ∀ p ∈ A, ∃ o, H p = some o ∧ Mut (some o)
  | [], _, _, ⟨_, e⟩ => by simp [e]
  | (f, t) :: ts, _, _, ⟨v, r, B, C, _, e2, a, b⟩ => by
    intro x hx
    rw [e2] at hx
    rcases List.mem_append.mp hx with h | h
    · exact BoxR.there a x h
    · exact BoxF.there b x h
end
theorem CellR.there {a : Addr} {A : List Addr} : ∀ {c : Cell}, CellR G Z H a c A → ∀ p ∈ A, ∃ o, H p = some o ∧ Mut (some o)
  | .flat _, ⟨e, q⟩ => by
    intro x hx
    rw [e] at hx
    rw [List.mem_singleton.mp hx]; exact q.there
  | .box _, q => BoxR.there q
end

structure Sim (G : Gm) (g : Gh) (M : Heap2) (H : Hp) : Prop where
  cell : ∀ a c, M a = some c → CellR G g.Z H a c (g.ft a)
  nd : ∀ a c, M a = some c → (g.ft a).Nodup ∧ a ∈ g.ft a
  no : ∀ a c p, M a = some c → p ∈ g.ft a → ¬ g.Z p ∧ ¬ g.P p
  dj : ∀ a b c d p, M a = some c → M b = some d → p ∈ g.ft a → p ∈ g.ft b → a = b
  zt : ∀ p, g.Z p → ¬ g.P p ∧ ∃ o, H p = some o
  pt : ∀ p, g.P p → ∃ o, H p = some o

def EnvR (G : Gm) (Z : Addr → Prop) (H : Hp) : Env2 → St → Prop
  | [], σ => σ = []
  | none :: e, σ => ∃ v r, σ = v :: r ∧ EnvR G Z H e r
  | some w :: e, σ => ∃ v r, σ = some v :: r ∧ Rep G Z H w v ∧ EnvR G Z H e r
theorem EnvR.keep {G : Gm} {Z Z' : Addr → Prop} {H H' : Hp} (k : KeepZ Z H Z' H') : ∀ {e : Env2} {σ : St}, EnvR G Z H e σ → EnvR G Z' H' e σ
  | [], _, h => h
  | none :: _, _, ⟨v, r, e, q⟩ => ⟨v, r, e, EnvR.keep k q⟩
  | some _ :: _, _, ⟨v, r, e, a, q⟩ => ⟨v, r, e, a.keep k, EnvR.keep k q⟩
theorem EnvR.get {G : Gm} {Z : Addr → Prop} {H : Hp} : ∀ {e : Env2} {σ : St} {i : Nat} {w : W}, EnvR G Z H e σ → e[i]? = some (some w) → ∃ v, σ[i]? = some (some v) ∧ Rep G Z H w v
  | none :: _, _, 0, _, ⟨v, r, e, q⟩, h => by simp at h
  | none :: _, _, i + 1, _, ⟨v, r, e, q⟩, h => by
    subst e
    simpa using EnvR.get (i := i) q (by simpa using h)
  | some _ :: _, _, 0, _, ⟨v, r, e, a, q⟩, h => by
    subst e
    rw [List.getElem?_cons_zero] at h
    cases h
    exact ⟨v, rfl, a⟩
  | some _ :: _, _, i + 1, _, ⟨v, r, e, a, q⟩, h => by
    subst e
    simpa using EnvR.get (i := i) q (by simpa using h)
theorem EnvR.set {G : Gm} {Z : Addr → Prop} {H : Hp} {w : W} {v : V} (rw : Rep G Z H w v) : ∀ {e : Env2} {σ : St} {i : Nat}, EnvR G Z H e σ → EnvR G Z H (e.set i (some w)) (σ.set i (some v))
  | [], _, _, h => by
    have h' : _ = [] := h
    subst h'
    exact rfl
  | none :: _, _, 0, ⟨v, r, e, q⟩ => by subst e; exact ⟨_, r, rfl, rw, q⟩
  | none :: _, _, i + 1, ⟨v, r, e, q⟩ => by subst e; exact ⟨v, _, rfl, EnvR.set rw (i := i) q⟩
  | some _ :: _, _, 0, ⟨v, r, e, a, q⟩ => by subst e; exact ⟨_, r, rfl, rw, q⟩
  | some _ :: _, _, i + 1, ⟨v, r, e, a, q⟩ => by subst e; exact ⟨v, _, rfl, a, EnvR.set rw (i := i) q⟩
theorem EnvR.unset {G : Gm} {Z : Addr → Prop} {H : Hp} {x : Option V} : ∀ {e : Env2} {σ : St} {i : Nat}, EnvR G Z H e σ → EnvR G Z H (e.set i none) (σ.set i x)
  | [], _, _, h => by
    have h' : _ = [] := h
    subst h'
    exact rfl
  | none :: _, _, 0, ⟨v, r, e, q⟩ => by subst e; exact ⟨_, r, rfl, q⟩
  | none :: _, _, i + 1, ⟨v, r, e, q⟩ => by subst e; exact ⟨v, _, rfl, EnvR.unset (i := i) q⟩
  | some _ :: _, _, 0, ⟨v, r, e, a, q⟩ => by subst e; exact ⟨_, r, rfl, q⟩
  | some _ :: _, _, i + 1, ⟨v, r, e, a, q⟩ => by subst e; exact ⟨v, _, rfl, a, EnvR.unset (i := i) q⟩

abbrev Q2 := W → Heap2 → Prop
abbrev X2 := String → Env2 → Heap2 → Prop
abbrev T2 := Env2 → Heap2 → Q2 → X2 → Prop
abbrev TT2 := Env2 → Heap2 → (Bool → Heap2 → Prop) → X2 → Prop
abbrev TA2 := Env2 → Heap2 → (List W → Heap2 → Prop) → X2 → Prop
structure Ends2 where
  nx : Env2 → Heap2 → Prop
  rt : Q2
  bk : Env2 → Heap2 → Prop
  ct : Env2 → Heap2 → Prop
  ex : X2
abbrev TS2 := Ends2 → Env2 → Heap2 → Prop

/-- what the wish of exceptions takes -/
def ExOk (G : Gm) (Wx : WX) (g : Gh) (H : Hp) (E : X2) : Prop :=
  ∀ c env M, E c env M → ∀ g' σ' H', Keep g H g' H' → Sim G g' M H' → EnvR G g'.Z H' env σ' → Wx (.ref (G.cA c)) none σ' H'
def liftE (G : Gm) (Wx : WX) (t : T2) : TE := fun σ H Q => ∃ g env M Q0 E0, Sim G g M H ∧ EnvR G g.Z H env σ ∧ t env M Q0 E0 ∧
  (∀ w M', Q0 w M' → ∀ g' v H', Keep g H g' H' → Sim G g' M' H' → Rep G g'.Z H' w v → Q v H') ∧ ExOk G Wx g H E0
def liftT (G : Gm) (Wx : WX) (t : TT2) : TT := fun σ H Q => ∃ g env M Q0 E0, Sim G g M H ∧ EnvR G g.Z H env σ ∧ t env M Q0 E0 ∧
  (∀ b M', Q0 b M' → ∀ g' H', Keep g H g' H' → Sim G g' M' H' → Q b H') ∧ ExOk G Wx g H E0
def liftA (G : Gm) (Wx : WX) (t : TA2) : TA := fun σ H Q => ∃ g env M Q0 E0, Sim G g M H ∧ EnvR G g.Z H env σ ∧ t env M Q0 E0 ∧
  (∀ ws M', Q0 ws M' → ∀ g' vs H', Keep g H g' H' → Sim G g' M' H' → RepL G g'.Z H' ws vs → Q vs H') ∧ ExOk G Wx g H E0
def liftS (G : Gm) (Wx : WX) (t : TS2) : TS := fun D σ H => ∃ g env M D0, Sim G g M H ∧ EnvR G g.Z H env σ ∧ t D0 env M ∧
  (∀ env' M', D0.nx env' M' → ∀ g' σ' H', Keep g H g' H' → Sim G g' M' H' → EnvR G g'.Z H' env' σ' → D.nx σ' H') ∧
  (∀ w M', D0.rt w M' → ∀ g' v H', Keep g H g' H' → Sim G g' M' H' → Rep G g'.Z H' w v → D.rt v H') ∧
  (∀ env' M', D0.bk env' M' → ∀ g' σ' H', Keep g H g' H' → Sim G g' M' H' → EnvR G g'.Z H' env' σ' → D.bk σ' H') ∧
  (∀ env' M', D0.ct env' M' → ∀ g' σ' H', Keep g H g' H' → Sim G g' M' H' → EnvR G g'.Z H' env' σ' → D.ct σ' H') ∧ ExOk G Wx g H D0.ex

/-- an expression is what t says -/
abbrev SE (G : Gm) (X : Cx) (Wx : WX) (e : Expr) (t : T2) : Prop := PE X e (liftE G Wx t)
abbrev SB (G : Gm) (X : Cx) (Wx : WX) (e : Expr) (t : TT2) : Prop := PT X e (liftT G Wx t)
abbrev SA (G : Gm) (X : Cx) (Wx : WX) (es : List Expr) (t : TA2) : Prop := PA X es (liftA G Wx t)
abbrev SS (G : Gm) (X : Cx) (Wx : WX) (s : Stmt) (t : TS2) : Prop := PS X s (liftS G Wx t)
abbrev SSs (G : Gm) (X : Cx) (Wx : WX) (s : List Stmt) (t : TS2) : Prop := PSs X s (liftS G Wx t)

theorem pe_imp {X : Cx} {e : Expr} {t t' : TE} (h : PE X e t) (i : ∀ σ H Q, t' σ H Q → t σ H Q) : PE X e t' := ⟨fun pins s σ H Q I q => h.run pins s σ H Q I (i _ _ _ q)⟩
theorem pt_imp {X : Cx} {e : Expr} {t t' : TT} (h : PT X e t) (i : ∀ σ H Q, t' σ H Q → t σ H Q) : PT X e t' := ⟨fun pins s σ H Q I q => h.run pins s σ H Q I (i _ _ _ q)⟩
theorem pw_imp {X : Cx} {e : Expr} {t t' : TT} (h : PW X e t) (i : ∀ σ H Q, t' σ H Q → t σ H Q) : PW X e t' := ⟨fun wh pins s σ H Q I q => h.run wh pins s σ H Q I (i _ _ _ q)⟩
theorem pa_imp {X : Cx} {e : List Expr} {t t' : TA} (h : PA X e t) (i : ∀ σ H Q, t' σ H Q → t σ H Q) : PA X e t' := ⟨fun pos pins s σ H Q I q => h.run pos pins s σ H Q I (i _ _ _ q)⟩
theorem ps_imp {X : Cx} {e : Stmt} {t t' : TS} (h : PS X e t) (i : ∀ D σ H, t' D σ H → t D σ H) : PS X e t' := ⟨fun pins s σ H D I q => h.run pins s σ H D I (i _ _ _ q)⟩
theorem pss_imp {X : Cx} {e : List Stmt} {t t' : TS} (h : PSs X e t) (i : ∀ D σ H, t' D σ H → t D σ H) : PSs X e t' := ⟨fun pins s σ H D I q => h.run pins s σ H D I (i _ _ _ q)⟩

theorem ExOk.keep {G : Gm} {Wx : WX} {g g' : Gh} {H H' : Hp} {E : X2} (x : ExOk G Wx g H E) (k : Keep g H g' H') : ExOk G Wx g' H' E :=
  fun c env M h g2 σ2 H2 k2 s2 e2 => x c env M h g2 σ2 H2 (k.trans k2) s2 e2
end LW

namespace LW
open PySem L2
section
variable {G : Gm} {g : Gh} {M : Heap2} {H : Hp} {a p : Addr} {o : HO} {c : Cell} {m m' : MO}

theorem Sim.free (s : Sim G g M H) (h : H p = none) : M p = none ∧ ¬ g.Z p ∧ ¬ g.P p ∧ ∀ a c, M a = some c → p ∉ g.ft a := by
  refine ⟨?_, ?_, ?_, fun a c hc hp => ?_⟩
  · cases q : M p with
    | none => rfl
    | some c =>
      obtain ⟨o, e, _⟩ := (s.cell p c q).there p (s.nd p c q).2
      rw [h] at e; cases e
  · intro z
    obtain ⟨_, o, e⟩ := s.zt p z
    rw [h] at e; cases e
  · intro z
    obtain ⟨o, e⟩ := s.pt p z
    rw [h] at e; cases e
  · obtain ⟨o, e, _⟩ := (s.cell a c hc).there p hp
    rw [h] at e; cases e
theorem Keep.new (h : H p = none) (s : Sim G g M H) : Keep g H g (upd H p o) := by
  have f := s.free h
  refine ⟨fun q z => ⟨z, upd_ne fun e => ?_⟩, fun q z => ⟨z, upd_ne fun e => ?_⟩, fun _ z => z, fun b xs e => ?_, fun b x u e => ?_⟩
  · subst e; exact f.2.1 z
  · subst e; exact f.2.2.1 z
  · rw [upd_ne (ne_of_none e h)]; exact e
  · rw [upd_ne (ne_of_none e h)]; exact e
/-- a new thing that is no cell -/
theorem Sim.new (s : Sim G g M H) (h : H p = none) : Sim G g M (upd H p o) := by
  have k : Keep g H g (upd H p o) := Keep.new h s
  have f := s.free h
  have st : ∀ q : Addr, (∃ x, H q = some x) → ∃ x, upd H p o q = some x := fun q ⟨x, e⟩ => ⟨x, by rw [upd_ne (ne_of_none e h)]; exact e⟩
  refine ⟨fun a c hc => (s.cell a c hc).keep k.kz fun q hq => upd_ne fun e => ?_, s.nd, s.no, s.dj, fun q z => ⟨(s.zt q z).1, st q (s.zt q z).2⟩, fun q z => st q (s.pt q z)⟩
  subst e
  exact f.2.2.2 a c hc hq
/-- a new cell -/
def Gh.add (g : Gh) (p : Addr) : Gh := { g with ft := fun b => if b = p then [p] else g.ft b }
theorem Sim.alloc (s : Sim G g M H) (h : H p = none) (r : FlatR G g.Z (upd H p o) p m) : Sim G (g.add p) (upd2 M p (some (.flat m))) (upd H p o) ∧ Keep g H (g.add p) (upd H p o) := by
  have s1 : Sim G g M (upd H p o) := s.new h
  have f := s.free h
  have k : Keep g H g (upd H p o) := Keep.new h s
  have fp : (g.add p).ft p = [p] := if_pos rfl
  have fn : ∀ b, b ≠ p → (g.add p).ft b = g.ft b := fun b hb => if_neg hb
  have nf := f.2.2.2
  refine ⟨⟨fun a c hc => ?_, fun a c hc => ?_, fun a c q hc hq => ?_, fun a b c d q hc hd hq hq' => ?_, s1.zt, s1.pt⟩, ⟨k.z, k.p, k.q, k.tups, k.frzs⟩⟩
  · by_cases e : a = p
    · subst e
      rw [upd2_same] at hc; cases hc
      rw [fp]
      exact ⟨rfl, r⟩
    · rw [upd2_ne e] at hc
      rw [fn a e]
      exact s1.cell a c hc
  · by_cases e : a = p
    · subst e
      rw [fp]
      simp
    · rw [upd2_ne e] at hc
      rw [fn a e]
      exact s1.nd a c hc
  · by_cases e : a = p
    · subst e
      rw [fp] at hq
      rw [List.mem_singleton.mp hq]
      exact ⟨f.2.1, f.2.2.1⟩
    · rw [upd2_ne e] at hc
      rw [fn a e] at hq
      exact s1.no a c q hc hq
  · by_cases e : a = p
    · by_cases e' : b = p
      · rw [e, e']
      · rw [upd2_ne e'] at hd
        rw [fn b e'] at hq'
        subst e
        rw [fp] at hq
        rw [List.mem_singleton.mp hq] at hq'
        exact absurd hq' (nf b d hd)
    · rw [upd2_ne e] at hc
      rw [fn a e] at hq
      by_cases e' : b = p
      · subst e'
        rw [fp] at hq'
        rw [List.mem_singleton.mp hq'] at hq
        exact absurd hq (nf a c hc)
      · rw [upd2_ne e'] at hd
        rw [fn b e'] at hq'
        exact s1.dj a b c d q hc hd hq hq'
/-- a flat cell is written -/
theorem Sim.write (s : Sim G g M H) (h : M a = some (.flat m)) (r : Keep g H g (upd H a o) → FlatR G g.Z (upd H a o) a m') : Sim G g (upd2 M a (some (.flat m'))) (upd H a o) ∧ Keep g H g (upd H a o) := by
  obtain ⟨hft, hm⟩ := s.cell a _ h
  have no := s.no a _ a h (s.nd a _ h).2
  obtain ⟨oa, ea, mu⟩ := hm.there
  have k : Keep g H g (upd H a o) := by
    refine ⟨fun q z => ⟨z, upd_ne fun e => ?_⟩, fun q z => ⟨z, upd_ne fun e => ?_⟩, fun _ z => z, fun b xs e => ?_, fun b x u e => ?_⟩
    · subst e; exact no.1 z
    · subst e; exact no.2 z
    · rw [upd_ne fun q => ?_]; exact e
      subst q
      rw [ea] at e; cases e
      exact mu
    · rw [upd_ne fun q => ?_]; exact e
      subst q
      rw [ea] at e; cases e
      exact mu
  have st : ∀ q : Addr, (∃ x, H q = some x) → ∃ x, upd H a o q = some x := fun q ⟨x, e⟩ => by
    by_cases z : q = a
    · subst z; exact ⟨_, upd_same⟩
    · exact ⟨x, by rw [upd_ne z]; exact e⟩
  refine ⟨⟨fun b c hc => ?_, fun b c hc => ?_, fun b c q hc hq => ?_, fun b b' c d q hc hd hq hq' => ?_, fun q z => ⟨(s.zt q z).1, st q (s.zt q z).2⟩, fun q z => st q (s.pt q z)⟩, k⟩
  · by_cases e : b = a
    · subst e
      rw [upd2_same] at hc; cases hc
      exact ⟨hft, r k⟩
    · rw [upd2_ne e] at hc
      refine (s.cell b c hc).keep k.kz fun q hq => upd_ne fun z => ?_
      subst z
      exact e (s.dj b q c _ q hc h hq (s.nd q _ h).2)
  · by_cases e : b = a
    · subst e; exact s.nd b _ h
    · rw [upd2_ne e] at hc; exact s.nd b c hc
  · by_cases e : b = a
    · subst e; exact s.no b _ q h hq
    · rw [upd2_ne e] at hc; exact s.no b c q hc hq
  · have h1 : ∃ c', M b = some c' := by
      by_cases e : b = a
      · subst e; exact ⟨_, h⟩
      · rw [upd2_ne e] at hc; exact ⟨_, hc⟩
    have h2 : ∃ c', M b' = some c' := by
      by_cases e : b' = a
      · subst e; exact ⟨_, h⟩
      · rw [upd2_ne e] at hd; exact ⟨_, hd⟩
    obtain ⟨c1, h1⟩ := h1
    obtain ⟨c2, h2⟩ := h2
    exact s.dj b b' c1 c2 q h1 h2 hq hq'
/-- a cell is given up -/
theorem Sim.drop (s : Sim G g M H) : Sim G g (upd2 M a none) H := by
  have nm : ∀ b c, upd2 M a none b = some c → M b = some c := fun b c h => by
    by_cases e : b = a
    · subst e; rw [upd2_same] at h; cases h
    · rw [upd2_ne e] at h; exact h
  exact ⟨fun b c h => s.cell b c (nm b c h), fun b c h => s.nd b c (nm b c h), fun b c p h => s.no b c p (nm b c h), fun b b' c d p h h' => s.dj b b' c d p (nm b c h) (nm b' d h'), s.zt, s.pt⟩
/-- a flat cell is frozen -/
def Gh.frz (g : Gh) (a : Addr) : Gh := { g with Z := fun p => g.Z p ∨ p = a }
theorem Sim.freeze (s : Sim G g M H) (h : M a = some (.flat m)) : Sim G (g.frz a) (upd2 M a none) H ∧ Keep g H (g.frz a) H ∧ FlatR G (g.frz a).Z H a m := by
  obtain ⟨hft, hm⟩ := s.cell a _ h
  have no := s.no a _ a h (s.nd a _ h).2
  obtain ⟨oa, ea, mu⟩ := hm.there
  have k : Keep g H (g.frz a) H := ⟨fun q z => ⟨.inl z, rfl⟩, fun q z => ⟨z, rfl⟩, fun _ z => z, fun _ _ e => e, fun _ _ _ e => e⟩
  have nm : ∀ b c, upd2 M a none b = some c → M b = some c ∧ b ≠ a := fun b c h => by
    by_cases e : b = a
    · subst e; rw [upd2_same] at h; cases h
    · rw [upd2_ne e] at h; exact ⟨h, e⟩
  refine ⟨⟨fun b c hc => (s.cell b c (nm b c hc).1).keep k.kz fun _ _ => rfl, fun b c hc => s.nd b c (nm b c hc).1, fun b c q hc hq => ⟨?_, (s.no b c q (nm b c hc).1 hq).2⟩, fun b b' c d p h h' => s.dj b b' c d p (nm b c h).1 (nm b' d h').1, fun q z => ?_, s.pt⟩, k, hm.keep k.kz rfl⟩
  · rintro (z | z)
    · exact (s.no b c q (nm b c hc).1 hq).1 z
    · subst z
      exact (nm b c hc).2 (s.dj b q c _ q (nm b c hc).1 h hq (s.nd q _ h).2)
  · rcases z with z | z
    · exact s.zt q z
    · subst z; exact ⟨no.2, _, ea⟩
/-- a new frozen thing -/
theorem Sim.newZ (s : Sim G g M H) (h : H p = none) : Sim G (g.frz p) M (upd H p o) ∧ Keep g H (g.frz p) (upd H p o) := by
  have s1 : Sim G g M (upd H p o) := s.new h
  have f := s.free h
  have k : Keep g H g (upd H p o) := Keep.new h s
  have k2 : Keep g (upd H p o) (g.frz p) (upd H p o) := ⟨fun q z => ⟨.inl z, rfl⟩, fun q z => ⟨z, rfl⟩, fun _ z => z, fun _ _ e => e, fun _ _ _ e => e⟩
  refine ⟨⟨fun b c hc => (s1.cell b c hc).keep k2.kz fun _ _ => rfl, s1.nd, fun b c q hc hq => ⟨?_, (s1.no b c q hc hq).2⟩, s1.dj, fun q z => ?_, s1.pt⟩, k.trans k2⟩
  · rintro (z | z)
    · exact (s1.no b c q hc hq).1 z
    · subst z; exact f.2.2.2 b c hc hq
  · rcases z with z | z
    · exact s1.zt q z
    · subst z; exact ⟨f.2.2.1, _, upd_same⟩
end
end LW

namespace LW
open PySem L2

@[simp] def listOf (M : Heap2) : W → Option (List W)
  | .lst xs => some xs
  | .scr xs => some xs
  | .ref a => match M a with
    | some (.flat (.lst xs)) => some xs
    | _ => none
  | _ => none
section
variable {G : Gm} {g : Gh} {M : Heap2} {H : Hp}
theorem RepL.length {Z : Addr → Prop} : ∀ {xs : List W} {vs : List V}, RepL G Z H xs vs → vs.length = xs.length
  | [], _, h => by
    have h' : _ = [] := h
    subst h'; rfl
  | x :: xs, _, ⟨v, r, e, a, b⟩ => by subst e; simp [RepL.length b]
theorem RepL.get {Z : Addr → Prop} : ∀ {xs : List W} {vs : List V} {i : Nat} {w : W}, RepL G Z H xs vs → xs[i]? = some w → ∃ v, vs[i]? = some v ∧ Rep G Z H w v
  | x :: xs, _, 0, w, ⟨v, r, e, a, b⟩, h => by
    subst e
    rw [List.getElem?_cons_zero] at h
    cases h
    exact ⟨v, rfl, a⟩
  | x :: xs, _, i + 1, w, ⟨v, r, e, a, b⟩, h => by
    subst e
    rw [List.getElem?_cons_succ] at h
    simpa using RepL.get b h
theorem RepL.append {Z : Addr → Prop} : ∀ {xs ys : List W} {vs us : List V}, RepL G Z H xs vs → RepL G Z H ys us → RepL G Z H (xs ++ ys) (vs ++ us)
  | [], _, _, _, h, h2 => by
    have h' : _ = [] := h
    subst h'; exact h2
  | x :: xs, _, _, _, ⟨v, r, e, a, b⟩, h2 => by subst e; exact ⟨v, _, rfl, a, RepL.append b h2⟩
theorem RepL.drop {Z : Addr → Prop} : ∀ {xs : List W} {vs : List V} (n : Nat), RepL G Z H xs vs → RepL G Z H (xs.drop n) (vs.drop n)
  | _, _, 0, h => h
  | [], _, n + 1, h => by
    have h' : _ = [] := h
    subst h'; exact rfl
  | x :: xs, _, n + 1, ⟨v, r, e, a, b⟩ => by subst e; exact RepL.drop n b
theorem RepL.take {Z : Addr → Prop} : ∀ {xs : List W} {vs : List V} (n : Nat), RepL G Z H xs vs → RepL G Z H (xs.take n) (vs.take n)
  | _, _, 0, h => rfl
  | [], _, n + 1, h => by
    have h' : _ = [] := h
    subst h'; exact rfl
  | x :: xs, _, n + 1, ⟨v, r, e, a, b⟩ => by subst e; exact ⟨v, _, rfl, a, RepL.take n b⟩
theorem RepL.set {Z : Addr → Prop} {w : W} {v : V} (hw : Rep G Z H w v) : ∀ {xs : List W} {vs : List V} (n : Nat), RepL G Z H xs vs → RepL G Z H (xs.set n w) (vs.set n v)
  | [], _, n, h => by
    have h' : _ = [] := h
    subst h'; exact rfl
  | x :: xs, _, 0, ⟨u, r, e, a, b⟩ => by subst e; exact ⟨_, _, rfl, hw, b⟩
  | x :: xs, _, n + 1, ⟨u, r, e, a, b⟩ => by subst e; exact ⟨_, _, rfl, a, RepL.set hw n b⟩
theorem RepL.eraseIdx {Z : Addr → Prop} : ∀ {xs : List W} {vs : List V} (n : Nat), RepL G Z H xs vs → RepL G Z H (xs.eraseIdx n) (vs.eraseIdx n)
  | [], _, n, h => by
    have h' : _ = [] := h
    subst h'; exact rfl
  | x :: xs, _, 0, ⟨u, r, e, a, b⟩ => by subst e; exact b
  | x :: xs, _, n + 1, ⟨u, r, e, a, b⟩ => by subst e; exact ⟨_, _, rfl, a, RepL.eraseIdx n b⟩
theorem RepL.reverse {Z : Addr → Prop} : ∀ {xs : List W} {vs : List V}, RepL G Z H xs vs → RepL G Z H xs.reverse vs.reverse
  | [], _, h => by
    have h' : _ = [] := h
    subst h'; exact rfl
  | x :: xs, _, ⟨u, r, e, a, b⟩ => by
    subst e
    rw [List.reverse_cons, List.reverse_cons]
    exact (RepL.reverse b).append ⟨_, _, rfl, a, rfl⟩
theorem listOf_rep {w : W} {v : V} {xs : List W} (e : listOf M w = some xs) (s : Sim G g M H) (r : Rep G g.Z H w v) : ∃ p vs, v = .ref p ∧ SqL G.K H p vs ∧ RepL G g.Z H xs vs := by
  cases w with
  | lst ys => cases e; obtain ⟨p, vs, e1, z, h, q⟩ := r; exact ⟨p, vs, e1, SqL.of h, q⟩
  | scr ys => cases e; obtain ⟨p, vs, e1, h, q⟩ := r; exact ⟨p, vs, e1, h.seq, q⟩
  | ref a =>
    have e' : (match M a with | some (.flat (.lst xs)) => some xs | _ => none) = some xs := e
    split at e'
    · rename_i ys hm
      cases e'
      obtain ⟨_, vs, h, q⟩ := s.cell a _ hm
      exact ⟨a, vs, r, SqL.of h, q⟩
    · cases e'
  | non => cases e
  | bl _ => cases e
  | int _ => cases e
  | str _ => cases e
  | tup _ => cases e
  | ins _ _ => cases e
  | exn _ => cases e
end

abbrev R22 := W → W → Heap2 → Q2 → Prop
abbrev R12 := W → Heap2 → Q2 → Prop
def liftR (G : Gm) (r : R22) : R2 := fun x y H Q => ∃ g M wx wy Q0, Sim G g M H ∧ Rep G g.Z H wx x ∧ Rep G g.Z H wy y ∧ r wx wy M Q0 ∧
  ∀ w M', Q0 w M' → ∀ g' v H', Keep g H g' H' → Sim G g' M' H' → Rep G g'.Z H' w v → Q v H'
def liftR1 (G : Gm) (r : R12) : V → Hp → VK → Prop := fun x H Q => ∃ g M wx Q0, Sim G g M H ∧ Rep G g.Z H wx x ∧ r wx M Q0 ∧
  ∀ w M', Q0 w M' → ∀ g' v H', Keep g H g' H' → Sim G g' M' H' → Rep G g'.Z H' w v → Q v H'
def liftRL (G : Gm) (r : List W → Heap2 → Q2 → Prop) : List V → Hp → VK → Prop := fun xs H Q => ∃ g M ws Q0, Sim G g M H ∧ RepL G g.Z H ws xs ∧ r ws M Q0 ∧
  ∀ w M', Q0 w M' → ∀ g' v H', Keep g H g' H' → Sim G g' M' H' → Rep G g'.Z H' w v → Q v H'
@[simp] def tOp2 (r : R22) (ta tb : T2) : T2 := fun env M Q E => ta env M (fun x M1 => tb env M1 (fun y M2 => r x y M2 Q) E) E
@[simp] def tUn2 (r : R12) (ta : T2) : T2 := fun env M Q E => ta env M (fun x M1 => r x M1 Q) E
section
variable {G : Gm} {X : Cx} {Wx : WX} {a b : Expr} {ta tb : T2} {pos : Pos}
/-- two readings in a row -/
theorem bin2 {r : R22} : ∀ σ H Q, liftE G Wx (tOp2 r ta tb) σ H Q → tOp (liftR G r) (liftE G Wx ta) (liftE G Wx tb) σ H Q := by
  rintro σ H Q ⟨g, env, M, Q0, E0, s, ev, t, k, x⟩
  refine ⟨g, env, M, _, E0, s, ev, t, fun wx M1 h g1 vx H1 k1 s1 r1 => ?_, x⟩
  refine ⟨g1, env, M1, _, E0, s1, ev.keep k1.kz, h, fun wy M2 h2 g2 vy H2 k2 s2 r2 => ?_, x.keep k1⟩
  exact ⟨g2, M2, wx, wy, Q0, s2, r1.keep k2.kz, r2, h2, fun w M' h3 g' v H' k3 s3 r3 => k w M' h3 g' v H' ((k1.trans k2).trans k3) s3 r3⟩
theorem un2 {r : R12} : ∀ σ H Q, liftE G Wx (tUn2 r ta) σ H Q → tUn (liftR1 G r) (liftE G Wx ta) σ H Q := by
  rintro σ H Q ⟨g, env, M, Q0, E0, s, ev, t, k, x⟩
  refine ⟨g, env, M, _, E0, s, ev, t, fun wx M1 h g1 vx H1 k1 s1 r1 => ?_, x⟩
  exact ⟨g1, M1, wx, Q0, s1, r1, h, fun w M' h3 g' v H' k3 s3 r3 => k w M' h3 g' v H' (k1.trans k3) s3 r3⟩
theorem se_bin {op : Operator} {r : R22} (ho : OpR X (binaryOp op) (liftR G r)) (ha : SE G X Wx a ta) (hb : SE G X Wx b tb) : SE G X Wx (.BinOp a op b pos) (tOp2 r ta tb) := pe_imp (pe_op ho ha hb) bin2
theorem se_cmp {op : CmpOp} {r : R22} (ho : OpR X (compareOp op) (liftR G r)) (ha : SE G X Wx a ta) (hb : SE G X Wx b tb) (hm : behindInMarks op b = false) : SE G X Wx (.Compare a [op] [b] pos) (tOp2 r ta tb) := pe_imp (pe_cmpR ho ha hb hm) bin2
theorem se_un {op : UnaryOp} {r : R12} (ho : UnR X (unaryOp op) (liftR1 G r)) (ha : SE G X Wx a ta) : SE G X Wx (.UnaryOp op a pos) (tUn2 r ta) := pe_imp (pe_un ho ha) un2

/-- weaker wishes of an operator -/
theorem opR_imp {f : Value → Value → Sem Value} {r r' : R2} (h : OpR X f r) (i : ∀ x y H Q, r' x y H Q → r x y H Q) : OpR X f r' := fun pins s σ H x y v u Q I rx ry q => h pins s σ H x y v u Q I rx ry (i _ _ _ _ q)
theorem unR_imp {f : Value → Sem Value} {r r' : V → Hp → VK → Prop} (h : UnR X f r) (i : ∀ x H Q, r' x H Q → r x H Q) : UnR X f r' := fun pins s σ H x v Q I rx q => h pins s σ H x v Q I rx (i _ _ _ q)
theorem opR_or {f : Value → Value → Sem Value} {r1 r2 : R2} (h1 : OpR X f r1) (h2 : OpR X f r2) : OpR X f (fun x y H Q => r1 x y H Q ∨ r2 x y H Q) := fun pins s σ H x y v u Q I rx ry q => q.elim (h1 pins s σ H x y v u Q I rx ry) (h2 pins s σ H x y v u Q I rx ry)

@[simp] def rInt (C : Int → Int → Prop) (f : Int → Int → W) : R22 := fun x y M Q => match x, y with
  | .int i, .int j => C i j ∧ Q (f i j) M
  | _, _ => False
theorem rInt_lift {C : Int → Int → Prop} {f : Int → Int → Int} : ∀ x y H Q, liftR G (rInt C fun i j => .int (f i j)) x y H Q → rI C (fun i j => .int (f i j)) x y H Q := by
  rintro x y H Q ⟨g, M, wx, wy, Q0, s, rx, ry, q, k⟩
  cases wx <;> try exact q.elim
  cases wy <;> try exact q.elim
  rename_i i j
  obtain ⟨hc, q⟩ := q
  exact ⟨i, j, rx, ry, hc, k _ _ q g _ H (Keep.refl g H) s rfl⟩
theorem rIntB_lift {f : Int → Int → Bool} : ∀ x y H Q, liftR G (rInt (fun _ _ => True) fun i j => .bl (f i j)) x y H Q → rI0 (fun i j => .bl (f i j)) x y H Q := by
  rintro x y H Q ⟨g, M, wx, wy, Q0, s, rx, ry, q, k⟩
  cases wx <;> try exact q.elim
  cases wy <;> try exact q.elim
  rename_i i j
  obtain ⟨hc, q⟩ := q
  exact ⟨i, j, rx, ry, k _ _ q g _ H (Keep.refl g H) s rfl⟩
theorem rInt0_lift {f : Int → Int → Int} : ∀ x y H Q, liftR G (rInt (fun _ _ => True) fun i j => .int (f i j)) x y H Q → rI0 (fun i j => .int (f i j)) x y H Q := by
  rintro x y H Q ⟨g, M, wx, wy, Q0, s, rx, ry, q, k⟩
  cases wx <;> try exact q.elim
  cases wy <;> try exact q.elim
  rename_i i j
  obtain ⟨hc, q⟩ := q
  exact ⟨i, j, rx, ry, k _ _ q g _ H (Keep.refl g H) s rfl⟩
@[simp] abbrev rSubW : R22 := rInt (fun _ _ => True) fun i j => .int (i - j)
@[simp] abbrev rMulW : R22 := rInt CMul fun i j => .int (i * j)
@[simp] abbrev rFdivW : R22 := rInt CDiv fun i j => .int (i / j)
@[simp] abbrev rModW : R22 := rInt (fun _ j => 0 < j) fun i j => .int (i % j)
@[simp] abbrev rPowW : R22 := rInt CPow fun i j => .int (i ^ j.toNat)
@[simp] abbrev rShlW : R22 := rInt CPow fun i j => .int (i * 2 ^ j.toNat)
@[simp] abbrev rAndW : R22 := rInt (fun _ _ => True) fun i j => .int (Builtin.bitAnd i j)
@[simp] abbrev rOrW : R22 := rInt (fun _ _ => True) fun i j => .int (Builtin.bitOr i j)
theorem se_sub (ha : SE G X Wx a ta) (hb : SE G X Wx b tb) : SE G X Wx (.BinOp a .Sub b pos) (tOp2 rSubW ta tb) := se_bin (opR_imp op_sub rInt0_lift) ha hb
theorem se_mul (ha : SE G X Wx a ta) (hb : SE G X Wx b tb) : SE G X Wx (.BinOp a .Mult b pos) (tOp2 rMulW ta tb) := se_bin (opR_imp op_mul rInt_lift) ha hb
theorem se_fdiv (ha : SE G X Wx a ta) (hb : SE G X Wx b tb) : SE G X Wx (.BinOp a .FloorDiv b pos) (tOp2 rFdivW ta tb) := se_bin (opR_imp op_fdiv rInt_lift) ha hb
theorem se_mod (ha : SE G X Wx a ta) (hb : SE G X Wx b tb) : SE G X Wx (.BinOp a .Mod b pos) (tOp2 rModW ta tb) := se_bin (opR_imp op_mod rInt_lift) ha hb
theorem se_pow (ha : SE G X Wx a ta) (hb : SE G X Wx b tb) : SE G X Wx (.BinOp a .Pow b pos) (tOp2 rPowW ta tb) := se_bin (opR_imp op_pow rInt_lift) ha hb
theorem se_shl (ha : SE G X Wx a ta) (hb : SE G X Wx b tb) : SE G X Wx (.BinOp a .LShift b pos) (tOp2 rShlW ta tb) := se_bin (opR_imp op_shl rInt_lift) ha hb
theorem se_band (ha : SE G X Wx a ta) (hb : SE G X Wx b tb) : SE G X Wx (.BinOp a .BitAnd b pos) (tOp2 rAndW ta tb) := se_bin (opR_imp op_and rInt0_lift) ha hb
theorem se_bor (ha : SE G X Wx a ta) (hb : SE G X Wx b tb) : SE G X Wx (.BinOp a .BitOr b pos) (tOp2 rOrW ta tb) := se_bin (opR_imp op_or rInt0_lift) ha hb

theorem ofString_len (s : String) : (Str.ofString s).length = s.length := by
  rw [Str.ofString_eq_toList]
  show (s.toList.map Char.toNat).toArray.size = _
  rw [List.size_toArray, List.length_map, String.length_toList]
theorem ofString_inj {s t : String} (h : Str.ofString s = Str.ofString t) : s = t := by
  rw [Str.ofString_eq_toList, Str.ofString_eq_toList] at h
  have h1 : (s.toList.map Char.toNat) = (t.toList.map Char.toNat) := by
    have h2 := congrArg Str.cps h
    simpa using congrArg Array.toList h2
  have h3 : s.toList = t.toList := by
    have inj : ∀ (l m : List Char), l.map Char.toNat = m.map Char.toNat → l = m := by
      intro l
      induction l with
      | nil => intro m h; cases m with
        | nil => rfl
        | cons _ _ => cases h
      | cons c l ih => intro m h; cases m with
        | nil => cases h
        | cons d m =>
          rw [List.map_cons, List.map_cons] at h
          injection h with h1 h2
          rw [ih m h2, Char.toNat_inj.mp h1]
    exact inj _ _ h1
  exact String.ext (by simpa using h3)
theorem ofString_app (s t : String) : Str.ofString (s ++ t) = Str.ofString s ++ Str.ofString t := by
  rw [Str.ofString_eq_toList, Str.ofString_eq_toList, Str.ofString_eq_toList]
  show _ = (⟨_ ++ _⟩ : Str)
  simp

@[simp] def rAddW : R22 := fun x y M Q => match x, y with
  | .int i, .int j => Q (.int (i + j)) M
  | .str s, .str t => s.length + t.length ≤ 10000000 ∧ Q (.str (s ++ t)) M
  | .tup xs, .tup ys => xs.length + ys.length ≤ 10000000 ∧ Q (.tup (xs ++ ys)) M
  | _, _ => False
theorem big_size {n : Nat} (h : n ≤ 10000000) : n ≤ sizeLine := Nat.le_trans h (by decide)
theorem big_lt {n : Nat} (h : n < 10000000) : n < sizeLine := Nat.lt_of_lt_of_le h (by decide)
theorem op_rAdd (hK : X.K = G.K) : OpR X (binaryOp .Add) (liftR G rAddW) := by
  refine opR_imp (opR_or op_add (opR_or op_add_str op_catA)) ?_
  rintro x y H Q ⟨g, M, wx, wy, Q0, s, rx, ry, q, k⟩
  cases wx <;> try exact q.elim
  · cases wy <;> try exact q.elim
    exact .inl ⟨_, _, rx, ry, k _ _ q g _ H (Keep.refl g H) s rfl⟩
  · cases wy <;> try exact q.elim
    rename_i a b
    obtain ⟨hz, q⟩ := q
    refine .inr (.inl ⟨_, _, rx, ry, ?_, k _ _ q g _ H (Keep.refl g H) s ?_⟩)
    · rw [ofString_len, ofString_len]; exact big_size hz
    · rw [← ofString_app]; exact rfl
  · cases wy <;> try exact q.elim
    rename_i xs ys
    obtain ⟨hz, q⟩ := q
    obtain ⟨p, vs, rfl, hp, r1⟩ := rx
    obtain ⟨p', vs', rfl, hp', r2⟩ := ry
    refine .inr (.inr ⟨p, p', vs, vs', rfl, rfl, hK ▸ hp, hK ▸ hp', ?_, fun e => ?_, fun e e' => ?_, fun e e' p2 hn => ?_⟩)
    · rw [r1.length, r2.length]; exact big_size hz
    · have : xs = [] := List.length_eq_zero_iff.mp (by rw [← r1.length, e]; rfl)
      subst this
      exact k _ _ q g _ H (Keep.refl g H) s ⟨p', vs', rfl, hp', r2⟩
    · have : ys = [] := List.length_eq_zero_iff.mp (by rw [← r2.length, e']; rfl)
      subst this
      rw [List.append_nil] at q
      exact k _ _ q g _ H (Keep.refl g H) s ⟨p, vs, rfl, hp, r1⟩
    · have kn := Keep.new (o := .tup (vs ++ vs')) hn s
      exact k _ _ q g _ _ kn (s.new hn) ⟨p2, _, rfl, SqT.of upd_same, (r1.keep kn.kz).append (r2.keep kn.kz)⟩
end
end LW

namespace LW
open PySem L2

mutual
def W.dat : W → PyData
  | .non => .none
  | .bl b => .bool b
  | .int i => .int i
  | .str s => .str (Str.ofString s)
  | .tup xs => .tuple (W.dats xs)
  | .lst xs => .list (W.dats xs)
  | .scr xs => .list (W.dats xs)
  | .ins _ _ => .none
  | .ref _ => .none
  | .exn _ => .none
def W.dats : List W → List PyData
  | [] => []
  | x :: xs => W.dat x :: W.dats xs
end
mutual
/-- no object in it -/
@[simp] def W.pure : W → Bool
  | .non => true
  | .bl _ => true
  | .int _ => true
  | .str _ => true
  | .tup xs => W.pures xs
  | .lst xs => W.pures xs
  | .scr xs => W.pures xs
  | .ins _ _ => false
  | .ref _ => false
  | .exn _ => false
@[simp] def W.pures : List W → Bool
  | [] => true
  | x :: xs => W.pure x && W.pures xs
end
mutual
@[simp] def W.dep : W → Nat
  | .tup xs => W.deps xs + 1
  | .lst xs => W.deps xs + 1
  | .scr xs => W.deps xs + 1
  | _ => 0
@[simp] def W.deps : List W → Nat
  | [] => 0
  | x :: xs => max (W.dep x) (W.deps xs)
end
mutual
/-- == as Python has it -/
@[simp] def W.eqv : W → W → Bool
  | .non, .non => true
  | .bl a, .bl b => a == b
  | .bl a, .int j => decide ((if a then 1 else 0) = j)
  | .int i, .bl b => decide (i = (if b then 1 else 0))
  | .int i, .int j => decide (i = j)
  | .str x, .str y => decide (x = y)
  | .tup xs, .tup ys => W.eqvs xs ys
  | .lst xs, .lst ys => W.eqvs xs ys
  | .lst xs, .scr ys => W.eqvs xs ys
  | .scr xs, .lst ys => W.eqvs xs ys
  | .scr xs, .scr ys => W.eqvs xs ys
  | _, _ => false
@[simp] def W.eqvs : List W → List W → Bool
  | [], [] => true
  | x :: xs, y :: ys => W.eqv x y && W.eqvs xs ys
  | _, _ => false
end
mutual
/-- cells seen as lists: one step of looks -/
@[simp] def W.seen (look : Addr → Option (List W)) : W → Option W
  | .ref a => (look a).map .lst
  | .tup xs => (W.seens look xs).map .tup
  | .lst xs => (W.seens look xs).map .lst
  | .scr xs => (W.seens look xs).map .scr
  | .ins _ _ => none
  | .exn _ => none
  | w => some w
@[simp] def W.seens (look : Addr → Option (List W)) : List W → Option (List W)
  | [] => some []
  | x :: xs => (W.seen look x).bind fun y => (W.seens look xs).map fun ys => y :: ys
end
@[simp] def cellList (M : Heap2) (a : Addr) : Option (List W) := match M a with
  | some (.flat (.lst xs)) => some xs
  | _ => none
@[simp] def drf (M : Heap2) : Nat → W → Option W
  | 0, w => W.seen (fun _ => none) w
  | n + 1, w => W.seen (fun a => (cellList M a).bind fun xs => W.seens (fun b => (cellList M b).bind fun ys => W.seens (fun _ => none) ys) xs) w
@[simp] abbrev drf2 (M : Heap2) (w : W) : Option W := drf M 1 w

theorem strOk_ofString (s : String) : PySem.PyData.strOk (Str.ofString s) = true := by
  unfold PySem.PyData.strOk
  rw [Str.ofString_eq_toList]
  show Array.all (s.toList.map Char.toNat).toArray (fun x => decide (x < 0x110000)) = true
  rw [List.all_toArray, List.all_eq_true]
  intro n hn
  obtain ⟨c, _, rfl⟩ := List.mem_map.mp hn
  have := c.valid
  have h2 : c.val.toNat < 0x110000 := by
    rcases c.valid with h | ⟨_, h⟩
    · exact Nat.lt_trans h (by decide)
    · exact h
  exact decide_eq_true h2
mutual
theorem dat_can : ∀ w : W, (W.dat w).canLay0 = true
  | .non => rfl
  | .bl _ => rfl
  | .int _ => rfl
  | .str s => by
    show PyData.canLay0 (.str _) = true
    unfold PyData.canLay0
    exact strOk_ofString s
  | .tup xs => by
    show PyData.canLay0 (.tuple _) = true
    unfold PyData.canLay0
    exact dats_can xs
  | .lst xs => by
    show PyData.canLay0 (.list _) = true
    unfold PyData.canLay0
    exact dats_can xs
  | .scr xs => by
    show PyData.canLay0 (.list _) = true
    unfold PyData.canLay0
    exact dats_can xs
  | .ins _ _ => rfl
  | .ref _ => rfl
  | .exn _ => rfl
theorem dats_can : ∀ ws : List W, PyData.canLayAll0 (W.dats ws) = true
  | [] => rfl
  | x :: xs => by
    show PyData.canLayAll0 (_ :: _) = true
    unfold PyData.canLayAll0
    rw [dat_can x, dats_can xs]; rfl
end

mutual
theorem dat_depth : ∀ w : W, (W.dat w).depth ≤ W.dep w
  | .non => Nat.le_refl _
  | .bl _ => Nat.le_refl _
  | .int _ => Nat.le_refl _
  | .str s => Nat.le_refl _
  | .tup xs => by
    show PyData.depth (.tuple _) ≤ W.deps xs + 1
    unfold PyData.depth
    exact Nat.succ_le_succ (dats_depth xs)
  | .lst xs => by
    show PyData.depth (.list _) ≤ W.deps xs + 1
    unfold PyData.depth
    exact Nat.succ_le_succ (dats_depth xs)
  | .scr xs => by
    show PyData.depth (.list _) ≤ W.deps xs + 1
    unfold PyData.depth
    exact Nat.succ_le_succ (dats_depth xs)
  | .ins _ _ => Nat.le_refl _
  | .ref _ => Nat.le_refl _
  | .exn _ => Nat.le_refl _
theorem dats_depth : ∀ ws : List W, PyData.depthAll (W.dats ws) ≤ W.deps ws
  | [] => Nat.le_refl _
  | x :: xs => by
    show PyData.depthAll (_ :: _) ≤ max (W.dep x) (W.deps xs)
    unfold PyData.depthAll
    have h1 := dat_depth x
    have h2 := dats_depth xs
    omega
end
theorem dat_shaped {w : W} (h : W.dep w ≤ 64) : SeqAt.shaped (W.dat w) = true := by
  unfold SeqAt.shaped
  rw [dat_can, Bool.true_and]
  exact decide_eq_true (Nat.le_trans (dat_depth w) h)
mutual
theorem eqv_dat : ∀ x y : W, W.pure x = true → W.pure y = true → PyData.eqv (W.dat x) (W.dat y) = W.eqv x y
  | .non, y, hx, hy => by cases y <;> simp_all [W.dat, W.eqv, W.pure, PyData.eqv]
  | .bl a, y, hx, hy => by cases y <;> simp_all [W.dat, W.eqv, W.pure, PyData.eqv] <;> rfl
  | .int i, y, hx, hy => by cases y <;> simp_all [W.dat, W.eqv, W.pure, PyData.eqv] <;> rfl
  | .str s, y, hx, hy => by
    cases y <;> simp_all [W.dat, W.eqv, W.pure, PyData.eqv]
    rename_i t
    by_cases e : s = t
    · subst e; simp
    · have : ¬ Str.ofString s = Str.ofString t := fun h => e (ofString_inj h)
      simp [e, this]
  | .tup xs, y, hx, hy => by
    cases y <;> simp_all [W.dat, W.eqv, W.pure, PyData.eqv]
    exact eqvs_dat _ _ hx hy
  | .lst xs, y, hx, hy => by
    cases y <;> simp_all [W.dat, W.eqv, W.pure, PyData.eqv]
    · exact eqvs_dat _ _ hx hy
    · exact eqvs_dat _ _ hx hy
  | .scr xs, y, hx, hy => by
    cases y <;> simp_all [W.dat, W.eqv, W.pure, PyData.eqv]
    · exact eqvs_dat _ _ hx hy
    · exact eqvs_dat _ _ hx hy
  | .ins _ _, y, hx, hy => by simp [W.pure] at hx
  | .ref _, y, hx, hy => by simp [W.pure] at hx
  | .exn _, y, hx, hy => by simp [W.pure] at hx
theorem eqvs_dat : ∀ xs ys : List W, W.pures xs = true → W.pures ys = true → PyData.eqvAll (W.dats xs) (W.dats ys) = W.eqvs xs ys
  | [], [], _, _ => by simp [W.dats, PyData.eqvAll, W.eqvs]
  | [], _ :: _, _, _ => by simp [W.dats, PyData.eqvAll, W.eqvs]
  | _ :: _, [], _, _ => by simp [W.dats, PyData.eqvAll, W.eqvs]
  | x :: xs, y :: ys, hx, hy => by
    simp only [W.pures, Bool.and_eq_true] at hx hy
    simp only [W.dats, PyData.eqvAll, W.eqvs]
    rw [eqv_dat x y hx.1 hy.1, eqvs_dat xs ys hx.2 hy.2]
end
mutual
theorem seen_dp {G : Gm} {Z : Addr → Prop} {H : Hp} {look : Addr → Option (List W)} (hl : ∀ a xs, look a = some xs → W.pures xs = true ∧ ∃ vs, SqL G.K H a vs ∧ DpAll G.K H vs (W.dats xs)) :
    ∀ {w y : W} {v : V}, W.seen look w = some y → Rep G Z H w v → W.pure y = true ∧ Dp G.K H v (W.dat y)
  | .non, y, v, e, r => by cases e; rw [show v = _ from r]; exact ⟨rfl, .non⟩
  | .bl b, y, v, e, r => by cases e; rw [show v = _ from r]; exact ⟨rfl, .bl b⟩
  | .int i, y, v, e, r => by cases e; rw [show v = _ from r]; exact ⟨rfl, .int i⟩
  | .str s, y, v, e, r => by cases e; rw [show v = _ from r]; exact ⟨rfl, .str _⟩
  | .tup xs, y, v, e, r => by
    obtain ⟨p, vs, rfl, h, q⟩ := r
    obtain ⟨ys, e1, rfl⟩ := Option.map_eq_some_iff.mp (show (W.seens look xs).map W.tup = some y from e)
    obtain ⟨h1, h2⟩ := seens_dp hl e1 q
    exact ⟨h1, .tup h h2⟩
  | .lst xs, y, v, e, r => by
    obtain ⟨p, vs, rfl, z, h, q⟩ := r
    obtain ⟨ys, e1, rfl⟩ := Option.map_eq_some_iff.mp (show (W.seens look xs).map W.lst = some y from e)
    obtain ⟨h1, h2⟩ := seens_dp hl e1 q
    exact ⟨h1, .lst (SqL.of h) h2⟩
  | .scr xs, y, v, e, r => by
    obtain ⟨p, vs, rfl, h, q⟩ := r
    obtain ⟨ys, e1, rfl⟩ := Option.map_eq_some_iff.mp (show (W.seens look xs).map W.scr = some y from e)
    obtain ⟨h1, h2⟩ := seens_dp hl e1 q
    exact ⟨h1, .lst h.seq h2⟩
  | .ref a, y, v, e, r => by
    obtain ⟨ys, e1, rfl⟩ := Option.map_eq_some_iff.mp (show (look a).map W.lst = some y from e)
    obtain ⟨h1, vs, h2, h3⟩ := hl a ys e1
    rw [show v = _ from r]
    exact ⟨h1, .lst h2 h3⟩
  | .ins _ _, y, v, e, r => by cases e
  | .exn _, y, v, e, r => by cases e
theorem seens_dp {G : Gm} {Z : Addr → Prop} {H : Hp} {look : Addr → Option (List W)} (hl : ∀ a xs, look a = some xs → W.pures xs = true ∧ ∃ vs, SqL G.K H a vs ∧ DpAll G.K H vs (W.dats xs)) :
    ∀ {ws ys : List W} {vs : List V}, W.seens look ws = some ys → RepL G Z H ws vs → W.pures ys = true ∧ DpAll G.K H vs (W.dats ys)
  | [], ys, vs, e, r => by cases e; rw [show vs = _ from r]; exact ⟨rfl, .nil⟩
  | x :: xs, ys, vs, e, r => by
    obtain ⟨v, rr, rfl, a, b⟩ := r
    obtain ⟨y, e1, e2⟩ := Option.bind_eq_some_iff.mp (show (W.seen look x).bind (fun y => (W.seens look xs).map fun ys => y :: ys) = some ys from e)
    obtain ⟨zs, e3, rfl⟩ := Option.map_eq_some_iff.mp e2
    obtain ⟨h1, h2⟩ := seen_dp hl e1 a
    obtain ⟨h3, h4⟩ := seens_dp hl e3 b
    refine ⟨?_, .cons h2 h4⟩
    show (W.pure y && W.pures zs) = true
    rw [h1, h3]; rfl
end
theorem cellList_rep {G : Gm} {g : Gh} {M : Heap2} {H : Hp} {a : Addr} {xs : List W} (e : cellList M a = some xs) (s : Sim G g M H) : ∃ vs, H a = some (.lst vs) ∧ RepL G g.Z H xs vs := by
  unfold cellList at e
  split at e
  · rename_i ys hm
    cases e
    obtain ⟨_, vs, h, q⟩ := s.cell a _ hm
    exact ⟨vs, h, q⟩
  · cases e
theorem drf_dp {G : Gm} {g : Gh} {M : Heap2} {H : Hp} {w y : W} {v : V} (e : drf2 M w = some y) (s : Sim G g M H) (r : Rep G g.Z H w v) : W.pure y = true ∧ Dp G.K H v (W.dat y) := by
  have in1 : ∀ b ys, ((cellList M b).bind fun ys => W.seens (fun _ => none) ys) = some ys → W.pures ys = true ∧ ∃ vs, SqL G.K H b vs ∧ DpAll G.K H vs (W.dats ys) := fun b ys hb => by
    obtain ⟨us, e3, e4⟩ := Option.bind_eq_some_iff.mp hb
    obtain ⟨ws, h5, h6⟩ := cellList_rep e3 s
    obtain ⟨h7, h8⟩ := seens_dp (fun _ _ z => by cases z) e4 h6
    exact ⟨h7, ws, SqL.of h5, h8⟩
  refine seen_dp (fun a xs ha => ?_) e r
  obtain ⟨zs, e1, e2⟩ := Option.bind_eq_some_iff.mp ha
  obtain ⟨vs, h1, h2⟩ := cellList_rep e1 s
  obtain ⟨h3, h4⟩ := seens_dp in1 e2 h2
  exact ⟨h3, vs, SqL.of h1, h4⟩

@[simp] def rEq2 (neg : Bool) : R22 := fun x y M Q => ∃ x' y', drf2 M x = some x' ∧ drf2 M y = some y' ∧ W.dep x' ≤ 64 ∧ W.dep y' ≤ 64 ∧ Q (.bl (if neg then !W.eqv x' y' else W.eqv x' y')) M
section
variable {G : Gm} {X : Cx} {Wx : WX} {a b c : Expr} {ta tb tc : T2} {pos : Pos}
theorem op_rEq (hK : X.K = G.K) (hu : X.A.units + 64 < cLine) : OpR X (compareOp .Eq) (liftR G (rEq2 false)) := by
  refine opR_imp (op_eqD hu) ?_
  rintro x y H Q ⟨g, M, wx, wy, Q0, s, rx, ry, ⟨x', y', e1, e2, d1, d2, q⟩, k⟩
  obtain ⟨p1, r1⟩ := drf_dp e1 s rx
  obtain ⟨p2, r2⟩ := drf_dp e2 s ry
  rw [hK]
  exact ⟨_, _, r1, r2, dat_shaped d1, dat_shaped d2, k _ _ q g _ H (Keep.refl g H) s (by rw [eqv_dat _ _ p1 p2]; exact rfl)⟩
theorem op_rNe (hK : X.K = G.K) (hu : X.A.units + 64 < cLine) : OpR X (compareOp .NotEq) (liftR G (rEq2 true)) := by
  refine opR_imp (op_neD hu) ?_
  rintro x y H Q ⟨g, M, wx, wy, Q0, s, rx, ry, ⟨x', y', e1, e2, d1, d2, q⟩, k⟩
  obtain ⟨p1, r1⟩ := drf_dp e1 s rx
  obtain ⟨p2, r2⟩ := drf_dp e2 s ry
  rw [hK]
  exact ⟨_, _, r1, r2, dat_shaped d1, dat_shaped d2, k _ _ q g _ H (Keep.refl g H) s (by rw [eqv_dat _ _ p1 p2]; exact rfl)⟩
theorem se_eq (hu : X.A.units + 64 < cLine) (ha : SE G X Wx a ta) (hb : SE G X Wx b tb) (hK : X.K = G.K := by rfl) : SE G X Wx (.Compare a [.Eq] [b] pos) (tOp2 (rEq2 false) ta tb) := se_cmp (op_rEq hK hu) ha hb (nobehind _ (by decide) (by decide))
theorem se_ne (hu : X.A.units + 64 < cLine) (ha : SE G X Wx a ta) (hb : SE G X Wx b tb) (hK : X.K = G.K := by rfl) : SE G X Wx (.Compare a [.NotEq] [b] pos) (tOp2 (rEq2 true) ta tb) := se_cmp (op_rNe hK hu) ha hb (nobehind _ (by decide) (by decide))
@[simp] abbrev rLtW : R22 := rInt (fun _ _ => True) fun i j => .bl (decide (i < j))
@[simp] abbrev rLeW : R22 := rInt (fun _ _ => True) fun i j => .bl (decide (i ≤ j))
@[simp] abbrev rGtW : R22 := rInt (fun _ _ => True) fun i j => .bl (decide (j < i))
@[simp] abbrev rGeW : R22 := rInt (fun _ _ => True) fun i j => .bl (decide (j ≤ i))
theorem se_lt (ha : SE G X Wx a ta) (hb : SE G X Wx b tb) : SE G X Wx (.Compare a [.Lt] [b] pos) (tOp2 rLtW ta tb) := se_cmp (opR_imp op_lt rIntB_lift) ha hb (nobehind _ (by decide) (by decide))
theorem se_le (ha : SE G X Wx a ta) (hb : SE G X Wx b tb) : SE G X Wx (.Compare a [.LtE] [b] pos) (tOp2 rLeW ta tb) := se_cmp (opR_imp op_le rIntB_lift) ha hb (nobehind _ (by decide) (by decide))
theorem se_gt (ha : SE G X Wx a ta) (hb : SE G X Wx b tb) : SE G X Wx (.Compare a [.Gt] [b] pos) (tOp2 rGtW ta tb) := se_cmp (opR_imp op_gt rIntB_lift) ha hb (nobehind _ (by decide) (by decide))
theorem se_ge (ha : SE G X Wx a ta) (hb : SE G X Wx b tb) : SE G X Wx (.Compare a [.GtE] [b] pos) (tOp2 rGeW ta tb) := se_cmp (opR_imp op_ge rIntB_lift) ha hb (nobehind _ (by decide) (by decide))
end
end LW

namespace LW
open PySem L2
section
variable {G : Gm} {X : Cx} {Wx : WX} {a b c e : Expr} {ta tb tc te : T2} {pos : Pos}
@[simp] def tVar2 (i : Nat) : T2 := fun env M Q _ => match env[i]? with
  | some (some w) => Q w M
  | _ => False
theorem se_var {i : Nat} {x : Str} (hN : X.N[i]? = some x) (hv : Vis X.env.scope x) (hd : (x == ("__debug__" : Str)) = false := by decide) (hcd : (x == ("__classdict__" : Str)) = false := by decide) : SE G X Wx (.Name x pos) (tVar2 i) := by
  refine pe_imp (pe_var hN hv hd hcd) ?_
  rintro σ H Q ⟨g, env, M, Q0, E0, s, ev, t, k, x⟩
  have t' : (match env[i]? with | some (some w) => Q0 w M | _ => False) := t
  split at t'
  · rename_i w hw
    obtain ⟨v, h1, h2⟩ := ev.get hw
    exact ⟨v, h1, k _ _ t' g v H (Keep.refl g H) s h2⟩
  · exact t'.elim
@[simp] def tC2 (w : W) : T2 := fun _ M Q _ => Q w M
theorem se_c {v : V} {w : W} (h : PE X e (tC v)) (r : ∀ g H, Rep G g H w v) : SE G X Wx e (tC2 w) := by
  refine pe_imp h ?_
  rintro σ H Q ⟨g, env, M, Q0, E0, s, ev, t, k, x⟩
  exact k _ _ t g v H (Keep.refl g H) s (r _ _)
theorem se_int {i j} : SE G X Wx (.Constant (.int i) j pos) (tC2 (.int i)) := se_c pe_int fun _ _ => rfl
theorem se_bl {b j} : SE G X Wx (.Constant (.bool b) j pos) (tC2 (.bl b)) := se_c pe_bl fun _ _ => rfl
theorem se_non {j} : SE G X Wx (.Constant .none j pos) (tC2 .non) := se_c pe_non fun _ _ => rfl
theorem se_str {x : String} {j} : SE G X Wx (.Constant (.str (Str.ofString x)) j pos) (tC2 (.str x)) := se_c pe_str fun _ _ => rfl
/-- a global of the text that holds a value w -/
theorem se_glob {x : Str} {v : V} {u : Value} {w : W} (hg : Gl X x) (hm : X.mg x = some u) (r : RelV v u) (rw : ∀ g H, Rep G g H w v) (hd : (x == ("__debug__" : Str)) = false := by decide) : SE G X Wx (.Name x pos) (tC2 w) := se_c (pe_glob hg hm r hd) rw

@[simp] def tTest2 (te : T2) : TT2 := fun env M Q E => te env M (fun w M1 => match w with
  | .bl b => Q b M1
  | _ => False) E
theorem sb_val (h : SE G X Wx e te) (he : ∀ whole, isTrue e X.env whole = (do let v ← whole; standAt e.pos; holding [v] (truthy v)) := by intro _; rfl) : SB G X Wx e (tTest2 te) := by
  refine pt_imp (pt_val h he) ?_
  rintro σ H Q ⟨g, env, M, Q0, E0, s, ev, t, k, x⟩
  refine ⟨g, env, M, _, E0, s, ev, t, fun w M1 h1 g1 v H1 k1 s1 r1 => ?_, x⟩
  cases w <;> try exact h1.elim
  exact ⟨_, r1, k _ _ h1 g1 H1 k1 s1⟩
/-- a comparison as a test -/
theorem sb_cmp {op : CmpOp} {r : R22} (ho : OpR X (compareOp op) (liftR G r)) (ha : SE G X Wx a ta) (hb : SE G X Wx b tb) (hm : behindInMarks op b = false) : SB G X Wx (.Compare a [op] [b] pos) (tTest2 (tOp2 r ta tb)) := by
  refine pt_imp (pt_cmpR ho ha hb hm) ?_
  rintro σ H Q ⟨g, env, M, Q0, E0, s, ev, t, k, x⟩
  have z := bin2 (Wx := Wx) (G := G) (ta := ta) (tb := tb) (r := r) σ H (fun v H1 => ∃ c, v = .bl c ∧ Q c H1) ⟨g, env, M, _, E0, s, ev, t, fun w M1 h1 g1 v H1 k1 s1 r1 => ?_, x⟩
  · exact z
  · cases w <;> try exact h1.elim
    exact ⟨_, r1, k _ _ h1 g1 H1 k1 s1⟩
@[simp] def tNot2 (t : TT2) : TT2 := fun env M Q E => t env M (fun b M1 => Q (!b) M1) E
@[simp] def tAnd2 (t u : TT2) : TT2 := fun env M Q E => t env M (fun b M1 => if b = true then u env M1 Q E else Q false M1) E
@[simp] def tOr2 (t u : TT2) : TT2 := fun env M Q E => t env M (fun b M1 => if b = true then Q true M1 else u env M1 Q E) E
abbrev SW (G : Gm) (X : Cx) (Wx : WX) (e : Expr) (t : TT2) : Prop := PW X e (liftT G Wx t)
theorem sb_not {t : TT2} (h : SB G X Wx a t) : SB G X Wx (.UnaryOp .Not a pos) (tNot2 t) := by
  refine pt_imp (pt_not h) ?_
  rintro σ H Q ⟨g, env, M, Q0, E0, s, ev, t, k, x⟩
  exact ⟨g, env, M, _, E0, s, ev, t, fun b M1 h1 g1 H1 k1 s1 => k _ _ h1 g1 H1 k1 s1, x⟩
theorem sw_sb {t : TT2} (h : SW G X Wx e t) : SB G X Wx e t := h.pt
theorem sw_and1 {t : TT2} (h : SB G X Wx a t) : SW G X Wx (.BoolOp .And [a] pos) t := pw_and1 h
theorem sw_or1 {t : TT2} (h : SB G X Wx a t) : SW G X Wx (.BoolOp .Or [a] pos) t := pw_or1 h
theorem sw_and {t u : TT2} {rest : List Expr} (ha : SB G X Wx a t) (hb : SW G X Wx (.BoolOp .And (b :: rest) pos) u) : SW G X Wx (.BoolOp .And (a :: b :: rest) pos) (tAnd2 t u) := by
  refine pw_imp (pw_and ha hb) ?_
  rintro σ H Q ⟨g, env, M, Q0, E0, s, ev, t, k, x⟩
  refine ⟨g, env, M, _, E0, s, ev, t, fun b M1 h1 g1 H1 k1 s1 => ?_, x⟩
  cases b with
  | true => exact ⟨g1, env, M1, Q0, E0, s1, ev.keep k1.kz, h1, fun b M2 h2 g2 H2 k2 s2 => k b M2 h2 g2 H2 (k1.trans k2) s2, x.keep k1⟩
  | false => exact k _ _ h1 g1 H1 k1 s1
theorem sw_or {t u : TT2} {rest : List Expr} (ha : SB G X Wx a t) (hb : SW G X Wx (.BoolOp .Or (b :: rest) pos) u) : SW G X Wx (.BoolOp .Or (a :: b :: rest) pos) (tOr2 t u) := by
  refine pw_imp (pw_or ha hb) ?_
  rintro σ H Q ⟨g, env, M, Q0, E0, s, ev, t, k, x⟩
  refine ⟨g, env, M, _, E0, s, ev, t, fun b M1 h1 g1 H1 k1 s1 => ?_, x⟩
  cases b with
  | true => exact k _ _ h1 g1 H1 k1 s1
  | false => exact ⟨g1, env, M1, Q0, E0, s1, ev.keep k1.kz, h1, fun b M2 h2 g2 H2 k2 s2 => k b M2 h2 g2 H2 (k1.trans k2) s2, x.keep k1⟩
/-- .. as values -/
@[simp] def tBoolV (te : T2) (k : Bool → Env2 → Heap2 → Q2 → X2 → Prop) : T2 := fun env M Q E => te env M (fun w M1 => match w with
  | .bl b => k b env M1 Q E
  | _ => False) E
@[simp] def tAndV2 (ta tb : T2) : T2 := tBoolV ta fun b env M Q E => if b = true then tb env M Q E else Q (.bl false) M
@[simp] def tOrV2 (ta tb : T2) : T2 := tBoolV ta fun b env M Q E => if b = true then Q (.bl true) M else tb env M Q E
@[simp] def tNotV2 (ta : T2) : T2 := tBoolV ta fun b _ M Q _ => Q (.bl (!b)) M
theorem se_one {op} {t : T2} (h : SE G X Wx a t) : SE G X Wx (.BoolOp op [a] pos) t := pe_one h
theorem se_and {rest : List Expr} (ha : SE G X Wx a ta) (hb : SE G X Wx (.BoolOp .And (b :: rest) pos) tb) : SE G X Wx (.BoolOp .And (a :: b :: rest) pos) (tAndV2 ta tb) := by
  refine pe_imp (pe_and ha hb) ?_
  rintro σ H Q ⟨g, env, M, Q0, E0, s, ev, t, k, x⟩
  refine ⟨g, env, M, _, E0, s, ev, t, fun w M1 h1 g1 v H1 k1 s1 r1 => ?_, x⟩
  cases w <;> try exact h1.elim
  rename_i b
  refine ⟨b, r1, ?_⟩
  cases b with
  | true => exact ⟨g1, env, M1, Q0, E0, s1, ev.keep k1.kz, h1, fun w M2 h2 g2 v H2 k2 s2 r2 => k w M2 h2 g2 v H2 (k1.trans k2) s2 r2, x.keep k1⟩
  | false => exact k _ _ h1 g1 _ H1 k1 s1 rfl
theorem se_or {rest : List Expr} (ha : SE G X Wx a ta) (hb : SE G X Wx (.BoolOp .Or (b :: rest) pos) tb) : SE G X Wx (.BoolOp .Or (a :: b :: rest) pos) (tOrV2 ta tb) := by
  refine pe_imp (pe_or ha hb) ?_
  rintro σ H Q ⟨g, env, M, Q0, E0, s, ev, t, k, x⟩
  refine ⟨g, env, M, _, E0, s, ev, t, fun w M1 h1 g1 v H1 k1 s1 r1 => ?_, x⟩
  cases w <;> try exact h1.elim
  rename_i b
  refine ⟨b, r1, ?_⟩
  cases b with
  | true => exact k _ _ h1 g1 _ H1 k1 s1 rfl
  | false => exact ⟨g1, env, M1, Q0, E0, s1, ev.keep k1.kz, h1, fun w M2 h2 g2 v H2 k2 s2 r2 => k w M2 h2 g2 v H2 (k1.trans k2) s2 r2, x.keep k1⟩
theorem se_not (ha : SE G X Wx a ta) : SE G X Wx (.UnaryOp .Not a pos) (tNotV2 ta) := by
  refine pe_imp (pe_not ha) ?_
  rintro σ H Q ⟨g, env, M, Q0, E0, s, ev, t, k, x⟩
  refine ⟨g, env, M, _, E0, s, ev, t, fun w M1 h1 g1 v H1 k1 s1 r1 => ?_, x⟩
  cases w <;> try exact h1.elim
  exact ⟨_, r1, k _ _ h1 g1 _ H1 k1 s1 rfl⟩
/-- is None, is not None -/
@[simp] def W.isNon : W → Bool
  | .non => true
  | _ => false
@[simp] def rIsN2 (neg : Bool) : R22 := fun x y M Q => match y with
  | .non => Q (.bl (if neg then !x.isNon else x.isNon)) M
  | _ => False
theorem rep_isNon {Z : Addr → Prop} {H : Hp} {w : W} {v : V} (r : Rep G Z H w v) : decide (v = .non) = w.isNon := by
  cases w with
  | non => rw [show v = _ from r]; rfl
  | bl _ => rw [show v = _ from r]; rfl
  | int _ => rw [show v = _ from r]; rfl
  | str _ => rw [show v = _ from r]; rfl
  | tup _ => obtain ⟨_, _, rfl, _⟩ := r; rfl
  | lst _ => obtain ⟨_, _, rfl, _⟩ := r; rfl
  | scr _ => obtain ⟨_, _, rfl, _⟩ := r; rfl
  | ins _ _ => obtain ⟨_, _, _, rfl, _⟩ := r; rfl
  | ref _ => rw [show v = _ from r]; rfl
  | exn _ => exact r.elim
theorem op_rIsN : OpR X (compareOp .Is) (liftR G (rIsN2 false)) := by
  refine opR_imp op_isN ?_
  rintro x y H Q ⟨g, M, wx, wy, Q0, s, rx, ry, q, k⟩
  cases wy <;> try exact q.elim
  exact ⟨ry, k _ _ q g _ H (Keep.refl g H) s (by rw [rep_isNon rx]; exact rfl)⟩
theorem op_rNotN : OpR X (compareOp .IsNot) (liftR G (rIsN2 true)) := by
  refine opR_imp op_notN ?_
  rintro x y H Q ⟨g, M, wx, wy, Q0, s, rx, ry, q, k⟩
  cases wy <;> try exact q.elim
  exact ⟨ry, k _ _ q g _ H (Keep.refl g H) s (by rw [rep_isNon rx]; exact rfl)⟩
theorem se_is (ha : SE G X Wx a ta) (hb : SE G X Wx b tb) : SE G X Wx (.Compare a [.Is] [b] pos) (tOp2 (rIsN2 false) ta tb) := se_cmp op_rIsN ha hb (nobehind _ (by decide) (by decide))
theorem se_isnot (ha : SE G X Wx a ta) (hb : SE G X Wx b tb) : SE G X Wx (.Compare a [.IsNot] [b] pos) (tOp2 (rIsN2 true) ta tb) := se_cmp op_rNotN ha hb (nobehind _ (by decide) (by decide))
@[simp] abbrev rNegW : R12 := fun x M Q => match x with
  | .int i => Q (.int (-i)) M
  | _ => False
theorem se_neg (ha : SE G X Wx a ta) : SE G X Wx (.UnaryOp .USub a pos) (tUn2 rNegW ta) := by
  refine se_un (unR_imp un_neg ?_) ha
  rintro x H Q ⟨g, M, wx, Q0, s, rx, q, k⟩
  cases wx <;> try exact q.elim
  exact ⟨_, rx, k _ _ q g _ H (Keep.refl g H) s rfl⟩

theorem dats_any {x : W} : ∀ (ys : List W), W.pures ys = true → W.pure x = true → ((W.dats ys).any fun z => PyData.eqv z (W.dat x)) = ys.any fun z => W.eqv z x
  | [], _, _ => rfl
  | y :: ys, h, hx => by
    simp only [W.pures, Bool.and_eq_true] at h
    show (PyData.eqv (W.dat y) (W.dat x) || (W.dats ys).any _) = (W.eqv y x || ys.any _)
    rw [eqv_dat _ _ h.1 hx, dats_any ys h.2 hx]
@[simp] def rIn2 (neg : Bool) : R22 := fun x y M Q => ∃ x' ys, drf2 M x = some x' ∧ drf2 M y = some (.lst ys) ∧ W.dep x' ≤ 64 ∧ W.deps ys ≤ 63 ∧ Q (.bl (if neg then !(ys.any fun z => W.eqv z x') else ys.any fun z => W.eqv z x')) M
theorem op_rIn (hK : X.K = G.K) (hu : X.A.units + 65 < cLine) : OpR X (compareOp .In) (liftR G (rIn2 false)) := by
  refine opR_imp (op_inD hu) ?_
  rintro x y H Q ⟨g, M, wx, wy, Q0, s, rx, ry, ⟨x', ys, e1, e2, d1, d2, q⟩, k⟩
  obtain ⟨p1, r1⟩ := drf_dp e1 s rx
  obtain ⟨p2, r2⟩ := drf_dp e2 s ry
  rw [hK]
  refine ⟨_, _, r1, r2, dat_shaped d1, dat_shaped (w := .lst ys) (by show W.deps ys + 1 ≤ 64; omega), k _ _ q g _ H (Keep.refl g H) s ?_⟩
  rw [dats_any ys p2 p1]; exact rfl
theorem op_rNotIn (hK : X.K = G.K) (hu : X.A.units + 65 < cLine) : OpR X (compareOp .NotIn) (liftR G (rIn2 true)) := by
  refine opR_imp (op_notInD hu) ?_
  rintro x y H Q ⟨g, M, wx, wy, Q0, s, rx, ry, ⟨x', ys, e1, e2, d1, d2, q⟩, k⟩
  obtain ⟨p1, r1⟩ := drf_dp e1 s rx
  obtain ⟨p2, r2⟩ := drf_dp e2 s ry
  rw [hK]
  refine ⟨_, _, r1, r2, dat_shaped d1, dat_shaped (w := .lst ys) (by show W.deps ys + 1 ≤ 64; omega), k _ _ q g _ H (Keep.refl g H) s ?_⟩
  rw [dats_any ys p2 p1]; exact rfl
theorem se_in (hu : X.A.units + 65 < cLine) (ha : SE G X Wx a ta) (hb : SE G X Wx b tb) (hm : behindInMarks .In b = false := by rfl) (hK : X.K = G.K := by rfl) : SE G X Wx (.Compare a [.In] [b] pos) (tOp2 (rIn2 false) ta tb) := se_cmp (op_rIn hK hu) ha hb hm
theorem se_notin (hu : X.A.units + 65 < cLine) (ha : SE G X Wx a ta) (hb : SE G X Wx b tb) (hm : behindInMarks .NotIn b = false := by rfl) (hK : X.K = G.K := by rfl) : SE G X Wx (.Compare a [.NotIn] [b] pos) (tOp2 (rIn2 true) ta tb) := se_cmp (op_rNotIn hK hu) ha hb hm
@[simp] def W.flat : W → Bool
  | .non => true
  | .bl _ => true
  | .int _ => true
  | .str _ => true
  | _ => false
theorem flat_rep {Z : Addr → Prop} {H : Hp} {w : W} {v : V} (f : w.flat = true) (r : Rep G Z H w v) : flatV v = true := by
  cases w <;> try (exact (Bool.false_ne_true f).elim)
  all_goals (rw [show v = _ from r]; rfl)
theorem flats_rep {Z : Addr → Prop} {H : Hp} : ∀ {ws : List W} {vs : List V}, ws.all W.flat = true → RepL G Z H ws vs → vs.all flatV = true
  | [], _, _, r => by rw [show _ = _ from r]; rfl
  | w :: ws, _, f, ⟨v, r, e, a, b⟩ => by
    subst e
    rw [List.all_cons, Bool.and_eq_true] at f
    rw [List.all_cons, flat_rep f.1 a, flats_rep f.2 b]; rfl
theorem eqV_rep {Z : Addr → Prop} {H : Hp} {x y : W} {v u : V} (fx : x.flat = true) (fy : y.flat = true) (rx : Rep G Z H x v) (ry : Rep G Z H y u) : eqV v u = W.eqv x y := by
  cases x <;> try (exact (Bool.false_ne_true fx).elim)
  all_goals (rw [show v = _ from rx]; cases y <;> try (exact (Bool.false_ne_true fy).elim))
  all_goals (rw [show u = _ from ry])
  all_goals try rfl
  all_goals try (simp [eqV, W.eqv]; done)
  · rename_i s t
    by_cases e : s = t
    · subst e; simp [eqV, W.eqv]
    · have h : ¬ Str.ofString s = Str.ofString t := fun h => e (ofString_inj h)
      simp [eqV, W.eqv, e, h]
end
end LW

namespace LW
open PySem L2
section
variable {G : Gm} {X : Cx} {Wx : WX} {a b c e o : Expr} {ta tb tc te : T2} {pos : Pos} {es : List Expr} {t : TA2}
@[simp] def tNil2 : TA2 := fun _ M Q _ => Q [] M
@[simp] def tCons2 (ta : T2) (t : TA2) : TA2 := fun env M Q E => ta env M (fun w M1 => t env M1 (fun ws M2 => Q (w :: ws) M2) E) E
theorem sa_nil : SA G X Wx [] tNil2 := by
  refine pa_imp pa_nil ?_
  rintro σ H Q ⟨g, env, M, Q0, E0, s, ev, t, k, x⟩
  exact k _ _ t g [] H (Keep.refl g H) s rfl
theorem sa_cons (ha : SE G X Wx e ta) (hr : SA G X Wx es t) (hs : starEach (e :: es) X.env = (false, eval e X.env) :: starEach es X.env := by rfl) : SA G X Wx (e :: es) (tCons2 ta t) := by
  refine pa_imp (pa_cons ha hr hs) ?_
  rintro σ H Q ⟨g, env, M, Q0, E0, s, ev, t, k, x⟩
  refine ⟨g, env, M, _, E0, s, ev, t, fun w M1 h1 g1 v H1 k1 s1 r1 => ?_, x⟩
  refine ⟨g1, env, M1, _, E0, s1, ev.keep k1.kz, h1, fun ws M2 h2 g2 vs H2 k2 s2 r2 => ?_, x.keep k1⟩
  exact k _ _ h2 g2 _ H2 (k1.trans k2) s2 ⟨v, vs, rfl, r1.keep k2.kz, r2⟩
@[simp] def tTup2 (t : TA2) : T2 := fun env M Q E => t env M (fun ws M1 => ws.length ≤ 10000000 ∧ Q (.tup ws) M1) E
theorem se_tup {x1} (h : SA G X Wx es t) : SE G X Wx (.Tuple es x1 pos) (tTup2 t) := by
  refine pe_imp (pe_tup h) ?_
  rintro σ H Q ⟨g, env, M, Q0, E0, s, ev, t, k, x⟩
  refine ⟨g, env, M, _, E0, s, ev, t, fun ws M1 h1 g1 vs H1 k1 s1 r1 => ⟨?_, fun p hp => ?_⟩, x⟩
  · rw [r1.length]; exact big_size h1.1
  · have kn := Keep.new (o := .tup vs) hp s1
    exact k _ _ h1.2 g1 _ _ (k1.trans kn) (s1.new hp) ⟨p, vs, rfl, SqT.of upd_same, r1.keep kn.kz⟩
/-- a list that is only read from now on -/
@[simp] def tLst2 (t : TA2) : T2 := fun env M Q E => t env M (fun ws M1 => ws.length ≤ 10000000 ∧ Q (.lst ws) M1) E
theorem se_lst (h : SA G X Wx es t) : SE G X Wx (.List es pos) (tLst2 t) := by
  refine pe_imp (pe_lst h) ?_
  rintro σ H Q ⟨g, env, M, Q0, E0, s, ev, t, k, x⟩
  refine ⟨g, env, M, _, E0, s, ev, t, fun ws M1 h1 g1 vs H1 k1 s1 r1 => ⟨?_, fun p hp => ?_⟩, x⟩
  · rw [r1.length]; exact big_size h1.1
  · obtain ⟨sn, kn⟩ := s1.newZ (o := .lst vs) hp
    exact k _ _ h1.2 _ _ _ (k1.trans kn) sn ⟨p, vs, rfl, .inr rfl, upd_same, r1.keep kn.kz⟩
/-- a list that changes -/
@[simp] def tLstC (t : TA2) : T2 := fun env M Q E => t env M (fun ws M1 => ws.length ≤ 10000000 ∧ ∀ p, M1 p = none → Q (.ref p) (upd2 M1 p (some (.flat (.lst ws))))) E
theorem se_lstC (h : SA G X Wx es t) : SE G X Wx (.List es pos) (tLstC t) := by
  refine pe_imp (pe_lst h) ?_
  rintro σ H Q ⟨g, env, M, Q0, E0, s, ev, t, k, x⟩
  refine ⟨g, env, M, _, E0, s, ev, t, fun ws M1 h1 g1 vs H1 k1 s1 r1 => ⟨?_, fun p hp => ?_⟩, x⟩
  · rw [r1.length]; exact big_size h1.1
  · have kn := Keep.new (o := .lst vs) hp s1
    obtain ⟨sn, kn'⟩ := s1.alloc (m := .lst ws) (o := .lst vs) hp ⟨vs, upd_same, r1.keep kn.kz⟩
    exact k _ _ (h1.2 p (s1.free hp).1) _ _ _ (k1.trans kn') sn rfl

@[simp] def tFrz (te : T2) : T2 := fun env M Q E => te env M (fun w M1 => match w with
  | .ref p => match M1 p with
    | some (.flat (.lst ws)) => Q (.lst ws) (upd2 M1 p none)
    | _ => False
  | _ => False) E
theorem se_frz (h : SE G X Wx e te) : SE G X Wx e (tFrz te) := by
  refine pe_imp h ?_
  rintro σ H Q ⟨g, env, M, Q0, E0, s, ev, t, k, x⟩
  refine ⟨g, env, M, _, E0, s, ev, t, fun w M1 h1 g1 v H1 k1 s1 r1 => ?_, x⟩
  cases w <;> try exact h1.elim
  rename_i p
  have h1' : (match M1 p with | some (.flat (.lst ws)) => Q0 (.lst ws) (upd2 M1 p none) | _ => False) := h1
  split at h1'
  · rename_i ws hm
    obtain ⟨sf, kf, r⟩ := s1.freeze hm
    obtain ⟨vs, hv, rv⟩ := r
    exact k _ _ h1' _ _ _ (k1.trans kf) sf ⟨p, vs, r1, .inr rfl, hv, rv⟩
  · exact h1'.elim

@[simp] def insOf (M : Heap2) : W → Option (String × List (String × W))
  | .ins C fs => some (C, fs)
  | .ref a => match M a with
    | some (.flat (.ins C fs)) => some (C, fs)
    | _ => none
  | _ => none
theorem insOf_rep {g : Gh} {M : Heap2} {H : Hp} {w : W} {v : V} {C : String} {fs : List (String × W)} (e : insOf M w = some (C, fs)) (s : Sim G g M H) (r : Rep G g.Z H w v) :
    ∃ p dx vs, v = .ref p ∧ H p = some (.ins (G.cA C) dx vs) ∧ RepF G g.Z H fs vs := by
  cases w with
  | ins D gs => cases e; obtain ⟨p, dx, vs, e1, z, h, q⟩ := r; exact ⟨p, dx, vs, e1, h, q⟩
  | ref a =>
    have e' : (match M a with | some (.flat (.ins C fs)) => some (C, fs) | _ => none) = some (C, fs) := e
    split at e'
    · rename_i D gs hm
      cases e'
      obtain ⟨_, dx, vs, h, q⟩ := s.cell a _ hm
      exact ⟨a, dx, vs, r, h, q⟩
    · cases e'
  | non => cases e
  | bl _ => cases e
  | int _ => cases e
  | str _ => cases e
  | tup _ => cases e
  | lst _ => cases e
  | scr _ => cases e
  | exn _ => cases e
@[simp] def fget (f : String) : List (String × W) → Option W
  | [] => none
  | (g, w) :: r => if g = f then some w else fget f r
@[simp] def fput (f : String) (w : W) : List (String × W) → List (String × W)
  | [] => [(f, w)]
  | (g, x) :: r => if g = f then (g, w) :: r else (g, x) :: fput f w r
theorem RepF.get {Z : Addr → Prop} {H : Hp} {f : String} : ∀ {fs : List (String × W)} {vs : List (Str × V)} {w : W}, RepF G Z H fs vs → fget f fs = some w → ∃ v, vs.lookup (Str.ofString f) = some v ∧ Rep G Z H w v
  | (n, x) :: r, _, w, ⟨v, rr, e, a, b⟩, h => by
    subst e
    unfold fget at h
    by_cases q : n = f
    · rw [if_pos q] at h
      cases h
      subst q
      exact ⟨v, by simp [List.lookup], a⟩
    · rw [if_neg q] at h
      obtain ⟨u, h1, h2⟩ := RepF.get b h
      refine ⟨u, ?_, h2⟩
      rw [List.lookup_cons]
      have : (Str.ofString f == Str.ofString n) = false := by
        rw [beq_eq_false_iff_ne]
        exact fun z => q (ofString_inj z).symm
      rw [this]; exact h1
theorem RepF.gnone {Z : Addr → Prop} {H : Hp} {f : String} : ∀ {fs : List (String × W)} {vs : List (Str × V)}, RepF G Z H fs vs → fget f fs = none → vs.lookup (Str.ofString f) = none
  | [], _, h, _ => by rw [show _ = _ from h]; rfl
  | (n, x) :: r, _, ⟨v, rr, e, a, b⟩, h => by
    subst e
    unfold fget at h
    by_cases q : n = f
    · rw [if_pos q] at h; cases h
    · rw [if_neg q] at h
      rw [List.lookup_cons]
      have : (Str.ofString f == Str.ofString n) = false := by
        rw [beq_eq_false_iff_ne]
        exact fun z => q (ofString_inj z).symm
      rw [this]; exact RepF.gnone b h
theorem RepF.put {Z : Addr → Prop} {H : Hp} {f : String} {w : W} {v : V} (hw : Rep G Z H w v) : ∀ {fs : List (String × W)} {vs : List (Str × V)}, RepF G Z H fs vs → RepF G Z H (fput f w fs) (putF (Str.ofString f) v vs)
  | [], _, h => by rw [show _ = _ from h]; exact ⟨v, [], rfl, hw, rfl⟩
  | (n, x) :: r, _, ⟨u, rr, e, a, b⟩ => by
    subst e
    unfold fput
    show RepF G Z H _ (if Str.ofString n = Str.ofString f then (Str.ofString n, v) :: rr else (Str.ofString n, u) :: putF (Str.ofString f) v rr)
    by_cases q : n = f
    · rw [if_pos q, if_pos (by rw [q])]
      exact ⟨v, rr, rfl, hw, b⟩
    · rw [if_neg q, if_neg fun z => q (ofString_inj z)]
      exact ⟨u, _, rfl, a, RepF.put hw b⟩
theorem RepF.length {Z : Addr → Prop} {H : Hp} : ∀ {fs : List (String × W)} {vs : List (Str × V)}, RepF G Z H fs vs → vs.length = fs.length
  | [], _, h => by rw [show _ = _ from h]; rfl
  | (n, x) :: r, _, ⟨u, rr, e, a, b⟩ => by subst e; simp [RepF.length b]
/-- the classes of L are plain, and have no attribute f -/
def FldOk (K : PySem.W.Frag) (G : Gm) (L : List String) (f : String) : Prop := ∀ C, C ∈ L → Cls K (G.cA C) ∧ NoAttr K (G.cA C) (Str.ofString f)
@[simp] def tFld2 (L : List String) (f : String) (ta : T2) : T2 := fun env M Q E => ta env M (fun w M1 => match insOf M1 w with
  | some (C, fs) => C ∈ L ∧ (match fget f fs with
    | some v => Q v M1
    | none => False)
  | none => False) E
theorem se_fld {L : List String} {f : String} (hf : FldOk X.K G L f) (he : SE G X Wx e te) (hb : attributeBase e (Str.ofString f) X.env (eval e X.env) = eval e X.env := by rfl) : SE G X Wx (.Attribute e (Str.ofString f) pos) (tFld2 L f te) := by
  refine pe_imp (pe_fld he hb) ?_
  rintro σ H Q ⟨g, env, M, Q0, E0, s, ev, t, k, x⟩
  refine ⟨g, env, M, _, E0, s, ev, t, fun w M1 h1 g1 v H1 k1 s1 r1 => ?_, x⟩
  have h1' : (match insOf M1 w with | some (C, fs) => C ∈ L ∧ (match fget f fs with | some v => Q0 v M1 | none => False) | none => False) := h1
  split at h1'
  · rename_i C fs hi
    obtain ⟨hC, h2⟩ := h1'
    split at h2
    · rename_i u hu
      obtain ⟨p, dx, vs, e1, hp, rf⟩ := insOf_rep hi s1 r1
      obtain ⟨u', l, ru⟩ := rf.get hu
      exact ⟨p, _, dx, vs, u', e1, hp, (hf C hC).1, (hf C hC).2, l, k _ _ h2 g1 _ H1 k1 s1 ru⟩
    · exact h2.elim
  · exact h1'.elim
@[simp] def tSetFld (L : List String) (f : String) (ta tv : T2) : TS2 := fun D env M => tv env M (fun y M1 => ta env M1 (fun x M2 => match x with
  | .ref a => match M2 a with
    | some (.flat (.ins C fs)) => C ∈ L ∧ fs.length < 100 ∧ D.nx env (upd2 M2 a (some (.flat (.ins C (fput f y fs)))))
    | _ => False
  | _ => False) D.ex) D.ex
theorem ss_fld {L : List String} {f : String} {value : Expr} {tv : T2} {pos' : Pos} (hf : FldOk X.K G L f) (ha : SE G X Wx o ta) (hv : SE G X Wx value tv) (hs : swapsWith value (some (.Attribute o (Str.ofString f) pos')) pos.line X.env = pure false := by rfl) :
    SS G X Wx (.Assign [.Attribute o (Str.ofString f) pos'] value pos) (tSetFld L f ta tv) := by
  refine ps_imp (ps_fld ha hv hs) ?_
  rintro D σ H ⟨g, env, M, D0, s, ev, t, kn, kr, kb, kc, x⟩
  refine ⟨g, env, M, _, D0.ex, s, ev, t, fun y M1 h1 g1 vy H1 k1 s1 r1 => ?_, x⟩
  refine ⟨g1, env, M1, _, D0.ex, s1, ev.keep k1.kz, h1, fun w M2 h2 g2 v H2 k2 s2 r2 => ?_, x.keep k1⟩
  cases w <;> try exact h2.elim
  rename_i a
  have h2' : (match M2 a with | some (.flat (.ins C fs)) => C ∈ L ∧ fs.length < 100 ∧ D0.nx env (upd2 M2 a (some (.flat (.ins C (fput f y fs))))) | _ => False) := h2
  split at h2'
  · rename_i C fs hm
    obtain ⟨hC, hl, q⟩ := h2'
    obtain ⟨_, dx, vs, hp, rf⟩ := s2.cell a _ hm
    refine ⟨a, _, dx, vs, r2, hp, (hf C hC).1, (hf C hC).2, by rw [rf.length]; omega, ?_⟩
    obtain ⟨s3, k3⟩ := s2.write (m' := .ins C (fput f y fs)) (o := .ins (G.cA C) dx (putF (Str.ofString f) vy vs)) hm fun k3 => ⟨dx, _, upd_same, RepF.put ((r1.keep k2.kz).keep k3.kz) (rf.keep k3.kz)⟩
    exact kn _ _ q g2 _ _ ((k1.trans k2).trans k3) s3 (ev.keep ((k1.trans k2).trans k3).kz)
  · exact h2'.elim

@[simp] def seqOf (M : Heap2) : W → Option (List W)
  | .tup xs => some xs
  | w => listOf M w
theorem atI_rep {Z : Addr → Prop} {H : Hp} {xs : List W} {vs : List V} {i : Int} {w : W} (r : RepL G Z H xs vs) (h : atI xs i = some w) : ∃ v, atI vs i = some v ∧ Rep G Z H w v := by
  unfold atI at h ⊢
  rw [r.length]
  obtain ⟨j, e1, e2⟩ := Option.bind_eq_some_iff.mp h
  obtain ⟨v, h1, h2⟩ := r.get e2
  exact ⟨v, by rw [e1]; exact h1, h2⟩
@[simp] def rIx2 : R22 := fun x y M Q => match y with
  | .int i => match x with
    | .str s => match atI s.toList i with
      | some c => s.length ≤ 10000000 ∧ Q (.str (String.singleton c)) M
      | none => False
    | x => match seqOf M x with
      | some xs => match atI xs i with
        | some w => Q w M
        | none => False
      | none => False
  | _ => False
theorem ixR_imp {r r' : R2} (h : IxR X r) (i : ∀ x y H Q, r' x y H Q → r x y H Q) : IxR X r' := fun value slice pins s σ H x y v u Q I rx ry q hs => h value slice pins s σ H x y v u Q I rx ry (i _ _ _ _ q) hs
theorem ixR_or {r1 r2 : R2} (h1 : IxR X r1) (h2 : IxR X r2) : IxR X (fun x y H Q => r1 x y H Q ∨ r2 x y H Q) := fun value slice pins s σ H x y v u Q I rx ry q hs => q.elim (fun q => h1 value slice pins s σ H x y v u Q I rx ry q hs) (fun q => h2 value slice pins s σ H x y v u Q I rx ry q hs)
theorem ofString_single (c : Char) : Str.ofString (String.singleton c) = ⟨#[c.toNat]⟩ := by
  rw [Str.ofString_eq_toList]
  simp
theorem ofString_cps (s : String) : (Str.ofString s).cps.toList = s.toList.map Char.toNat := by
  rw [Str.ofString_eq_toList]
theorem atI_map {α β : Type} (f : α → β) (xs : List α) (i : Int) : atI (xs.map f) i = (atI xs i).map f := by
  unfold atI
  rw [List.length_map]
  cases ixN xs.length i with
  | none => rfl
  | some j => simp
theorem ix_all (hK : X.K = G.K) : IxR X (liftR G rIx2) := by
  refine ixR_imp (ixR_or (ix_list (X := X)) (ixR_or (ix_tup (X := X)) ix_str)) ?_
  rintro x y H Q ⟨g, M, wx, wy, Q0, s, rx, ry, q, k⟩
  cases wy <;> try exact q.elim
  rename_i i
  have gen : ∀ xs, listOf M wx = some xs → (match atI xs i with | some w => Q0 w M | none => False) → rIxL X.K x y H Q := fun xs e q => by
    split at q
    · rename_i w hw
      obtain ⟨p, vs, e1, h1, r1⟩ := listOf_rep e s rx
      obtain ⟨v, h2, r2⟩ := atI_rep r1 hw
      exact ⟨p, vs, i, v, e1, ry, by rw [hK]; exact h1, h2, k _ _ q g _ H (Keep.refl g H) s r2⟩
    · exact q.elim
  have gen' : (match listOf M wx with | some xs => (match atI xs i with | some w => Q0 w M | none => False) | none => False) → rIxL X.K x y H Q := fun q => by
    split at q
    · rename_i xs e; exact gen xs e q
    · exact q.elim
  cases wx with
  | str t =>
    have q' : (match atI t.toList i with | some c => t.length ≤ 10000000 ∧ Q0 (.str (String.singleton c)) M | none => False) := q
    split at q'
    · rename_i c hc
      refine .inr (.inr ⟨_, i, c.toNat, rx, ry, by rw [ofString_len]; exact big_size q'.1, ?_, ?_⟩)
      · rw [ofString_cps, atI_map, hc]; rfl
      · rw [← ofString_single]
        exact k _ _ q'.2 g _ H (Keep.refl g H) s rfl
    · exact q'.elim
  | tup xs =>
    have q' : (match atI xs i with | some w => Q0 w M | none => False) := q
    split at q'
    · rename_i w hw
      obtain ⟨p, vs, e1, h1, r1⟩ := rx
      obtain ⟨v, h2, r2⟩ := atI_rep r1 hw
      exact .inr (.inl ⟨p, vs, i, v, e1, ry, by rw [hK]; exact h1, h2, k _ _ q' g _ H (Keep.refl g H) s r2⟩)
    · exact q'.elim
  | lst xs => exact .inl (gen xs rfl q)
  | scr xs => exact .inl (gen xs rfl q)
  | ref a => exact .inl (gen' q)
  | non => exact q.elim
  | bl _ => exact q.elim
  | int _ => exact q.elim
  | ins _ _ => exact q.elim
  | exn _ => exact q.elim
theorem se_ix (ha : SE G X Wx a ta) (hb : SE G X Wx b tb) (hs : PlainIx b := by exact fun _ _ => rfl) (hK : X.K = G.K := by rfl) : SE G X Wx (.Subscript a b pos) (tOp2 rIx2 ta tb) := pe_imp (pe_ix (ix_all hK) ha hb hs) bin2
end
end LW

namespace LW
open PySem L2
/-- what the lifted ends say -/
structure EndsR (G : Gm) (Wx : WX) (g : Gh) (H : Hp) (D0 : Ends2) (D : Ends) : Prop where
  nx : ∀ env' M', D0.nx env' M' → ∀ g' σ' H', Keep g H g' H' → Sim G g' M' H' → EnvR G g'.Z H' env' σ' → D.nx σ' H'
  rt : ∀ w M', D0.rt w M' → ∀ g' v H', Keep g H g' H' → Sim G g' M' H' → Rep G g'.Z H' w v → D.rt v H'
  bk : ∀ env' M', D0.bk env' M' → ∀ g' σ' H', Keep g H g' H' → Sim G g' M' H' → EnvR G g'.Z H' env' σ' → D.bk σ' H'
  ct : ∀ env' M', D0.ct env' M' → ∀ g' σ' H', Keep g H g' H' → Sim G g' M' H' → EnvR G g'.Z H' env' σ' → D.ct σ' H'
  ex : ExOk G Wx g H D0.ex
theorem EndsR.keep {G : Gm} {Wx : WX} {g g' : Gh} {H H' : Hp} {D0 : Ends2} {D : Ends} (r : EndsR G Wx g H D0 D) (k : Keep g H g' H') : EndsR G Wx g' H' D0 D :=
  ⟨fun e M h g2 σ2 H2 k2 => r.nx e M h g2 σ2 H2 (k.trans k2), fun e M h g2 σ2 H2 k2 => r.rt e M h g2 σ2 H2 (k.trans k2), fun e M h g2 σ2 H2 k2 => r.bk e M h g2 σ2 H2 (k.trans k2), fun e M h g2 σ2 H2 k2 => r.ct e M h g2 σ2 H2 (k.trans k2), r.ex.keep k⟩
theorem liftS_iff {G : Gm} {Wx : WX} {t : TS2} {D : Ends} {σ : St} {H : Hp} : liftS G Wx t D σ H ↔ ∃ g env M D0, Sim G g M H ∧ EnvR G g.Z H env σ ∧ t D0 env M ∧ EndsR G Wx g H D0 D :=
  ⟨fun ⟨g, env, M, D0, s, ev, t, a, b, c, d, e⟩ => ⟨g, env, M, D0, s, ev, t, ⟨a, b, c, d, e⟩⟩, fun ⟨g, env, M, D0, s, ev, t, ⟨a, b, c, d, e⟩⟩ => ⟨g, env, M, D0, s, ev, t, a, b, c, d, e⟩⟩
theorem liftS_mk {G : Gm} {Wx : WX} {t : TS2} {D : Ends} {σ : St} {H : Hp} {g : Gh} {env : Env2} {M : Heap2} {D0 : Ends2} (s : Sim G g M H) (ev : EnvR G g.Z H env σ) (h : t D0 env M) (r : EndsR G Wx g H D0 D) : liftS G Wx t D σ H := liftS_iff.mpr ⟨g, env, M, D0, s, ev, h, r⟩
section
variable {G : Gm} {X : Cx} {Wx : WX} {a b c e o : Expr} {ta tb tc te : T2} {pos : Pos} {st : Stmt} {rest : List Stmt} {t u : TS2}
@[simp] def tNext2 : TS2 := fun D env M => D.nx env M
@[simp] def tSeq2 (t u : TS2) : TS2 := fun D env M => t { D with nx := u D } env M
theorem sss_nil : SSs G X Wx [] tNext2 := by
  refine pss_imp pss_nil ?_
  rintro D σ H h
  obtain ⟨g, env, M, D0, s, ev, t, r⟩ := liftS_iff.mp h
  exact r.nx _ _ t g σ H (Keep.refl g H) s ev
theorem sss_one (h : SS G X Wx st t) : SSs G X Wx [st] t := pss_one h
theorem sss_cons (h1 : SS G X Wx st t) (h2 : SSs G X Wx rest u) : SSs G X Wx (st :: rest) (tSeq2 t u) := by
  refine pss_imp (pss_cons h1 h2) ?_
  rintro D σ H h
  obtain ⟨g, env, M, D0, s, ev, t, r⟩ := liftS_iff.mp h
  refine liftS_mk (D0 := { D0 with nx := u D0 }) s ev t ⟨fun env' M' h' g' σ' H' k' s' ev' => ?_, r.rt, r.bk, r.ct, r.ex⟩
  exact liftS_mk s' ev' h' (r.keep k')
@[simp] def tDrop2 (te : T2) : TS2 := fun D env M => te env M (fun _ M1 => D.nx env M1) D.ex
theorem ss_expr (he : SE G X Wx e te) (hs : swapsWith e none pos.line X.env = pure false := by rfl) : SS G X Wx (.Expr e pos) (tDrop2 te) := by
  refine ps_imp (ps_expr he hs) ?_
  rintro D σ H h
  obtain ⟨g, env, M, D0, s, ev, t, r⟩ := liftS_iff.mp h
  exact ⟨g, env, M, _, D0.ex, s, ev, t, fun w M1 h1 g1 v H1 k1 s1 r1 => r.nx _ _ h1 g1 σ H1 k1 s1 (ev.keep k1.kz), r.ex⟩
@[simp] def tRet2 (te : T2) : TS2 := fun D env M => te env M D.rt D.ex
theorem ss_ret (he : SE G X Wx e te) : SS G X Wx (.Return (some e) pos) (tRet2 te) := by
  refine ps_imp (ps_ret he) ?_
  rintro D σ H h
  obtain ⟨g, env, M, D0, s, ev, t, r⟩ := liftS_iff.mp h
  exact ⟨g, env, M, _, D0.ex, s, ev, t, r.rt, r.ex⟩
@[simp] def tRetN2 : TS2 := fun D _ M => D.rt .non M
theorem ss_retN : SS G X Wx (.Return none pos) tRetN2 := by
  refine ps_imp ps_retN ?_
  rintro D σ H h
  obtain ⟨g, env, M, D0, s, ev, t, r⟩ := liftS_iff.mp h
  exact r.rt _ _ t g _ H (Keep.refl g H) s rfl
@[simp] def tIf2 (c : TT2) (t u : TS2) : TS2 := fun D env M => c env M (fun b M1 => if b = true then t D env M1 else u D env M1) D.ex
theorem ss_if {tc : TT2} {A B : List Stmt} (hc : SB G X Wx c tc) (ha : SSs G X Wx A t) (hb : SSs G X Wx B u) : SS G X Wx (.If c A B pos) (tIf2 tc t u) := by
  refine ps_imp (ps_if hc ha hb) ?_
  rintro D σ H h
  obtain ⟨g, env, M, D0, s, ev, t, r⟩ := liftS_iff.mp h
  refine ⟨g, env, M, _, D0.ex, s, ev, t, fun b M1 h1 g1 H1 k1 s1 => ?_, r.ex⟩
  cases b with
  | true => exact liftS_mk s1 (ev.keep k1.kz) h1 (r.keep k1)
  | false => exact liftS_mk s1 (ev.keep k1.kz) h1 (r.keep k1)
theorem ss_pass : SS G X Wx (.Pass pos) tNext2 := by
  refine ps_imp ps_pass ?_
  rintro D σ H h
  obtain ⟨g, env, M, D0, s, ev, t, r⟩ := liftS_iff.mp h
  exact r.nx _ _ t g σ H (Keep.refl g H) s ev
@[simp] def tBreak2 : TS2 := fun D env M => D.bk env M
theorem ss_break : SS G X Wx (.Break pos) tBreak2 := by
  refine ps_imp ps_break ?_
  rintro D σ H h
  obtain ⟨g, env, M, D0, s, ev, t, r⟩ := liftS_iff.mp h
  exact r.bk _ _ t g σ H (Keep.refl g H) s ev
theorem ss_doc {x j pos'} : SS G X Wx (.Expr (.Constant (.str x) j pos) pos') tNext2 := by
  refine ps_imp ps_doc ?_
  rintro D σ H h
  obtain ⟨g, env, M, D0, s, ev, t, r⟩ := liftS_iff.mp h
  exact r.nx _ _ t g σ H (Keep.refl g H) s ev

abbrev TG2 := W → Env2 → Heap2 → (Env2 → Heap2 → Prop) → Prop
abbrev TGs2 := List W → Env2 → Heap2 → (Env2 → Heap2 → Prop) → Prop
def liftG (G : Gm) (t : TG2) : TG := fun v σ H Q => ∃ g w env M Q0, Sim G g M H ∧ EnvR G g.Z H env σ ∧ Rep G g.Z H w v ∧ t w env M Q0 ∧ ∀ env' M', Q0 env' M' → ∀ g' σ' H', Keep g H g' H' → Sim G g' M' H' → EnvR G g'.Z H' env' σ' → Q σ' H'
def liftGs (G : Gm) (t : TGs2) : TGs := fun vs σ H Q => ∃ g ws env M Q0, Sim G g M H ∧ EnvR G g.Z H env σ ∧ RepL G g.Z H ws vs ∧ t ws env M Q0 ∧ ∀ env' M', Q0 env' M' → ∀ g' σ' H', Keep g H g' H' → Sim G g' M' H' → EnvR G g'.Z H' env' σ' → Q σ' H'
abbrev SG (G : Gm) (X : Cx) (e : Expr) (t : TG2) : Prop := PG X e (liftG G t)
abbrev SGs (G : Gm) (X : Cx) (es : List Expr) (t : TGs2) : Prop := PGs X es (liftGs G t)
theorem pg_imp {X : Cx} {e : Expr} {t t' : TG} (h : PG X e t) (i : ∀ v σ H Q, t' v σ H Q → t v σ H Q) : PG X e t' := ⟨fun pins s σ H v u Q I r q => h.run pins s σ H v u Q I r (i _ _ _ _ q)⟩
theorem pgs_imp {X : Cx} {e : List Expr} {t t' : TGs} (h : PGs X e t) (i : ∀ v σ H Q, t' v σ H Q → t v σ H Q) : PGs X e t' := ⟨fun pins s σ H v u Q I r q => h.run pins s σ H v u Q I r (i _ _ _ _ q)⟩
@[simp] def gName2 (i : Nat) : TG2 := fun w env M Q => Q (env.set i (some w)) M
theorem sg_name {i : Nat} {x : Str} (hN : X.N.Nodup) (hi : X.N[i]? = some x) (hx : Loc X.env.scope x) (hf : X.fn x = true ∨ X.env.scope.names.lookup x = some .local := by first | exact .inl rfl | exact .inr rfl | assumption) : SG G X (.Name x pos) (gName2 i) := by
  refine pg_imp (pg_name hN hi hx hf) ?_
  rintro v σ H Q ⟨g, w, env, M, Q0, s, ev, r, t, k⟩
  exact k _ _ t g _ H (Keep.refl g H) s (ev.set r)
@[simp] def gNil2 : TGs2 := fun ws env M Q => match ws with
  | [] => Q env M
  | _ => False
@[simp] def gCons2 (t : TG2) (u : TGs2) : TGs2 := fun ws env M Q => match ws with
  | w :: r => t w env M fun env' M' => u r env' M' Q
  | _ => False
theorem sgs_nil : SGs G X [] gNil2 := by
  refine pgs_imp pgs_nil ?_
  rintro v σ H Q ⟨g, ws, env, M, Q0, s, ev, r, t, k⟩
  cases ws with
  | nil => exact ⟨r, k _ _ t g σ H (Keep.refl g H) s ev⟩
  | cons _ _ => exact t.elim
theorem sgs_cons {es : List Expr} {t : TG2} {u : TGs2} (h1 : SG G X e t) (h2 : SGs G X es u) (hs : (assignEach (e :: es) X.env).map (·.2) = assign e X.env :: (assignEach es X.env).map (·.2) := by rfl) : SGs G X (e :: es) (gCons2 t u) := by
  refine pgs_imp (pgs_cons h1 h2 hs) ?_
  rintro v σ H Q ⟨g, ws, env, M, Q0, s, ev, r, t, k⟩
  cases ws with
  | nil => exact t.elim
  | cons w ws =>
    obtain ⟨x, rr, rfl, ra, rb⟩ := r
    refine ⟨x, rr, rfl, g, w, env, M, _, s, ev, ra, t, fun env' M' h' g' σ' H' k' s' ev' => ?_⟩
    exact ⟨g', ws, env', M', _, s', ev', rb.keep k'.kz, h', fun env2 M2 h2 g2 σ2 H2 k2 s2 ev2 => k _ _ h2 g2 σ2 H2 (k'.trans k2) s2 ev2⟩
@[simp] def gTup2 (n : Nat) (t : TGs2) : TG2 := fun w env M Q => match w with
  | .tup ws => ws.length = n ∧ t ws env M Q
  | _ => False
theorem sg_tup {es : List Expr} {k : Nat} {t : TGs2} {n : Nat} (hc : X.calm = true) (h : SGs G X es t) (hn : (assignEach es X.env).length = n := by rfl) (hst : (assignEach es X.env).findIdx? (·.1) = none := by rfl) (hK : X.K = G.K := by rfl) : SG G X (.Tuple es k pos) (gTup2 n t) := by
  refine pg_imp (pg_tup hc h hn hst) ?_
  rintro v σ H Q ⟨g, w, env, M, Q0, s, ev, r, t, k⟩
  cases w <;> try exact t.elim
  obtain ⟨p, vs, rfl, hp, rr⟩ := r
  exact ⟨p, vs, rfl, by rw [hK]; exact hp, rr.length.trans t.1, g, _, env, M, Q0, s, ev, rr, t.2, k⟩
@[simp] def tAsg2 (te : T2) (g : TG2) : TS2 := fun D env M => te env M (fun w M1 => g w env M1 D.nx) D.ex
theorem ss_asg {tg : Expr} {gt : TG2} (he : SE G X Wx e te) (hg : SG G X tg gt) (hs : swapsWithSole [tg] e pos.line X.env = pure false := by rfl) (hw : swappedStores [tg] e X.env = pure none := by rfl)
    (h1 : (assignEach [tg] X.env).map (·.2) = [assign tg X.env] := by rfl) : SS G X Wx (.Assign [tg] e pos) (tAsg2 te gt) := by
  refine ps_imp (ps_asg he hg hs hw h1) ?_
  rintro D σ H h
  obtain ⟨g, env, M, D0, s, ev, t, r⟩ := liftS_iff.mp h
  refine ⟨g, env, M, _, D0.ex, s, ev, t, fun w M1 h1 g1 v H1 k1 s1 r1 => ?_, r.ex⟩
  exact ⟨g1, w, env, M1, _, s1, ev.keep k1.kz, r1, h1, fun env' M' h' g' σ' H' k' s' ev' => r.nx _ _ h' g' σ' H' (k1.trans k') s' ev'⟩
theorem ss_set {i : Nat} {x : Str} {pos' : Pos} (hN : X.N.Nodup) (hi : X.N[i]? = some x) (hx : Loc X.env.scope x) (he : SE G X Wx e te) (hs : swapsWith e (some (.Name x pos')) pos.line X.env = pure false := by rfl) (hf : X.fn x = true ∨ X.env.scope.names.lookup x = some .local := by first | exact .inl rfl | exact .inr rfl | assumption) :
    SS G X Wx (.Assign [.Name x pos'] e pos) (tAsg2 te (gName2 i)) := by
  refine ps_imp (ps_set hN hi hx he hs hf) ?_
  rintro D σ H h
  obtain ⟨g, env, M, D0, s, ev, t, r⟩ := liftS_iff.mp h
  refine ⟨g, env, M, _, D0.ex, s, ev, t, fun w M1 h1 g1 v H1 k1 s1 r1 => ?_, r.ex⟩
  exact r.nx _ _ h1 g1 _ H1 k1 s1 ((ev.keep k1.kz).set r1)
@[simp] def tAug2 (i : Nat) (te : T2) : TS2 := fun D env M => match env[i]? with
  | some (some (.int x)) => te env M (fun w M1 => match w with
    | .int y => D.nx (env.set i (some (.int (x + y)))) M1
    | _ => False) D.ex
  | _ => False
theorem ss_aug {i : Nat} {x : Str} {pos' : Pos} (hN : X.N.Nodup) (hi : X.N[i]? = some x) (hx : Loc X.env.scope x) (he : SE G X Wx e te) (hf : X.fn x = true ∨ X.env.scope.names.lookup x = some .local := by first | exact .inl rfl | exact .inr rfl | assumption) : SS G X Wx (.AugAssign (.Name x pos') .Add e pos) (tAug2 i te) := by
  refine ps_imp (ps_aug hN hi hx he ip_add hf) ?_
  rintro D σ H h
  obtain ⟨g, env, M, D0, s, ev, t, r⟩ := liftS_iff.mp h
  have t' : (match env[i]? with
    | some (some (.int x)) => te env M (fun w M1 => match w with
      | .int y => D0.nx (env.set i (some (.int (x + y)))) M1
      | _ => False) D0.ex
    | _ => False) := t
  split at t'
  · rename_i x0 hw
    obtain ⟨v, h1, h2⟩ := ev.get hw
    refine ⟨v, h1, g, env, M, _, D0.ex, s, ev, t', fun w M1 h1 g1 v1 H1 k1 s1 r1 => ?_, r.ex⟩
    cases w <;> try exact h1.elim
    exact ⟨_, _, h2, r1, r.nx _ _ h1 g1 _ H1 k1 s1 ((ev.keep k1.kz).set (show Rep G g1.Z H1 (.int _) (.int _) from rfl))⟩
  · exact t'.elim
/-- o.f += e, ints -/
@[simp] def tAugFld (L : List String) (f : String) (ta te : T2) : TS2 := fun D env M => ta env M (fun x M1 => match x with
  | .ref a => match M1 a with
    | some (.flat (.ins C fs)) => C ∈ L ∧ fs.length < 100 ∧ (match fget f fs with
      | some (.int i) => te env M1 (fun w M2 => match w with
        | .int j => M2 a = some (.flat (.ins C fs)) ∧ D.nx env (upd2 M2 a (some (.flat (.ins C (fput f (.int (i + j)) fs)))))
        | _ => False) D.ex
      | _ => False)
    | _ => False
  | _ => False) D.ex
theorem ss_augfld {L : List String} {f : String} {tpos : Pos} (hf : FldOk X.K G L f) (ha : SE G X Wx o ta) (he : SE G X Wx e te) : SS G X Wx (.AugAssign (.Attribute o (Str.ofString f) tpos) .Add e pos) (tAugFld L f ta te) := by
  refine ps_imp (ps_fldaug ha he in_add) ?_
  rintro D σ H h
  obtain ⟨g, env, M, D0, s, ev, t, r⟩ := liftS_iff.mp h
  refine ⟨g, env, M, _, D0.ex, s, ev, t, fun x M1 h1 g1 vx H1 k1 s1 r1 => ?_, r.ex⟩
  cases x <;> try exact h1.elim
  rename_i a
  have h1' : (match M1 a with
    | some (.flat (.ins C fs)) => C ∈ L ∧ fs.length < 100 ∧ (match fget f fs with
      | some (.int i) => te env M1 (fun w M2 => match w with
        | .int j => M2 a = some (.flat (.ins C fs)) ∧ D0.nx env (upd2 M2 a (some (.flat (.ins C (fput f (.int (i + j)) fs)))))
        | _ => False) D0.ex
      | _ => False)
    | _ => False) := h1
  split at h1'
  · rename_i C fs hm
    obtain ⟨hC, hl, q⟩ := h1'
    obtain ⟨_, dx, vs, hp, rf⟩ := s1.cell a _ hm
    split at q
    · rename_i i hi
      obtain ⟨v, l, rv⟩ := rf.get hi
      refine ⟨a, _, dx, vs, v, r1, hp, (hf C hC).1, (hf C hC).2, l, g1, env, M1, _, D0.ex, s1, ev.keep k1.kz, q, fun w M2 h2 g2 v2 H2 k2 s2 r2 => ?_, r.ex.keep k1⟩
      cases w <;> try exact h2.elim
      rename_i j
      obtain ⟨hm2, q2⟩ := h2
      obtain ⟨_, dx2, vs2, hp2, rf2⟩ := s2.cell a _ hm2
      refine ⟨i, j, rv, r2, dx2, vs2, hp2, by rw [rf2.length]; omega, ?_⟩
      obtain ⟨s3, k3⟩ := s2.write (m' := .ins C (fput f (.int (i + j)) fs)) (o := .ins (G.cA C) dx2 (putF (Str.ofString f) (.int (i + j)) vs2)) hm2 fun k3 => ⟨dx2, _, upd_same, RepF.put (show Rep G g2.Z _ (.int (i + j)) (.int (i + j)) from rfl) (rf2.keep k3.kz)⟩
      exact r.nx _ _ q2 g2 _ _ ((k1.trans k2).trans k3) s3 (ev.keep ((k1.trans k2).trans k3).kz)
    · exact q.elim
  · exact h1'.elim

def tWhile2 (c : TT2) (tb : TS2) : TS2 := fun D env M => ∃ W : Nat → Env2 → Heap2 → Prop, (∃ m, W m env M) ∧ ∀ m env M, W m env M →
  c env M (fun b M1 => if b = true then tb { D with nx := fun e M => ∃ m', m' < m ∧ W m' e M, ct := fun e M => ∃ m', m' < m ∧ W m' e M, bk := D.nx } env M1 else D.nx env M1) D.ex
theorem ss_while {tc : TT2} {body : List Stmt} {tb : TS2} (hp : PassesOwn (model X.prog X.w) X.A X.env X.xe) (hc : SB G X Wx c tc) (hb : SSs G X Wx body tb) : SS G X Wx (.While c body [] pos) (tWhile2 tc tb) := by
  refine ps_imp (ps_while hp hc hb) ?_
  rintro D σ H h
  obtain ⟨g0, env0, M0, D0, s0, ev0, ⟨W, ⟨m0, w0⟩, turn⟩, r⟩ := liftS_iff.mp h
  refine ⟨fun m σ H => ∃ g env M, Keep g0 H g H ∧ False ∨ ∃ g env M, Sim G g M H ∧ EnvR G g.Z H env σ ∧ W m env M ∧ EndsR G Wx g H D0 D, ⟨m0, g0, env0, M0, .inr ⟨g0, env0, M0, s0, ev0, w0, r⟩⟩, ?_⟩
  rintro m σ H ⟨_, _, _, z | ⟨g, env, M, s, ev, w, r⟩⟩
  · exact z.2.elim
  refine ⟨g, env, M, _, D0.ex, s, ev, turn m env M w, fun b M1 h1 g1 H1 k1 s1 => ?_, r.ex⟩
  cases b with
  | true =>
    refine ⟨_, fun σ' H' h => h, ?_⟩
    refine liftS_mk s1 (ev.keep k1.kz) h1 ⟨?_, (r.keep k1).rt, (r.keep k1).nx, ?_, r.ex.keep k1⟩
    · rintro env' M' ⟨m', hm, w'⟩ g' σ' H' k' s' ev'
      exact ⟨m', hm, g', env', M', .inr ⟨g', env', M', s', ev', w', (r.keep k1).keep k'⟩⟩
    · rintro env' M' ⟨m', hm, w'⟩ g' σ' H' k' s' ev'
      exact ⟨m', hm, g', env', M', .inr ⟨g', env', M', s', ev', w', (r.keep k1).keep k'⟩⟩
  | false => exact r.nx _ _ h1 g1 _ H1 k1 s1 (ev.keep k1.kz)

/-- what is walked: the items, and what must hold of the heap at each turn -/
def tForI (chk : Heap2 → Prop) (gt : TG2) (tb : TS2) : List W → TS2
  | [] => fun D env M => chk M ∧ D.nx env M
  | x :: r => fun D env M => chk M ∧ gt x env M fun env1 M1 => tb { D with nx := fun e M => tForI chk gt tb r D e M, ct := fun e M => tForI chk gt tb r D e M, bk := D.nx } env1 M1
theorem forI_ind {chk : Heap2 → Prop} {gt : TG2} {tb : TS2} {D : Ends2} (I : List W → Env2 → Heap2 → Prop) (h0 : ∀ env M, I [] env M → chk M ∧ D.nx env M)
    (hs : ∀ x r env M (K : Env2 → Heap2 → Prop), I (x :: r) env M → (∀ e M, I r e M → K e M) → chk M ∧ gt x env M fun e1 M1 => tb { D with nx := K, ct := K, bk := D.nx } e1 M1) :
    ∀ xs env M, I xs env M → tForI chk gt tb xs D env M
  | [], env, M, h => h0 env M h
  | x :: r, env, M, h => hs x r env M _ h fun e M h => forI_ind I h0 hs r e M h
/-- an iterable: by its reading the items and the check -/
abbrev TI2 := Env2 → Heap2 → (List W → (Heap2 → Prop) → Heap2 → Prop) → X2 → Prop
def tFor2 (wi : TI2) (gt : TG2) (tb : TS2) : TS2 := fun D env M => wi env M (fun xs chk M1 => tForI chk gt tb xs D env M1) D.ex
/-- an iterator that yields the items xs as long as chk holds -/
def ItR (G : Gm) (J : It) (g0 : Gh) (H0 : Hp) (xs : List W) (chk : Heap2 → Prop) : Prop :=
  ∀ g M H, Keep g0 H0 g H → Sim G g M H → chk M → (J.stop xs.length H) ∧ ∀ i x, xs[i]? = some x → J.go i H ∧ ∀ v H', J.yld i H v H' → ∃ g', Keep g H g' H' ∧ Sim G g' M H' ∧ Rep G g'.Z H' x v
def liftI (G : Gm) (Wx : WX) (t : TI2) : TI := fun σ H R => ∃ g env M Q0 E0, Sim G g M H ∧ EnvR G g.Z H env σ ∧ t env M Q0 E0 ∧
  (∀ xs chk M', Q0 xs chk M' → ∀ g' J H', Keep g H g' H' → Sim G g' M' H' → ItR G J g' H' xs chk → R J H') ∧ ExOk G Wx g H E0
abbrev SI (G : Gm) (X : Cx) (Wx : WX) (tg e : Expr) (t : TI2) : Prop := PI X tg e (liftI G Wx t)
theorem ss_for {tg iter : Expr} {body : List Stmt} {wi : TI2} {gt : TG2} {tb : TS2} (hp : PassesOwn (model X.prog X.w) X.A X.env X.xe) (hc : X.calm = true) (hi : SI G X Wx tg iter wi) (hg : SG G X tg gt) (hb : SSs G X Wx body tb)
    (hs : ∀ x, foldedSetIterable iter X.env x = pure x := by intro _; rfl) : SS G X Wx (.For tg iter body [] pos) (tFor2 wi gt tb) := by
  refine ps_imp (ps_for hp hc hi hg hb hs) ?_
  rintro D σ H h
  obtain ⟨g0, env0, M0, D0, s0, ev0, t, r⟩ := liftS_iff.mp h
  refine ⟨g0, env0, M0, _, D0.ex, s0, ev0, t, fun xs chk M1 h1 g1 J H1 k1 s1 ij => ?_, r.ex⟩
  refine ⟨fun i m σ H => ∃ g env M, i ≤ xs.length ∧ m = xs.length - i ∧ Keep g1 H1 g H ∧ Sim G g M H ∧ EnvR G g.Z H env σ ∧ tForI chk gt tb (xs.drop i) D0 env M, ⟨xs.length, g1, env0, M1, Nat.zero_le _, rfl, Keep.refl _ _, s1, ev0.keep k1.kz, h1⟩, ?_⟩
  rintro i m σ H ⟨g, env, M, hi, rfl, kk, s, ev, q⟩
  by_cases hlt : i < xs.length
  · right
    have hx : xs[i]? = some xs[i] := by simp [hlt]
    rw [List.drop_eq_getElem_cons hlt] at q
    obtain ⟨hchk, q⟩ := q
    obtain ⟨go, yld⟩ := (ij g M H kk s hchk).2 i _ hx
    refine ⟨go, fun σ' H' => ∃ g env M, Keep g1 H1 g H' ∧ Sim G g M H' ∧ EnvR G g.Z H' env σ' ∧ tForI chk gt tb (xs.drop (i + 1)) D0 env M, ?_, ?_⟩
    · rintro σ' H' ⟨g', env', M', k', s', ev', q'⟩
      exact ⟨xs.length - (i + 1), by omega, g', env', M', hlt, rfl, k', s', ev', q'⟩
    · intro v H' y
      obtain ⟨g', k', s', r'⟩ := yld v H' y
      refine ⟨g', _, env, M, _, s', ev.keep k'.kz, r', q, fun env2 M2 h2 g2 σ2 H2 k2 s2 ev2 => ?_⟩
      have kk2 := (kk.trans k').trans k2
      have r2 := r.keep (k1.trans kk2)
      refine liftS_mk s2 ev2 h2 ⟨?_, r2.rt, r2.nx, ?_, r2.ex⟩
      · intro env3 M3 h3 g3 σ3 H3 k3 s3 ev3
        exact ⟨g3, env3, M3, kk2.trans k3, s3, ev3, h3⟩
      · intro env3 M3 h3 g3 σ3 H3 k3 s3 ev3
        exact ⟨g3, env3, M3, kk2.trans k3, s3, ev3, h3⟩
  · left
    have e : i = xs.length := by omega
    subst e
    rw [List.drop_eq_nil_of_le (Nat.le_refl _)] at q
    obtain ⟨hchk, q⟩ := q
    exact ⟨(ij g M H kk s hchk).1, r.nx _ _ q g σ H (k1.trans kk) s ev⟩
end
end LW

namespace LW
open PySem L2 PyProof.Rows
abbrev Spec2 := List W → Heap2 → Q2 → (String → Heap2 → Prop) → Prop
def spOf (G : Gm) (n : Nat) (s : Spec2) : Sp := fun vs H Q E => vs.length = n ∧ ∃ g ws M Q0 E0, Sim G g M H ∧ RepL G g.Z H ws vs ∧ s ws M Q0 E0 ∧
  (∀ w M', Q0 w M' → ∀ g' v H', Keep g H g' H' → Sim G g' M' H' → Rep G g'.Z H' w v → Q v H') ∧ (∀ c M', E0 c M' → ∀ g' H', Keep g H g' H' → Sim G g' M' H' → E (.ref (G.cA c)) none H')
@[simp] def bodySpec (N : Nat) (t : TS2) : Spec2 := fun ws M Q E => t { nx := fun _ M' => Q .non M', rt := Q, bk := fun _ _ => False, ct := fun _ _ => False, ex := fun c _ M' => E c M' } (ws.map some ++ List.replicate (N - ws.length) none) M
theorem envR_none {G : Gm} {Z : Addr → Prop} {H : Hp} : ∀ n : Nat, EnvR G Z H (List.replicate n none) (List.replicate n none)
  | 0 => rfl
  | n + 1 => ⟨none, _, rfl, envR_none n⟩
theorem envR_start {G : Gm} {Z : Addr → Prop} {H : Hp} {n : Nat} : ∀ {ws : List W} {vs : List V}, RepL G Z H ws vs → EnvR G Z H (ws.map some ++ List.replicate n none) (vs.map some ++ List.replicate n none)
  | [], _, h => by rw [show _ = _ from h]; exact envR_none n
  | w :: ws, _, ⟨v, r, e, a, b⟩ => by subst e; exact ⟨v, _, rfl, a, envR_start b⟩
theorem RepL.mk {G : Gm} {Z : Addr → Prop} {H : Hp} {w : W} {v : V} {ws : List W} {vs : List V} (a : Rep G Z H w v) (b : RepL G Z H ws vs) : RepL G Z H (w :: ws) (v :: vs) := ⟨v, vs, rfl, a, b⟩
section
variable {P : Program} {w : World} {K : PySem.W.Frag} {mg : Str → Option Value} {base : Heap}
theorem fn_ok {G : Gm} {x qual : Str} {params : Arguments} {body : List Stmt} {scope : Scope} {dvs : List V} {kws : List (Str × V)} {f : Addr} {fd : FuncData} {N ps : List Str} {k : Nat} {t : TS2} (F : FunD K x qual params body scope dvs kws f fd) (S : FnScope N ps scope)
    (h : ∀ (cdv : Value) (A : Around) (outer : List Env) (s : Shared) (H : Hp) (E : XK), Room k (A.deeper (envOfC qual scope s.heap.objs.size f cdv)) →
      SSs G (cxOf (L2.CX P w) P w K mg base N qual scope f cdv A outer s H E) (fun cls d _ H => E cls d H) body t) :
    FnOk P w K mg base (L2.CX P w) (k + 1) f fd ps (spOf G ps.length (bodySpec N.length t)) := by
  refine F.ok S (fun vs H Q E q => q.1) fun cdv A outer s H vs Q E hr hsp => ⟨_, h cdv A outer s H E hr, ?_⟩
  obtain ⟨hl, g, ws, M, Q0, E0, sm, rl, q, kq, ke⟩ := hsp
  refine liftS_mk sm (env := ws.map some ++ List.replicate (N.length - ws.length) none) ?_ q ⟨fun _ M' h g' σ' H' k' s' _ => kq _ M' h g' _ H' k' s' rfl, kq, fun _ _ z => z.elim, fun _ _ z => z.elim, fun c _ M' h g' _ H' k' s' _ => ke c M' h g' H' k' s'⟩
  unfold L2.start
  rw [rl.length]
  exact envR_start rl
/-- a weaker promise -/
theorem FnOk.to {G : Gm} {k n : Nat} {f : Addr} {fd : FuncData} {ps : List Str} {CX : CXT} {s s' : Spec2} (F : FnOk P w K mg base CX k f fd ps (spOf G n s)) (h : ∀ ws M Q E, ws.length = n → s' ws M Q E → s ws M Q E) : FnOk P w K mg base CX k f fd ps (spOf G n s') :=
  F.imp fun vs H Q E ⟨hl, g, ws, M, Q0, E0, sm, rl, q, kq, ke⟩ => ⟨hl, g, ws, M, Q0, E0, sm, rl, h _ _ _ _ (rl.length.symm.trans hl) q, kq, ke⟩
/-- a def that is called by its name x with the written arguments; the defaults behind them; n in all -/
structure CallS (P : Program) (w : World) (K : PySem.W.Frag) (mg : Str → Option Value) (base : Heap) (G : Gm) (x : String) (k n : Nat) (dws : List W) (s : Spec2) : Prop where
  ex : ∃ (f : Addr) (fd : FuncData) (ps : List Str) (dvs : List V) (ds : List Value), FnOk P w K mg base (L2.CX P w) k f fd ps (spOf G n s) ∧ mg (Str.ofString x) = some (.ref f) ∧ PySem.W.keepIn K (.ref f) = true ∧ Binds K fd ps ds ∧ Vals dvs ds ∧
    ∀ Z H, RepL G Z H dws dvs
/-- a method m by its class: tab C its promise (self ahead) -/
structure MethS (P : Program) (w : World) (K : PySem.W.Frag) (mg : Str → Option Value) (base : Heap) (G : Gm) (m : String) (k n : Nat) (dws : List W) (tab : String → Option Spec2) : Prop where
  ex : ∀ C s, tab C = some s → Cls K (G.cA C) ∧ ∃ (f : Addr) (fd : FuncData) (ps : List Str) (dvs : List V) (ds : List Value), Meth K (G.cA C) (Str.ofString m) f ∧ FnOk P w K mg base (L2.CX P w) k f fd ps (spOf G n s) ∧ Binds K fd ps ds ∧ Vals dvs ds ∧
    ∀ Z H, RepL G Z H dws dvs
/-- a class C that is made by its __init__ (self ahead: n in all) -/
structure MakeS (P : Program) (w : World) (K : PySem.W.Frag) (mg : Str → Option Value) (base : Heap) (G : Gm) (C : String) (k n : Nat) (dws : List W) (s : Spec2) : Prop where
  ex : mg (Str.ofString C) = some (.ref (G.cA C)) ∧ ∃ (f : Addr) (fd : FuncData) (ps : List Str) (dvs : List V) (ds : List Value), Mk K (G.cA C) f ∧ FnOk P w K mg base (L2.CX P w) k f fd ps (spOf G n s) ∧ Binds K fd ps ds ∧ Vals dvs ds ∧
    ∀ Z H, RepL G Z H dws dvs
end
section
variable {X : Cx} {G : Gm} {Wx : WX} {k : Nat} {f C : Addr} {fd : FuncData} {ps : List Str} {sp : Sp} {dvs : List V} {ds : List Value} {x : Str} {p pos apos : Pos} {e o : Expr} {es : List Expr} {ta te : T2} {t : TA2}
theorem run_fnD {CX : CXT} {E : XK} {pins : List (Addr × Obj)} {σ : L2.St} {H : Hp} {s : Shared} {Q : VK} {us : List Value} {vs : List V} (F : FnOk X.prog X.w X.K X.mg X.base CX k f fd ps sp) (hr : Room k X.A) (hb : Binds X.K fd ps ds) (hd : Vals dvs ds) (hx : PassesAt CX X σ E)
    (I : Inv X pins σ H s) (r : Vals vs us) (h : sp (vs ++ dvs) H Q E) : wpAny (model X.prog X.w) X.A (call (.ref f) us) (EP X pins σ Q) X.xe s := by
  have r2 : Vals (vs ++ dvs) (us ++ ds) := r.append hd
  have hl : (us ++ ds).length = ps.length := by rw [← r2.length]; exact F.len _ _ _ _ h
  refine wpAny_call (codeAny_mono (F.run X.A X.stack s H ⟨us, []⟩ (us ++ ds) (vs ++ dvs) Q E hr I.env0 (hb s us I.kIn hl) r2 h) fun r s' hq => ?_)
  cases r with
  | error e => exact hx pins H s e s' I hq
  | ok fl =>
    cases fl with
    | ret u => exact I.after hq
    | next => exact False.elim hq
    | brk => exact False.elim hq
    | cont => exact False.elim hq
theorem run_makeD {CX : CXT} {E : XK} {pins : List (Addr × Obj)} {σ : L2.St} {H : Hp} {s : Shared} {Q : VK} {us : List Value} {vs : List V} (M : Mk X.K C f) (F : FnOk X.prog X.w X.K X.mg X.base CX k f fd ps sp) (hr : Room (k + 1) X.A) (hb : Binds X.K fd ps ds) (hd : Vals dvs ds)
    (hx : PassesAt CX X σ E) (I : Inv X pins σ H s) (r : Vals vs us)
    (h : ∀ x dx, H x = none → H dx = none → dx ≠ x → sp (.ref x :: (vs ++ dvs)) (upd (upd H dx (.own x)) x (.ins C dx [])) (fun v H2 => v = .non ∧ Q (.ref x) H2) E) :
    wpAny (model X.prog X.w) X.A (call (.ref C) us) (EP X pins σ Q) X.xe s := by
  have hq := h (s.heap.objs.size + 1) s.heap.objs.size (I.hok.fresh (Nat.le_succ _)) (I.hok.fresh (Nat.le_refl _)) (Nat.ne_of_lt (Nat.lt_succ_self _))
  have I2 := Inv.made (C := C) I
  have r2 : Vals (V.ref (s.heap.objs.size + 1) :: (vs ++ dvs)) (Value.ref (s.heap.objs.size + 1) :: (us ++ ds)) := .cons rfl (r.append hd)
  have hl : (Value.ref (s.heap.objs.size + 1) :: us ++ ds).length = ps.length := by
    have e := r2.length
    rw [F.len _ _ _ _ hq] at e
    exact e.symm
  refine wpAny_call (make_map (f := f) I.kIn M.makes M.init (beq_iff_eq.mp M.fn) (codeAny_mono (F.run _ X.stack _ _ ⟨Value.ref (s.heap.objs.size + 1) :: us, []⟩ (Value.ref (s.heap.objs.size + 1) :: (us ++ ds)) _ _ E (hr.make C us [])
    (I2.env0.make C us []) (hb _ (Value.ref (s.heap.objs.size + 1) :: us) I2.kIn hl) r2 hq) fun r s' hq' => ?_))
  cases r with
  | error e => exact hx pins _ _ e s' I2 hq'
  | ok fl =>
    cases fl with
    | ret u =>
      obtain ⟨v, H', I3, rv, ev, q3⟩ := I2.after hq'
      subst ev
      exact ⟨rv, ⟨V.ref (s.heap.objs.size + 1), H', I3, rfl, q3⟩⟩
    | next => exact False.elim hq'
    | brk => exact False.elim hq'
    | cont => exact False.elim hq'
/-- the callee's promise from the lifted one -/
theorem sp_of {s : Spec2} {dws : List W} {n : Nat} {g : Gh} {env : Env2} {σ : L2.St} {M : Heap2} {H : Hp} {ws : List W} {vs : List V} {Q0 : Q2} {E0 : X2} {Q : VK} (sm : Sim G g M H) (ev : EnvR G g.Z H env σ) (rl : RepL G g.Z H ws vs) (rd : RepL G g.Z H dws dvs) (hn : (vs ++ dvs).length = n)
    (h : s (ws ++ dws) M Q0 (fun c M' => E0 c env M')) (kq : ∀ w M', Q0 w M' → ∀ g' v H', Keep g H g' H' → Sim G g' M' H' → Rep G g'.Z H' w v → Q v H') (x : ExOk G Wx g H E0) :
    spOf G n s (vs ++ dvs) H Q (WE Wx σ) :=
  ⟨hn, g, _, M, Q0, _, sm, rl.append rd, h, kq, fun c M' h' g' H' k' s' => x c env M' h' g' σ H' k' s' (ev.keep k'.kz)⟩
@[simp] def tCall2 (n : Nat) (dws : List W) (s : Spec2) (t : TA2) : T2 := fun env M Q E => t env M (fun ws M1 => (ws ++ dws).length = n ∧ s (ws ++ dws) M1 Q (fun c M' => E c env M')) E
theorem sa_mid {s : Spec2} {n : Nat} {dws : List W} {σ : L2.St} {H : Hp} {Q : VK} (h : liftE G Wx (tCall2 n dws s t) σ H Q) (rd : ∀ Z H, RepL G Z H dws dvs) : liftA G Wx t σ H (fun vs H1 => spOf G n s (vs ++ dvs) H1 Q (WE Wx σ)) := by
  obtain ⟨g, env, M, Q0, E0, sm, ev, tt, kq, x⟩ := h
  refine ⟨g, env, M, _, E0, sm, ev, tt, fun ws M1 h1 g1 vs H1 k1 s1 r1 => ?_, x⟩
  refine sp_of s1 (ev.keep k1.kz) r1 (rd _ _) ?_ h1.2 (fun w M' h2 g' v H' k' s' r' => kq w M' h2 g' v H' (k1.trans k') s' r') (x.keep k1)
  rw [← h1.1, List.length_append, List.length_append, r1.length, (rd g1.Z H1).length]
theorem se_call {x : String} {n : Nat} {s : Spec2} {dws : List W} (c : CallS X.prog X.w X.K X.mg X.base G x k n dws s) (hr : Room k X.A) (hg : Gl X (Str.ofString x)) (tk : Takes X Wx)
    (ha : SA G X Wx (e :: es) t) (hdb : ((Str.ofString x) == ("__debug__" : Str)) = false := by decide) (he : starEach (e :: es) X.env = (false, eval e X.env) :: starEach es X.env := by rfl) (hpl : (backTo pos (starEach es X.env)).any (·.1) = false := by rfl) :
    SE G X Wx (.Call (.Name (Str.ofString x) p) (e :: es) [] pos) (tCall2 n dws s t) := by
  obtain ⟨f, fd, ps, dvs, ds, F, hm, kp, hb, hd, rd⟩ := c.ex
  refine ⟨fun pins s0 σ H Q I h => ?_⟩
  refine wpAny_Call_Name_kw (ld_glob I hg hm ?_ hdb)
  refine PySem.W.callWith_K (h₀ := X.base) I.ok.mod.kin kp (thn (ha.run pos pins s0 σ H _ I (sa_mid h rd)) fun us s1 ⟨vs, H1, I1, r, q⟩ => ⟨I1.kIn, ?_⟩) he hpl
  exact run_fnD F hr hb hd (passAt tk σ) I1 r q
theorem se_call0 {x : String} {n : Nat} {s : Spec2} {dws : List W} (c : CallS X.prog X.w X.K X.mg X.base G x k n dws s) (hr : Room k X.A) (hg : Gl X (Str.ofString x)) (tk : Takes X Wx) (hdb : ((Str.ofString x) == ("__debug__" : Str)) = false := by decide) :
    SE G X Wx (.Call (.Name (Str.ofString x) p) [] [] pos) (tCall2 n dws s tNil2) := by
  obtain ⟨f, fd, ps, dvs, ds, F, hm, kp, hb, hd, rd⟩ := c.ex
  refine ⟨fun pins s0 σ H Q I h => ?_⟩
  refine wpAny_Call_Name_kw (ld_glob I hg hm ?_ hdb)
  obtain ⟨g, env, M, Q0, E0, sm, ev, tt, kq, x⟩ := h
  refine PySem.W.callWith_K0 I.kIn kp (run_fnD (us := []) (vs := []) F hr hb hd (passAt tk σ) I .nil ?_)
  refine sp_of sm ev (ws := []) rfl (rd _ _) ?_ tt.2 kq x
  rw [← tt.1, List.length_append, List.length_append, (rd g.Z H).length]
  rfl

/-- the class of an object and its attributes' names -/
@[simp] def clsOf (M : Heap2) : W → Option (String × List String)
  | .ins C fs => some (C, fs.map (·.1))
  | .ref a => match M a with
    | some (.flat (.ins C fs)) => some (C, fs.map (·.1))
    | some (.box (.obj C fs)) => some (C, fs.map (·.1))
    | _ => none
  | _ => none
theorem RepF.no {Z : Addr → Prop} {H : Hp} {m : String} : ∀ {fs : List (String × W)} {vs : List (Str × V)}, RepF G Z H fs vs → m ∉ fs.map (·.1) → vs.lookup (Str.ofString m) = none
  | [], _, h, _ => by rw [show _ = _ from h]; rfl
  | (n, x) :: r, _, ⟨v, rr, e, a, b⟩, h => by
    subst e
    rw [List.map_cons, List.mem_cons, not_or] at h
    rw [List.lookup_cons]
    have : (Str.ofString m == Str.ofString n) = false := by
      rw [beq_eq_false_iff_ne]
      exact fun z => h.1 (ofString_inj z)
    rw [this]; exact RepF.no b h.2
theorem BoxF.no {Z : Addr → Prop} {H : Hp} {m : String} : ∀ {fs : List (String × BX)} {vs : List (Str × V)} {A : List Addr}, BoxF G Z H fs vs A → m ∉ fs.map (·.1) → vs.lookup (Str.ofString m) = none
  | [], _, _, h, _ => by rw [h.1]; rfl
  | (n, x) :: r, _, _, ⟨v, rr, B, C, e, e2, a, b⟩, h => by
    subst e
    rw [List.map_cons, List.mem_cons, not_or] at h
    rw [List.lookup_cons]
    have : (Str.ofString m == Str.ofString n) = false := by
      rw [beq_eq_false_iff_ne]
      exact fun z => h.1 (ofString_inj z)
    rw [this]; exact BoxF.no b h.2
theorem clsOf_rep {g : Gh} {M : Heap2} {H : Hp} {w : W} {v : V} {C m : String} {ns : List String} (e : clsOf M w = some (C, ns)) (hm : m ∉ ns) (s : Sim G g M H) (r : Rep G g.Z H w v) :
    ∃ p dx vs, v = .ref p ∧ H p = some (.ins (G.cA C) dx vs) ∧ vs.lookup (Str.ofString m) = none := by
  cases w with
  | ins D gs => cases e; obtain ⟨p, dx, vs, e1, z, h, q⟩ := r; exact ⟨p, dx, vs, e1, h, q.no hm⟩
  | ref a =>
    have e' : (match M a with | some (.flat (.ins C fs)) => some (C, fs.map (·.1)) | some (.box (.obj C fs)) => some (C, fs.map (·.1)) | _ => none) = some (C, ns) := e
    split at e'
    · rename_i D gs hc
      cases e'
      obtain ⟨_, dx, vs, h, q⟩ := s.cell a _ hc
      exact ⟨a, dx, vs, r, h, q.no hm⟩
    · rename_i D gs hc
      cases e'
      obtain ⟨p, dx, vs, B, e1, _, h, q⟩ := s.cell a _ hc
      cases e1
      exact ⟨a, dx, vs, r, h, q.no hm⟩
    · cases e'
  | non => cases e
  | bl _ => cases e
  | int _ => cases e
  | str _ => cases e
  | tup _ => cases e
  | lst _ => cases e
  | scr _ => cases e
  | exn _ => cases e
@[simp] def tMeth2 (m : String) (n : Nat) (dws : List W) (tab : String → Option Spec2) (ta : T2) (t : TA2) : T2 := fun env M Q E => ta env M (fun w M1 => match clsOf M1 w with
  | some (C, ns) => m ∉ ns ∧ (match tab C with
    | some s => t env M1 (fun ws M2 => (w :: (ws ++ dws)).length = n ∧ s (w :: (ws ++ dws)) M2 Q (fun c M' => E c env M')) E
    | none => False)
  | none => False) E
theorem se_meth {m : String} {n : Nat} {dws : List W} {tab : String → Option Spec2} {pl : Sem Bool} (c : MethS X.prog X.w X.K X.mg X.base G m k n dws tab) (hr : Room k X.A) (tk : Takes X Wx) (ho : SE G X Wx o te) (ha : SA G X Wx (e :: es) t)
    (hst : starEach (e :: es) X.env = (false, eval e X.env) :: starEach es X.env := by rfl) (hpl : (backTo pos (starEach es X.env)).any (·.1) = false := by rfl)
    (ht : eval (.Call (.Attribute o (Str.ofString m) apos) (e :: es) [] pos) X.env = (do
      let ov ← eval o X.env
      standAt apos.atName
      let (f, first) ← holding [ov] (getMethod ov (Str.ofString m) pl)
      callWith pos f first (backTo pos (starEach (e :: es) X.env)) (backToKw pos (keywordEach [] X.env))) := by rfl) :
    SE G X Wx (.Call (.Attribute o (Str.ofString m) apos) (e :: es) [] pos) (tMeth2 m n dws tab te t) := by
  refine ⟨fun pins s0 σ H Q I h => ?_⟩
  obtain ⟨g, env, M, Q0, E0, sm, ev, tt, kq, x⟩ := h
  refine methcall_of (pl := pl) ho I ?_ ht
  refine ⟨g, env, M, _, E0, sm, ev, tt, fun w M1 h1 g1 v H1 k1 s1 r1 => ?_, x⟩
  have h1' : (match clsOf M1 w with
    | some (C, ns) => m ∉ ns ∧ (match tab C with
      | some s => t env M1 (fun ws M2 => (w :: (ws ++ dws)).length = n ∧ s (w :: (ws ++ dws)) M2 Q0 (fun c M' => E0 c env M')) E0
      | none => False)
    | none => False) := h1
  split at h1'
  · rename_i C ns hc
    obtain ⟨hm, h2⟩ := h1'
    split at h2
    · rename_i s hs
      obtain ⟨p, dx, vs, rfl, hp, hl⟩ := clsOf_rep hc hm s1 r1
      obtain ⟨cl, f, fd, ps, dvs, ds, mm, F, hb, hd, rd⟩ := c.ex C s hs
      refine ⟨p, _, dx, vs, f, rfl, hp, cl, mm, hl, fun s2 I2 => ?_⟩
      have z : liftA G Wx t σ H1 (fun vs H2 => spOf G n s (.ref p :: (vs ++ dvs)) H2 Q (WE Wx σ)) := by
        refine ⟨g1, env, M1, _, E0, s1, ev.keep k1.kz, h2, fun ws M2 h2 g2 us H2 k2 s2 r2 => ?_, x.keep k1⟩
        refine ⟨?_, g2, _, M2, Q0, _, s2, RepL.mk (r1.keep k2.kz) (r2.append (rd _ _)), h2.2, fun w M' h3 g' v H' k' s' r' => kq w M' h3 g' v H' ((k1.trans k2).trans k') s' r',
          fun c M' h' g' H' k' s' => x c env M' h' g' σ H' ((k1.trans k2).trans k') s' (ev.keep ((k1.trans k2).trans k').kz)⟩
        rw [← h2.1, List.length_cons, List.length_cons, List.length_append, List.length_append, r2.length, (rd g2.Z H2).length]
      refine PySem.W.callWith_K (first := [.ref p]) (h₀ := X.base) I.ok.mod.kin mm.kp (thn (ha.run pos pins s2 σ H1 _ I2 z) fun us s3 ⟨vs3, H3, I3, r3, q3⟩ => ⟨I3.kIn, ?_⟩) hst hpl
      exact run_fnD (us := .ref p :: us) (vs := .ref p :: vs3) F hr hb hd (passAt tk σ) I3 (.cons rfl r3) q3
    · exact h2.elim
  · exact h1'.elim
theorem se_meth0 {m : String} {n : Nat} {dws : List W} {tab : String → Option Spec2} {pl : Sem Bool} (c : MethS X.prog X.w X.K X.mg X.base G m k n dws tab) (hr : Room k X.A) (tk : Takes X Wx) (ho : SE G X Wx o te)
    (ht : eval (.Call (.Attribute o (Str.ofString m) apos) [] [] pos) X.env = (do
      let ov ← eval o X.env
      standAt apos.atName
      let (f, first) ← holding [ov] (getMethod ov (Str.ofString m) pl)
      callWith pos f first (backTo pos (starEach [] X.env)) (backToKw pos (keywordEach [] X.env))) := by rfl) :
    SE G X Wx (.Call (.Attribute o (Str.ofString m) apos) [] [] pos) (tMeth2 m n dws tab te tNil2) := by
  refine ⟨fun pins s0 σ H Q I h => ?_⟩
  obtain ⟨g, env, M, Q0, E0, sm, ev, tt, kq, x⟩ := h
  refine methcall_of (pl := pl) ho I ?_ ht
  refine ⟨g, env, M, _, E0, sm, ev, tt, fun w M1 h1 g1 v H1 k1 s1 r1 => ?_, x⟩
  have h1' : (match clsOf M1 w with
    | some (C, ns) => m ∉ ns ∧ (match tab C with
      | some s => tNil2 env M1 (fun ws M2 => (w :: (ws ++ dws)).length = n ∧ s (w :: (ws ++ dws)) M2 Q0 (fun c M' => E0 c env M')) E0
      | none => False)
    | none => False) := h1
  split at h1'
  · rename_i C ns hc
    obtain ⟨hm, h2⟩ := h1'
    split at h2
    · rename_i s hs
      obtain ⟨p, dx, vs, rfl, hp, hl⟩ := clsOf_rep hc hm s1 r1
      obtain ⟨cl, f, fd, ps, dvs, ds, mm, F, hb, hd, rd⟩ := c.ex C s hs
      refine ⟨p, _, dx, vs, f, rfl, hp, cl, mm, hl, fun s2 I2 => ?_⟩
      refine PySem.W.callWith_K0 (first := [.ref p]) I2.kIn mm.kp (run_fnD (us := [.ref p]) (vs := [.ref p]) F hr hb hd (passAt tk σ) I2 (.cons rfl .nil) ?_)
      refine ⟨?_, g1, _, M1, Q0, _, s1, RepL.mk r1 (rd _ _), h2.2, fun w M' h3 g' v H' k' s' r' => kq w M' h3 g' v H' (k1.trans k') s' r',
          fun c M' h' g' H' k' s' => x c env M' h' g' σ H' (k1.trans k') s' (ev.keep (k1.trans k').kz)⟩
      rw [← h2.1]
      show (V.ref p :: dvs).length = (w :: dws).length
      rw [List.length_cons, List.length_cons, (rd g1.Z H1).length]
    · exact h2.elim
  · exact h1'.elim

@[simp] def tMake2 (C : String) (n : Nat) (dws : List W) (s : Spec2) (t : TA2) : T2 := fun env M Q E => t env M (fun ws M1 => ∀ a, M1 a = none → (W.ref a :: (ws ++ dws)).length = n ∧
  s (.ref a :: (ws ++ dws)) (upd2 M1 a (some (.flat (.ins C [])))) (fun w M2 => w = .non ∧ Q (.ref a) M2) (fun c M' => E c env M')) E
theorem make_mid {C : String} {n : Nat} {s : Spec2} {dws ws : List W} {vs : List V} {g : Gh} {σ : L2.St} {env : Env2} {M : Heap2} {H : Hp} {Q : VK} {Q0 : Q2} {E0 : X2} (sm : Sim G g M H) (ev : EnvR G g.Z H env σ) (rl : RepL G g.Z H ws vs) (rd : ∀ Z H, RepL G Z H dws dvs)
    (h : ∀ a, M a = none → (W.ref a :: (ws ++ dws)).length = n ∧ s (.ref a :: (ws ++ dws)) (upd2 M a (some (.flat (.ins C [])))) (fun w M2 => w = .non ∧ Q0 (.ref a) M2) (fun c M' => E0 c env M'))
    (kq : ∀ w M', Q0 w M' → ∀ g' v H', Keep g H g' H' → Sim G g' M' H' → Rep G g'.Z H' w v → Q v H') (x : ExOk G Wx g H E0) (a dx : Addr) (hx : H a = none) (hdx : H dx = none) (ne : dx ≠ a) :
    spOf G n s (.ref a :: (vs ++ dvs)) (upd (upd H dx (.own a)) a (.ins (G.cA C) dx [])) (fun v H2 => v = .non ∧ Q (.ref a) H2) (WE Wx σ) := by
  have s1 : Sim G g M (upd H dx (.own a)) := sm.new hdx
  have k1 := Keep.new (o := .own a) hdx sm
  have hx1 : upd H dx (.own a) a = none := by rw [upd_ne (Ne.symm ne)]; exact hx
  obtain ⟨s2, k2⟩ := s1.alloc (m := .ins C []) (o := .ins (G.cA C) dx []) hx1 ⟨dx, [], upd_same, rfl⟩
  obtain ⟨hl, q⟩ := h a (sm.free hx).1
  have k12 := k1.trans k2
  refine ⟨?_, g.add a, _, _, _, _, s2, RepL.mk (show Rep G _ _ (.ref a) (.ref a) from rfl) ((RepL.keep k12.kz rl).append (rd _ _)), q, fun w M' h3 g' v H' k' s' r' => ?_, fun c M' h' g' H' k' s' => ?_⟩
  · rw [← hl, List.length_cons, List.length_cons, List.length_append, List.length_append, rl.length, (rd g.Z H).length]
  · obtain ⟨rfl, h3⟩ := h3
    exact ⟨r', kq _ _ h3 g' _ H' (k12.trans k') s' rfl⟩
  · exact x c env M' h' g' σ H' (k12.trans k') s' (ev.keep (k12.trans k').kz)
theorem se_make {C : String} {n : Nat} {s : Spec2} {dws : List W} (c : MakeS X.prog X.w X.K X.mg X.base G C k n dws s) (hr : Room (k + 1) X.A) (hg : Gl X (Str.ofString C)) (tk : Takes X Wx)
    (ha : SA G X Wx (e :: es) t) (hdb : ((Str.ofString C) == ("__debug__" : Str)) = false := by decide) (he : starEach (e :: es) X.env = (false, eval e X.env) :: starEach es X.env := by rfl) (hpl : (backTo pos (starEach es X.env)).any (·.1) = false := by rfl) :
    SE G X Wx (.Call (.Name (Str.ofString C) p) (e :: es) [] pos) (tMake2 C n dws s t) := by
  obtain ⟨hm, f, fd, ps, dvs, ds, mk, F, hb, hd, rd⟩ := c.ex
  refine ⟨fun pins s0 σ H Q I h => ?_⟩
  obtain ⟨g, env, M, Q0, E0, sm, ev, tt, kq, x⟩ := h
  refine wpAny_Call_Name_kw (ld_glob I hg hm ?_ hdb)
  have z : liftA G Wx t σ H (fun vs H1 => ∀ a dx, H1 a = none → H1 dx = none → dx ≠ a → spOf G n s (.ref a :: (vs ++ dvs)) (upd (upd H1 dx (.own a)) a (.ins (G.cA C) dx [])) (fun v H2 => v = .non ∧ Q (.ref a) H2) (WE Wx σ)) :=
    ⟨g, env, M, _, E0, sm, ev, tt, fun ws M1 h1 g1 vs H1 k1 s1 r1 => make_mid s1 (ev.keep k1.kz) r1 rd h1 (fun w M' h2 g' v H' k' s' r' => kq w M' h2 g' v H' (k1.trans k') s' r') (x.keep k1), x⟩
  refine PySem.W.callWith_K (h₀ := X.base) I.ok.mod.kin mk.kp (thn (ha.run pos pins s0 σ H _ I z) fun us s1 ⟨vs, H1, I1, r, q⟩ => ⟨I1.kIn, ?_⟩) he hpl
  exact run_makeD mk F hr hb hd (passAt tk σ) I1 r q
theorem se_make0 {C : String} {n : Nat} {s : Spec2} {dws : List W} (c : MakeS X.prog X.w X.K X.mg X.base G C k n dws s) (hr : Room (k + 1) X.A) (hg : Gl X (Str.ofString C)) (tk : Takes X Wx) (hdb : ((Str.ofString C) == ("__debug__" : Str)) = false := by decide) :
    SE G X Wx (.Call (.Name (Str.ofString C) p) [] [] pos) (tMake2 C n dws s tNil2) := by
  obtain ⟨hm, f, fd, ps, dvs, ds, mk, F, hb, hd, rd⟩ := c.ex
  refine ⟨fun pins s0 σ H Q I h => ?_⟩
  obtain ⟨g, env, M, Q0, E0, sm, ev, tt, kq, x⟩ := h
  refine wpAny_Call_Name_kw (ld_glob I hg hm ?_ hdb)
  exact PySem.W.callWith_K0 I.kIn mk.kp (run_makeD (us := []) (vs := []) mk F hr hb hd (passAt tk σ) I .nil (make_mid (ws := []) sm ev rfl rd tt kq x))
/-- an instance that never changes from now on -/
@[simp] def tFrzI (te : T2) : T2 := fun env M Q E => te env M (fun w M1 => match w with
  | .ref p => match M1 p with
    | some (.flat (.ins C fs)) => Q (.ins C fs) (upd2 M1 p none)
    | _ => False
  | _ => False) E
theorem se_frzI (h : SE G X Wx e te) : SE G X Wx e (tFrzI te) := by
  refine pe_imp h ?_
  rintro σ H Q ⟨g, env, M, Q0, E0, s, ev, t, k, x⟩
  refine ⟨g, env, M, _, E0, s, ev, t, fun w M1 h1 g1 v H1 k1 s1 r1 => ?_, x⟩
  cases w <;> try exact h1.elim
  rename_i p
  have h1' : (match M1 p with | some (.flat (.ins C fs)) => Q0 (.ins C fs) (upd2 M1 p none) | _ => False) := h1
  split at h1'
  · rename_i C fs hm
    obtain ⟨sf, kf, r⟩ := s1.freeze hm
    obtain ⟨dx, vs, hv, rv⟩ := r
    exact k _ _ h1' _ _ _ (k1.trans kf) sf ⟨p, dx, vs, r1, .inr rfl, hv, rv⟩
  · exact h1'.elim
end
end LW

namespace LW
open PySem L2 PyProof.Rows
section
variable {X : Cx} {G : Gm} {Wx : WX} {C : Addr} {x : Str} {p pos apos : Pos} {e o a b : Expr} {es : List Expr} {ta tb te : T2} {t : TA2}
/-- the class C may be raised -/
structure ExcS (X : Cx) (G : Gm) (C : String) : Prop where
  q : PySem.W.excIn X.K (G.cA C) He.veBase "ValueError.__new__" = true
  gC : X.mg (Str.ofString C) = some (.ref (G.cA C))
  kC : PySem.W.keepIn X.K (.ref (G.cA C)) = true
  bm : PySem.W.subIn X.K (.ref (G.cA C)) (.type "BaseException") = some true
  ty : PySem.W.typeIn X.K (.ref (G.cA C)) = some (.type "type")
@[simp] def tRaise2 (C : String) : TS2 := fun D env M => D.ex C env M
theorem ss_raise {C : String} {m : Str} {j : Nat} {p2 : Pos} (c : ExcS X G C) (hc : X.calm = true) (tk : Takes X Wx) (hg : Gl X (Str.ofString C)) (hdb : (Str.ofString C == ("__debug__" : Str)) = false := by decide) :
    SS G X Wx (.Raise (some (.Call (.Name (Str.ofString C) p) [.Constant (.str m) j p2] [] apos)) none pos) (tRaise2 C) := by
  refine ps_imp (ps_raise hc tk (pmk_own PySem.F.excBase_ValueError c.q c.gC c.kC (raises_own c.bm c.ty) hg hdb)) ?_
  rintro D σ H h
  obtain ⟨g, env, M, D0, s, ev, t, r⟩ := liftS_iff.mp h
  exact r.ex _ _ _ t g σ H (Keep.refl g H) s ev

@[simp] def tCB2 (r : List W → Heap2 → Q2 → Prop) (t : TA2) : T2 := fun env M Q E => t env M (fun ws M1 => r ws M1 Q) E
theorem callR_imp {f : Value} {r r' : List V → Hp → VK → Prop} (h : CallR X f r) (i : ∀ xs H Q, r' xs H Q → r xs H Q) : CallR X f r' := fun pins s σ H xs us Q I rx q => h pins s σ H xs us Q I rx (i _ _ _ q)
theorem callR_or {f : Value} {r1 r2 : List V → Hp → VK → Prop} (h1 : CallR X f r1) (h2 : CallR X f r2) : CallR X f (fun xs H Q => r1 xs H Q ∨ r2 xs H Q) := fun pins s σ H xs us Q I rx q => q.elim (h1 pins s σ H xs us Q I rx) (h2 pins s σ H xs us Q I rx)
theorem cb2 {r : List W → Heap2 → Q2 → Prop} : ∀ σ H Q, liftE G Wx (tCB2 r t) σ H Q → tCB (liftRL G r) (liftA G Wx t) σ H Q := by
  rintro σ H Q ⟨g, env, M, Q0, E0, s, ev, t, k, x⟩
  refine ⟨g, env, M, _, E0, s, ev, t, fun ws M1 h g1 vs H1 k1 s1 r1 => ?_, x⟩
  exact ⟨g1, M1, ws, Q0, s1, r1, h, fun w M' h3 g' v H' k3 s3 r3 => k w M' h3 g' v H' (k1.trans k3) s3 r3⟩
theorem se_callB {id : String} {r : List W → Heap2 → Q2 → Prop} (hc : CallR X (.builtin id) (liftRL G r)) (hg : Gl X x) (hm : X.mg x = none) (hv : bootBuiltins x = some (.builtin id)) (ha : SA G X Wx (e :: es) t) (hn : x ≠ "__name__" := by decide) (hdb : (x == ("__debug__" : Str)) = false := by decide)
    (he : starEach (e :: es) X.env = (false, eval e X.env) :: starEach es X.env := by rfl) (hpl : (backTo pos (starEach es X.env)).any (·.1) = false := by rfl) : SE G X Wx (.Call (.Name x p) (e :: es) [] pos) (tCB2 r t) :=
  pe_imp (pe_callB hc hg hm hv ha hn hdb he hpl) cb2
theorem se_callTy {T : String} {r : List W → Heap2 → Q2 → Prop} (hc : CallR X (.type T) (liftRL G r)) (hg : Gl X x) (hm : X.mg x = none) (hv : bootBuiltins x = some (.type T)) (ha : SA G X Wx (e :: es) t) (hn : x ≠ "__name__" := by decide) (hdb : (x == ("__debug__" : Str)) = false := by decide)
    (he : starEach (e :: es) X.env = (false, eval e X.env) :: starEach es X.env := by rfl) (hpl : (backTo pos (starEach es X.env)).any (·.1) = false := by rfl) : SE G X Wx (.Call (.Name x p) (e :: es) [] pos) (tCB2 r t) :=
  pe_imp (pe_callTy hc hg hm hv ha hn hdb he hpl) cb2

/-- len: of a list, a tuple, a text, a dict -/
@[simp] def dicOf (M : Heap2) : W → Option (List (W × W))
  | .ref a => match M a with
    | some (.flat (.dic kvs)) => some kvs
    | _ => none
  | _ => none
@[simp] def rLen2 : List W → Heap2 → Q2 → Prop := fun ws M Q => match ws with
  | [.str s] => s.length ≤ 10000000 ∧ Q (.int s.length) M
  | [w] => match seqOf M w with
    | some xs => Q (.int xs.length) M
    | none => False
  | _ => False
theorem call_rLen (hK : X.K = G.K) : CallR X (.builtin "len") (liftRL G rLen2) := by
  refine callR_imp (callR_or call_len_seq call_len_str) ?_
  rintro xs H Q ⟨g, M, ws, Q0, s, rl, q, k⟩
  match ws, rl with
  | [], _ => exact q.elim
  | a :: b :: r, _ => cases a <;> exact q.elim
  | [w], ⟨v, r, e1, a1, e2⟩ =>
    rw [show r = [] from e2] at e1
    subst e1
    have gen : ∀ xs, listOf M w = some xs → Q0 (.int xs.length) M → (∃ p ys, [v] = [V.ref p] ∧ (SqL X.K H p ys ∨ SqT X.K H p ys) ∧ Q (.int ys.length) H) := fun xs e q => by
      obtain ⟨p, vs, rfl, h1, r1⟩ := listOf_rep e s a1
      refine ⟨p, vs, rfl, .inl (hK ▸ h1), ?_⟩
      rw [r1.length]
      exact k _ _ q g _ H (Keep.refl g H) s rfl
    cases w with
    | str t =>
      right
      have q' : t.length ≤ 10000000 ∧ Q0 (.int t.length) M := q
      refine ⟨Str.ofString t, by rw [show v = _ from a1], by rw [ofString_len]; exact big_size q'.1, ?_⟩
      rw [ofString_len]
      exact k _ _ q'.2 g _ H (Keep.refl g H) s rfl
    | tup xs =>
      left
      have q' : Q0 (.int xs.length) M := q
      obtain ⟨p, vs, rfl, h1, r1⟩ := a1
      refine ⟨p, vs, rfl, .inr (hK ▸ h1), ?_⟩
      rw [r1.length]
      exact k _ _ q' g _ H (Keep.refl g H) s rfl
    | lst xs => exact .inl (gen xs rfl q)
    | scr xs => exact .inl (gen xs rfl q)
    | ref a =>
      left
      have q' : (match listOf M (.ref a) with | some xs => Q0 (.int xs.length) M | none => False) := q
      split at q'
      · rename_i xs e; exact gen xs e q'
      · exact q'.elim
    | non => exact q.elim
    | bl _ => exact q.elim
    | int _ => exact q.elim
    | ins _ _ => exact q.elim
    | exn _ => exact q.elim
theorem se_len (hg : Gl X "len") (hm : X.mg "len" = none) (ha : SA G X Wx (e :: es) t) (hK : X.K = G.K := by rfl) (he : starEach (e :: es) X.env = (false, eval e X.env) :: starEach es X.env := by rfl) (hpl : (backTo pos (starEach es X.env)).any (·.1) = false := by rfl) :
    SE G X Wx (.Call (.Name "len" p) (e :: es) [] pos) (tCB2 rLen2 t) := se_callB (call_rLen hK) hg hm PySem.boot_len ha (by decide) (by decide) he hpl

@[simp] def tyOf (M : Heap2) : W → Option String
  | .non => some "NoneType"
  | .bl _ => some "bool"
  | .int _ => some "int"
  | .str _ => some "str"
  | .tup _ => some "tuple"
  | .lst _ => some "list"
  | .scr _ => some "list"
  | .ref a => match M a with
    | some (.flat (.lst _)) => some "list"
    | some (.flat (.dic _)) => some "dict"
    | _ => none
  | _ => none
@[simp] def isB (a b : String) : Bool := decide (a = b) || (decide (a = "bool") && decide (b = "int"))
theorem kitB_tab : ∀ a ∈ ["NoneType", "bool", "int", "str", "tuple", "list", "dict"], ∀ b ∈ ["int", "bool", "str", "list", "tuple"], kitB a b = some (isB a b) := by decide +kernel
theorem tyOf_in {M : Heap2} {w : W} {a : String} (h : tyOf M w = some a) : a ∈ ["NoneType", "bool", "int", "str", "tuple", "list", "dict"] := by
  cases w with
  | ref b =>
    have h' : (match M b with | some (.flat (.lst _)) => some "list" | some (.flat (.dic _)) => some "dict" | _ => none) = some a := h
    split at h' <;> cases h' <;> simp
  | non => cases h; simp
  | bl _ => cases h; simp
  | int _ => cases h; simp
  | str _ => cases h; simp
  | tup _ => cases h; simp
  | lst _ => cases h; simp
  | scr _ => cases h; simp
  | ins _ _ => cases h
  | exn _ => cases h
theorem sqT_ty {K : PySem.W.Frag} {H : Hp} {p : Addr} {vs : List V} (h : SqT K H p vs) : TyX K H (.ref p) (.type "tuple") := by
  rcases h with (h | ⟨o, h⟩) | ⟨o, its, n, h1, h2, _⟩
  · exact .base (.tup h)
  · exact .fTuple h
  · exact .kTuple h1 h2
theorem tyOf_rep {g : Gh} {M : Heap2} {H : Hp} {w : W} {v : V} {a : String} (h : tyOf M w = some a) (s : Sim G g M H) (r : Rep G g.Z H w v) : TyX G.K H v (.type a) := by
  cases w with
  | ref b =>
    rw [show v = _ from r]
    have h' : (match M b with | some (.flat (.lst _)) => some "list" | some (.flat (.dic _)) => some "dict" | _ => none) = some a := h
    split at h'
    · rename_i xs hm
      cases h'
      obtain ⟨_, vs, h1, _⟩ := s.cell b _ hm
      exact .base (.lst h1)
    · rename_i kvs hm
      cases h'
      obtain ⟨_, q⟩ := s.cell b _ hm
      rcases q with ⟨vs, h1, _⟩ | ⟨vs, h1, _⟩
      · exact .base (.dK h1)
      · exact .base (.dT h1)
    · cases h'
  | non => cases h; rw [show v = _ from r]; exact .base .non
  | bl _ => cases h; rw [show v = _ from r]; exact .base (.bl _)
  | int _ => cases h; rw [show v = _ from r]; exact .base (.int _)
  | str _ => cases h; rw [show v = _ from r]; exact .base (.str _)
  | tup _ => cases h; obtain ⟨p, vs, rfl, h1, _⟩ := r; exact sqT_ty h1
  | lst _ => cases h; obtain ⟨p, vs, rfl, _, h1, _⟩ := r; exact .base (.lst h1)
  | scr _ =>
    cases h
    obtain ⟨p, vs, rfl, h1, _⟩ := r
    rcases h1 with ⟨o, h1⟩ | ⟨o, its, n, h1, h2, _⟩
    · exact .base (.frz h1)
    · exact .kList h1 h2
  | ins _ _ => cases h
  | exn _ => cases h
@[simp] def tIsi2 (b : String) (te : T2) : T2 := fun env M Q E => te env M (fun w M1 => match tyOf M1 w with
  | some a => Q (.bl (isB a b)) M1
  | none => False) E
theorem se_isi {b : String} (hg : Gl X "isinstance") (hm : X.mg "isinstance" = none) (hgb : Gl X (Str.ofString b)) (hmb : X.mg (Str.ofString b) = none) (hv : bootBuiltins (Str.ofString b) = some (.type b)) (hb : b ∈ ["int", "bool", "str", "list", "tuple"]) (he : SE G X Wx e te)
    {p2 : Pos} (hK : X.K = G.K := by rfl) (hn : (Str.ofString b) ≠ "__name__" := by decide) (hdb : ((Str.ofString b) == ("__debug__" : Str)) = false := by decide)
    (hst : starEach [e, .Name (Str.ofString b) p2] X.env = (false, eval e X.env) :: starEach [.Name (Str.ofString b) p2] X.env := by rfl) (hst2 : starEach [.Name (Str.ofString b) p2] X.env = (false, eval (.Name (Str.ofString b) p2) X.env) :: starEach [] X.env := by rfl)
    (hpl : (backTo pos (starEach [.Name (Str.ofString b) p2] X.env)).any (·.1) = false := by rfl) :
    SE G X Wx (.Call (.Name "isinstance" p) [e, .Name (Str.ofString b) p2] [] pos) (tIsi2 b te) := by
  refine pe_imp (pe_callB call_isi hg hm (by decide +kernel) (pa_cons he (pa_cons (pe_bltn (v := .ty b) hgb hmb hv rfl hn hdb) pa_nil hst2) hst) (by decide) (by decide) hst hpl) ?_
  rintro σ H Q ⟨g, env, M, Q0, E0, s, ev, t, k, x⟩
  refine ⟨g, env, M, _, E0, s, ev, t, fun w M1 h1 g1 v H1 k1 s1 r1 => ?_, x⟩
  have h1' : (match tyOf M1 w with | some a => Q0 (.bl (isB a b)) M1 | none => False) := h1
  split at h1'
  · rename_i a ha
    refine ⟨v, .ty b, .type a, .type b, isB a b, rfl, .ty b, hK ▸ tyOf_rep ha s1 r1, kit_ty (kitB_tab a (tyOf_in ha) b hb), ?_⟩
    exact k _ _ h1' g1 _ H1 k1 s1 rfl
  · exact h1'.elim

theorem itR_list {g0 : Gh} {H0 : Hp} {a : Addr} {w : W} {xs : List W} (r0 : Rep G g0.Z H0 w (.ref a)) (hK : X.K = G.K) : ItR G (Itl X.K a) g0 H0 xs (fun M => listOf M w = some xs) := by
  intro g M H k s hc
  obtain ⟨p, vs, e1, h1, r1⟩ := listOf_rep hc s (r0.keep k.kz)
  cases e1
  rw [hK]
  refine ⟨⟨vs, h1, by rw [r1.length]; exact Nat.le_refl _⟩, fun i x hx => ?_⟩
  obtain ⟨v, hv, rv⟩ := r1.get hx
  refine ⟨⟨vs, v, h1, hv⟩, fun u H' y => ?_⟩
  obtain ⟨rfl, y⟩ := y
  have e : vs[i]? = some u := y vs h1
  rw [hv] at e
  cases e
  exact ⟨g, Keep.refl _ _, s, rv⟩
def iList2 (tl : T2) : TI2 := fun env M R E => tl env M (fun w M1 => match listOf M1 w with
  | some xs => R xs (fun M' => listOf M' w = some xs) M1
  | none => False) E
theorem si_list {tg : Expr} (hl : SE G X Wx e te) (hK : X.K = G.K := by rfl) : SI G X Wx tg e (iList2 te) := by
  refine ⟨fun pins s0 σ H R I h => (pi_list (tg := tg) hl).run pins s0 σ H R I ?_⟩
  obtain ⟨g, env, M, Q0, E0, s, ev, t, k, x⟩ := h
  refine ⟨g, env, M, _, E0, s, ev, t, fun w M1 h1 g1 v H1 k1 s1 r1 => ?_, x⟩
  have h1' : (match listOf M1 w with | some xs => Q0 xs (fun M' => listOf M' w = some xs) M1 | none => False) := h1
  split at h1'
  · rename_i xs hx
    obtain ⟨p, vs, rfl, hp, rl⟩ := listOf_rep hx s1 r1
    exact ⟨p, rfl, ⟨vs, hK ▸ hp⟩, k _ _ _ h1' g1 _ H1 k1 s1 (itR_list r1 hK)⟩
  · exact h1'.elim
def iTup2 (tl : T2) : TI2 := fun env M R E => tl env M (fun w M1 => match w with
  | .tup xs => R xs (fun _ => True) M1
  | _ => False) E
theorem si_tup {tg : Expr} (hl : SE G X Wx e te) (hK : X.K = G.K := by rfl) : SI G X Wx tg e (iTup2 te) := by
  refine ⟨fun pins s0 σ H R I h => (pi_tup (tg := tg) hl).run pins s0 σ H R I ?_⟩
  obtain ⟨g, env, M, Q0, E0, s, ev, t, k, x⟩ := h
  refine ⟨g, env, M, _, E0, s, ev, t, fun w M1 h1 g1 v H1 k1 s1 r1 => ?_, x⟩
  cases w <;> try exact h1.elim
  rename_i xs
  obtain ⟨p, vs, rfl, hp, rl⟩ := r1
  refine ⟨p, rfl, ⟨vs, hK ▸ hp⟩, k _ _ _ h1 g1 _ H1 k1 s1 ?_⟩
  intro g2 M2 H2 k2 s2 _
  have hp2 := sqT_keep k2.kz hp
  have rl2 := rl.keep k2.kz
  refine ⟨⟨vs, hK ▸ hp2, by rw [rl.length]; exact Nat.le_refl _⟩, fun i x hx => ?_⟩
  obtain ⟨v, hv, rv⟩ := rl2.get hx
  refine ⟨⟨vs, v, hK ▸ hp2, hv⟩, fun u H' y => ?_⟩
  obtain ⟨rfl, y⟩ := y
  have e : vs[i]? = some u := y vs (hK ▸ hp2)
  rw [hv] at e
  cases e
  exact ⟨g2, Keep.refl _ _, s2, rv⟩
/-- the numbers lo, lo + 1, .. (n of them) -/
def intsW (lo : Int) : Nat → List W
  | 0 => []
  | n + 1 => .int lo :: intsW (lo + 1) n
theorem intsW_length (n : Nat) : ∀ lo, (intsW lo n).length = n := by
  induction n with
  | zero => intro _; rfl
  | succ n ih => intro lo; show (intsW (lo + 1) n).length + 1 = n + 1; rw [ih]
theorem intsW_get : ∀ (n : Nat) (lo : Int) (i : Nat), i < n → (intsW lo n)[i]? = some (.int (lo + i))
  | n + 1, lo, 0, _ => by
    show some (W.int lo) = some (.int (lo + 0))
    rw [Int.add_zero]
  | n + 1, lo, i + 1, h => by
    show (intsW (lo + 1) n)[i]? = _
    rw [intsW_get n (lo + 1) i (by omega)]
    congr 2
    omega
theorem itR_range {g0 : Gh} {H0 : Hp} {lo : Int} {n : Nat} : ItR G (Itr lo n) g0 H0 (intsW lo n) (fun _ => True) := by
  intro g M H k s hc
  refine ⟨by show n ≤ (intsW lo n).length; rw [intsW_length]; exact Nat.le_refl _, fun i x hx => ?_⟩
  have hi : i < n := by
    have := (List.getElem?_eq_some_iff.mp hx).1
    rw [intsW_length] at this
    exact this
  refine ⟨hi, fun v H' y => ?_⟩
  obtain ⟨rfl, rfl⟩ := y
  rw [intsW_get n lo i hi] at hx
  cases hx
  exact ⟨g, Keep.refl _ _, s, rfl⟩
def iRng2_1 (t : TA2) : TI2 := fun env M R E => t env M (fun ws M1 => match ws with
  | [.int j] => (-1000000000 ≤ j ∧ j ≤ 1000000000) ∧ R (intsW 0 j.toNat) (fun _ => True) M1
  | _ => False) E
def iRng2_2 (t : TA2) : TI2 := fun env M R E => t env M (fun ws M1 => match ws with
  | [.int i, .int j] => (-1000000000 ≤ i ∧ i ≤ 1000000000 ∧ -1000000000 ≤ j ∧ j ≤ 1000000000) ∧ R (intsW i (j - i).toNat) (fun _ => True) M1
  | _ => False) E
theorem si_range1 {tg : Expr} (hg : Gl X "range") (hm : X.mg "range" = none) (ha : SA G X Wx [a] t) (hs : starEach [a] X.env = [(false, eval a X.env)] := by rfl) : SI G X Wx tg (.Call (.Name "range" p) [a] [] pos) (iRng2_1 t) := by
  refine ⟨fun pins s0 σ H R I h => (pi_range1 (tg := tg) hg hm ha hs).run pins s0 σ H R I ?_⟩
  obtain ⟨g, env, M, Q0, E0, s, ev, t, k, x⟩ := h
  refine ⟨g, env, M, _, E0, s, ev, t, fun ws M1 h1 g1 vs H1 k1 s1 r1 => ?_, x⟩
  split at h1
  · rename_i j
    obtain ⟨v, r, rfl, a1, b1⟩ := r1
    rw [show r = [] from b1, show v = _ from a1]
    exact ⟨j, rfl, by omega, by omega, k _ _ _ h1.2 g1 _ H1 k1 s1 itR_range⟩
  · exact h1.elim
theorem si_range2 {tg : Expr} (hg : Gl X "range") (hm : X.mg "range" = none) (ha : SA G X Wx [a, b] t) (hs : starEach [a, b] X.env = [(false, eval a X.env), (false, eval b X.env)] := by rfl) (hs2 : starEach [b] X.env = [(false, eval b X.env)] := by rfl) : SI G X Wx tg (.Call (.Name "range" p) [a, b] [] pos) (iRng2_2 t) := by
  refine ⟨fun pins s0 σ H R I h => (pi_range2 (tg := tg) hg hm ha hs hs2).run pins s0 σ H R I ?_⟩
  obtain ⟨g, env, M, Q0, E0, s, ev, t, k, x⟩ := h
  refine ⟨g, env, M, _, E0, s, ev, t, fun ws M1 h1 g1 vs H1 k1 s1 r1 => ?_, x⟩
  split at h1
  · rename_i i j
    obtain ⟨v, r, rfl, a1, u, r2, rfl, a2, b2⟩ := r1
    rw [show r2 = [] from b2, show v = _ from a1, show u = _ from a2]
    exact ⟨i, j, rfl, ⟨by omega, by omega, by omega, by omega⟩, k _ _ _ h1.2 g1 _ H1 k1 s1 itR_range⟩
  · exact h1.elim
end
end LW

namespace LW
open PySem L2 PyProof.Rows
section
variable {X : Cx} {G : Gm} {Wx : WX} {p pos : Pos} {a b : Expr} {ta tb : T2}
theorem se_add (ha : SE G X Wx a ta) (hb : SE G X Wx b tb) (hK : X.K = G.K := by rfl) : SE G X Wx (.BinOp a .Add b pos) (tOp2 rAddW ta tb) := se_bin (op_rAdd hK) ha hb
theorem Room.units65 {k : Nat} {A : Around} (r : Room k A) : A.units + 65 < cLine := by have := r.un; omega
end
abbrev GK (K : PySem.W.Frag) : Gm := ⟨K, fun C => He.ga K (Str.ofString C)⟩
/-- an exception class as the facts tell it -/
structure ExcK (K : PySem.W.Frag) (mg : Str → Option Value) (C : String) : Prop where
  q : PySem.W.excIn K ((GK K).cA C) He.veBase "ValueError.__new__" = true
  gC : mg (Str.ofString C) = some (.ref ((GK K).cA C))
  kC : PySem.W.keepIn K (.ref ((GK K).cA C)) = true
  bm : PySem.W.subIn K (.ref ((GK K).cA C)) (.type "BaseException") = some true
  ty : PySem.W.typeIn K (.ref ((GK K).cA C)) = some (.type "type")
theorem ExcK.at {K : PySem.W.Frag} {mg : Str → Option Value} {C : String} (e : ExcK K mg C) {X : Cx} (hK : X.K = K := by rfl) (hm : X.mg = mg := by rfl) : ExcS X (GK K) C := by
  subst hK hm
  exact ⟨e.q, e.gC, e.kC, e.bm, e.ty⟩
/-- the empty ghosts -/
def gh0 : Gh := ⟨fun _ => False, fun _ => False, fun _ => []⟩
theorem sim0 {G : Gm} {H : Hp} : Sim G gh0 (fun _ => none) H := ⟨fun _ _ h => (by cases h), fun _ _ h => (by cases h), fun _ _ _ h => (by cases h), fun _ _ _ _ _ h => (by cases h), fun _ h => h.elim, fun _ h => h.elim⟩
theorem repL_ints {G : Gm} {Z : Addr → Prop} {H : Hp} : ∀ ns : List Int, RepL G Z H (ns.map W.int) (ns.map V.int)
  | [] => rfl
  | n :: ns => ⟨_, _, rfl, rfl, repL_ints ns⟩
theorem sqF_of {K : PySem.W.Frag} {H : Hp} {a : Addr} {xs : List V} (o : Only H) (h : SqL K H a xs) : SqF K H a xs := by
  rcases h with (h | h) | h
  · rcases o a with e | ⟨ob, ys, e⟩
    · rw [h] at e; cases e
    · rw [h] at e; cases e
  · exact .inl h
  · exact .inr h
/-- a law: F gives the written part, the function object, the promise over every base -/
theorem walk_ofX {l : PySem.W.OpenLaw} {n k : Nat} {q : Program} {loose : List Str} {XP : (Str → Option Value) → Heap → Prop} {YP : World → Heap → Prop} {d : DefRec} {x : Str}
    (hn : l.most = some n) (hn2 : n ≤ sizeLine) (hdf : d.params.defaults = []) (hr : Room k callerA)
    (F : ∀ (w : World) (mg : Str → Option Value) (fa : Addr) (h : Heap), YP w h → h.Ns mainGlobals mg → mg d.name = some (.ref fa) →
      ∃ (K : PySem.W.Frag) (fd : FuncData) (sp : Spec2), K.In h ∧ (∀ (s : Shared) (u : Value), BindsTo s fd ⟨[u], []⟩ [(x, u)]) ∧
        (∀ (ns : List Int), ns.length ≤ n → sp [.scr (ns.map W.int)] (fun _ => none) (fun w _ => w = .bl true) fun _ _ => False) ∧
        ∀ base : Heap, K.In base → base.Ns mainGlobals mg → FnOk l.prog w K mg base (L2.CX l.prog w) k fa fd [x] (spOf (GK K) 1 sp)) :
    PySem.W.WalkO q loose XP YP l.row.toRowW d [] (fun f vs => PySem.call f vs) := by
  refine Att.attach_call hn hdf fun w s₀ s₁ mg mb fa o pm cd doc a vs ns G Y ho hd hcd hmg hobj hints hlen hg => ?_
  obtain ⟨K, fd, sp, KX, hb, hsp, hF⟩ := F w mg fa _ Y G.T.g hmg
  refine law_call KX G.T.g G.T.b G.T.builtins G.T.nolimit hg hobj hints (Nat.le_trans hlen hn2) hr hF hb (fun H hO hS => ?_) fun H e s' h => ?_
  · refine ⟨rfl, gh0, [.scr (ns.map W.int)], _, _, _, sim0, ⟨_, [], rfl, ⟨a, _, rfl, sqF_of hO hS, repL_ints ns⟩, rfl⟩, hsp ns hlen, fun w M' h g' v H' _ _ r => ?_, fun _ _ h => h.elim⟩
    subst h
    exact r
  · obtain ⟨_, _, _, _, _, _, _, _, _, _, _, _, z⟩ := h
    exact z
/-- the facts of a def as a callee -/
theorem callS_mk {P : Program} {w : World} {K : PySem.W.Frag} {mg : Str → Option Value} {base : Heap} {x : String} {k n : Nat} {s : Spec2} {f : Addr} {fd : FuncData} {ps : List Str} (F : FnOk P w K mg base (L2.CX P w) k f fd ps (spOf (GK K) n s)) (hm : mg (Str.ofString x) = some (.ref f)) (kp : PySem.W.keepIn K (.ref f) = true) (hb : Binds K fd ps []) :
    CallS P w K mg base (GK K) x k n [] s := ⟨f, fd, ps, [], [], F, hm, kp, hb, .nil, fun _ _ => rfl⟩
end LW
namespace LW
open PySem L2 PyProof.Rows
section
variable {G : Gm} {X : Cx} {Wx : WX} {a b : Expr} {ta tb : T2} {pos : Pos}
theorem sb_lt (ha : SE G X Wx a ta) (hb : SE G X Wx b tb) : SB G X Wx (.Compare a [.Lt] [b] pos) (tTest2 (tOp2 rLtW ta tb)) := sb_cmp (opR_imp op_lt rIntB_lift) ha hb (nobehind _ (by decide) (by decide))
theorem sb_le (ha : SE G X Wx a ta) (hb : SE G X Wx b tb) : SB G X Wx (.Compare a [.LtE] [b] pos) (tTest2 (tOp2 rLeW ta tb)) := sb_cmp (opR_imp op_le rIntB_lift) ha hb (nobehind _ (by decide) (by decide))
theorem sb_gt (ha : SE G X Wx a ta) (hb : SE G X Wx b tb) : SB G X Wx (.Compare a [.Gt] [b] pos) (tTest2 (tOp2 rGtW ta tb)) := sb_cmp (opR_imp op_gt rIntB_lift) ha hb (nobehind _ (by decide) (by decide))
theorem sb_ge (ha : SE G X Wx a ta) (hb : SE G X Wx b tb) : SB G X Wx (.Compare a [.GtE] [b] pos) (tTest2 (tOp2 rGeW ta tb)) := sb_cmp (opR_imp op_ge rIntB_lift) ha hb (nobehind _ (by decide) (by decide))
theorem sb_eq (hu : X.A.units + 64 < cLine) (ha : SE G X Wx a ta) (hb : SE G X Wx b tb) (hK : X.K = G.K := by rfl) : SB G X Wx (.Compare a [.Eq] [b] pos) (tTest2 (tOp2 (rEq2 false) ta tb)) := sb_cmp (op_rEq hK hu) ha hb (nobehind _ (by decide) (by decide))
theorem sb_ne (hu : X.A.units + 64 < cLine) (ha : SE G X Wx a ta) (hb : SE G X Wx b tb) (hK : X.K = G.K := by rfl) : SB G X Wx (.Compare a [.NotEq] [b] pos) (tTest2 (tOp2 (rEq2 true) ta tb)) := sb_cmp (op_rNe hK hu) ha hb (nobehind _ (by decide) (by decide))
theorem sb_is (ha : SE G X Wx a ta) (hb : SE G X Wx b tb) : SB G X Wx (.Compare a [.Is] [b] pos) (tTest2 (tOp2 (rIsN2 false) ta tb)) := sb_cmp op_rIsN ha hb (nobehind _ (by decide) (by decide))
theorem sb_isnot (ha : SE G X Wx a ta) (hb : SE G X Wx b tb) : SB G X Wx (.Compare a [.IsNot] [b] pos) (tTest2 (tOp2 (rIsN2 true) ta tb)) := sb_cmp op_rNotN ha hb (nobehind _ (by decide) (by decide))
end
end LW

namespace K01
open PySem L2 PyProof.Rows LW
abbrev G (K : PySem.W.Frag) : Gm := GK K
def top (i : Nat) : Stmt := PySem.Challenge.pw_linewarden_k01_an_address_cut.main.body.getD i (.Pass ⟨0, 0, 0, 0⟩)
section
variable {P : Program} {w : World} {K : PySem.W.Frag} {mg : Str → Option Value} {base : Heap}
abbrev s_line_of : Stmt := top 1
theorem sc_line_of : FnScope ["address", "width"] ["address", "width"] (defScope s_line_of) := ⟨rfl, rfl, rfl, by decide +kernel, rfl, by decide +kernel, by decide +kernel⟩
def m_line_of : TS2 :=
  tRet2 (tOp2 rFdivW (tVar2 0) (tVar2 1))
theorem d_line_of {f : Addr} {fd : FuncData} (F : FunD K "line_of" "line_of" (defArgs s_line_of) (defBody s_line_of) (defScope s_line_of) [] [] f fd)  :
    FnOk P w K mg base (L2.CX P w) 1 f fd ["address", "width"] (spOf (G K) 2 (bodySpec 2 m_line_of)) :=
  fn_ok F sc_line_of fun cdv A outer s H E hr => by
    have tk0 : Takes (cxOf (L2.CX P w) P w K mg base ["address", "width"] "line_of" (defScope s_line_of) f cdv A outer s H E) (fun cls d _ H => E cls d H) := takes_of rfl rfl rfl rfl
    have po0 : PassesOwn (model P w) (cxOf (L2.CX P w) P w K mg base ["address", "width"] "line_of" (defScope s_line_of) f cdv A outer s H E).A (cxOf (L2.CX P w) P w K mg base ["address", "width"] "line_of" (defScope s_line_of) f cdv A outer s H E).env (cxOf (L2.CX P w) P w K mg base ["address", "width"] "line_of" (defScope s_line_of) f cdv A outer s H E).xe := passes_of rfl
    exact sss_one (ss_ret (se_fdiv (se_var (i := 0) rfl (by first | exact Or.inl rfl | exact Or.inr (Or.inl rfl) | exact Or.inr (Or.inr rfl))) (se_var (i := 1) rfl (by first | exact Or.inl rfl | exact Or.inr (Or.inl rfl) | exact Or.inr (Or.inr rfl)))))
abbrev s_spot_of : Stmt := top 2
theorem sc_spot_of : FnScope ["address", "width"] ["address", "width"] (defScope s_spot_of) := ⟨rfl, rfl, rfl, by decide +kernel, rfl, by decide +kernel, by decide +kernel⟩
def m_spot_of : TS2 :=
  tRet2 (tOp2 rModW (tVar2 0) (tVar2 1))
theorem d_spot_of {f : Addr} {fd : FuncData} (F : FunD K "spot_of" "spot_of" (defArgs s_spot_of) (defBody s_spot_of) (defScope s_spot_of) [] [] f fd)  :
    FnOk P w K mg base (L2.CX P w) 1 f fd ["address", "width"] (spOf (G K) 2 (bodySpec 2 m_spot_of)) :=
  fn_ok F sc_spot_of fun cdv A outer s H E hr => by
    have tk0 : Takes (cxOf (L2.CX P w) P w K mg base ["address", "width"] "spot_of" (defScope s_spot_of) f cdv A outer s H E) (fun cls d _ H => E cls d H) := takes_of rfl rfl rfl rfl
    have po0 : PassesOwn (model P w) (cxOf (L2.CX P w) P w K mg base ["address", "width"] "spot_of" (defScope s_spot_of) f cdv A outer s H E).A (cxOf (L2.CX P w) P w K mg base ["address", "width"] "spot_of" (defScope s_spot_of) f cdv A outer s H E).env (cxOf (L2.CX P w) P w K mg base ["address", "width"] "spot_of" (defScope s_spot_of) f cdv A outer s H E).xe := passes_of rfl
    exact sss_one (ss_ret (se_mod (se_var (i := 0) rfl (by first | exact Or.inl rfl | exact Or.inr (Or.inl rfl) | exact Or.inr (Or.inr rfl))) (se_var (i := 1) rfl (by first | exact Or.inl rfl | exact Or.inr (Or.inl rfl) | exact Or.inr (Or.inr rfl)))))
abbrev s_address_of : Stmt := top 3
theorem sc_address_of : FnScope ["line", "spot", "width"] ["line", "spot", "width"] (defScope s_address_of) := ⟨rfl, rfl, rfl, by decide +kernel, rfl, by decide +kernel, by decide +kernel⟩
def m_address_of : TS2 :=
  tRet2 (tOp2 rAddW (tOp2 rMulW (tVar2 0) (tVar2 2)) (tVar2 1))
theorem d_address_of {f : Addr} {fd : FuncData} (F : FunD K "address_of" "address_of" (defArgs s_address_of) (defBody s_address_of) (defScope s_address_of) [] [] f fd)  :
    FnOk P w K mg base (L2.CX P w) 1 f fd ["line", "spot", "width"] (spOf (G K) 3 (bodySpec 3 m_address_of)) :=
  fn_ok F sc_address_of fun cdv A outer s H E hr => by
    have tk0 : Takes (cxOf (L2.CX P w) P w K mg base ["line", "spot", "width"] "address_of" (defScope s_address_of) f cdv A outer s H E) (fun cls d _ H => E cls d H) := takes_of rfl rfl rfl rfl
    have po0 : PassesOwn (model P w) (cxOf (L2.CX P w) P w K mg base ["line", "spot", "width"] "address_of" (defScope s_address_of) f cdv A outer s H E).A (cxOf (L2.CX P w) P w K mg base ["line", "spot", "width"] "address_of" (defScope s_address_of) f cdv A outer s H E).env (cxOf (L2.CX P w) P w K mg base ["line", "spot", "width"] "address_of" (defScope s_address_of) f cdv A outer s H E).xe := passes_of rfl
    exact sss_one (ss_ret (se_add (se_mul (se_var (i := 0) rfl (by first | exact Or.inl rfl | exact Or.inr (Or.inl rfl) | exact Or.inr (Or.inr rfl))) (se_var (i := 2) rfl (by first | exact Or.inl rfl | exact Or.inr (Or.inl rfl) | exact Or.inr (Or.inr rfl)))) (se_var (i := 1) rfl (by first | exact Or.inl rfl | exact Or.inr (Or.inl rfl) | exact Or.inr (Or.inr rfl)))))
def sp_line_of : Spec2 := fun ws M Q _ => match ws with
  | [.int a, .int b] => (0 < b ∧ b ≤ 1000) ∧ Q (.int (a / b)) M
  | _ => False
def sp_spot_of : Spec2 := fun ws M Q _ => match ws with
  | [.int a, .int b] => (0 < b ∧ b ≤ 1000) ∧ Q (.int (a % b)) M
  | _ => False
def sp_address_of : Spec2 := fun ws M Q _ => match ws with
  | [.int a, .int b, .int c] => (0 < c ∧ c ≤ 1000) ∧ Q (.int (a * c + b)) M
  | _ => False
theorem ok_line_of : ∀ ws M Q E, ws.length = 2 → sp_line_of ws M Q E → bodySpec 2 m_line_of ws M Q E := by
  intro ws M Q E hl h
  unfold sp_line_of at h
  split at h
  · simp [m_line_of, CDiv]
    exact ⟨by omega, h.2⟩
  · exact h.elim
theorem ok_spot_of : ∀ ws M Q E, ws.length = 2 → sp_spot_of ws M Q E → bodySpec 2 m_spot_of ws M Q E := by
  intro ws M Q E hl h
  unfold sp_spot_of at h
  split at h
  · simp [m_spot_of]
    exact ⟨by omega, h.2⟩
  · exact h.elim
theorem ok_address_of : ∀ ws M Q E, ws.length = 3 → sp_address_of ws M Q E → bodySpec 3 m_address_of ws M Q E := by
  intro ws M Q E hl h
  unfold sp_address_of at h
  split at h
  · simp [m_address_of, CMul]
    exact ⟨by omega, h.2⟩
  · exact h.elim
abbrev s_L_whole : Stmt := top 5
theorem sc_L_whole : FnScope ["_law_found"] ["_law_found"] (defScope s_L_whole) := ⟨rfl, rfl, rfl, by decide +kernel, rfl, by decide +kernel, by decide +kernel⟩
def m_L_whole : TS2 :=
  tRet2 (tAndV2 (tIsi2 "int" (tVar2 0)) (tNotV2 (tIsi2 "bool" (tVar2 0))))
theorem d_L_whole {f : Addr} {fd : FuncData} (F : FunD K "_law_whole" "_law_whole" (defArgs s_L_whole) (defBody s_L_whole) (defScope s_L_whole) [] [] f fd) (b_isinstance : mg "isinstance" = Option.none) (b_int : mg "int" = Option.none) (b_bool : mg "bool" = Option.none) :
    FnOk P w K mg base (L2.CX P w) 1 f fd ["_law_found"] (spOf (G K) 1 (bodySpec 1 m_L_whole)) :=
  fn_ok F sc_L_whole fun cdv A outer s H E hr => by
    have tk0 : Takes (cxOf (L2.CX P w) P w K mg base ["_law_found"] "_law_whole" (defScope s_L_whole) f cdv A outer s H E) (fun cls d _ H => E cls d H) := takes_of rfl rfl rfl rfl
    have po0 : PassesOwn (model P w) (cxOf (L2.CX P w) P w K mg base ["_law_found"] "_law_whole" (defScope s_L_whole) f cdv A outer s H E).A (cxOf (L2.CX P w) P w K mg base ["_law_found"] "_law_whole" (defScope s_L_whole) f cdv A outer s H E).env (cxOf (L2.CX P w) P w K mg base ["_law_found"] "_law_whole" (defScope s_L_whole) f cdv A outer s H E).xe := passes_of rfl
    exact sss_one (ss_ret (se_and (se_isi (b := "int") (by rfl) b_isinstance (by rfl) b_int (by decide +kernel) (by decide) (se_var (i := 0) rfl (by first | exact Or.inl rfl | exact Or.inr (Or.inl rfl) | exact Or.inr (Or.inr rfl)))) (se_one (se_not (se_isi (b := "bool") (by rfl) b_isinstance (by rfl) b_bool (by decide +kernel) (by decide) (se_var (i := 0) rfl (by first | exact Or.inl rfl | exact Or.inr (Or.inl rfl) | exact Or.inr (Or.inr rfl))))))))
def sp_L_whole : Spec2 := fun ws M Q _ => match ws with
  | [.int _] => Q (.bl true) M
  | _ => False
theorem ok_L_whole : ∀ ws M Q E, ws.length = 1 → sp_L_whole ws M Q E → bodySpec 1 m_L_whole ws M Q E := by
  intro ws M Q E hl h
  unfold sp_L_whole at h
  split at h
  · simp [m_L_whole]
    exact h
  · exact h.elim
theorem fdm (a b : Int) (h : 0 < b) : a / b * b + a % b = a ∧ 0 ≤ a % b ∧ a % b < b := by
  have h1 := Int.mul_ediv_add_emod a b
  rw [Int.mul_comm] at h1
  exact ⟨h1, Int.emod_nonneg a (by omega), Int.emod_lt_of_pos a h⟩
theorem fdiv_uniq {l s w : Int} (h0 : 0 ≤ s) (h1 : s < w) : (l * w + s) / w = l ∧ (l * w + s) % w = s := by
  have hw : 0 < w := by omega
  constructor
  · rw [Int.add_comm, Int.add_mul_ediv_right _ _ (by omega), Int.ediv_eq_zero_of_lt h0 h1]; omega
  · rw [Int.add_comm, Int.add_mul_emod_self_right, Int.emod_eq_of_lt h0 h1]
def sp_L_cut : Spec2 := fun ws M Q _ => match ws with
  | [.int a, .int b] => (0 < b ∧ b ≤ 16) ∧ Q (.bl true) M
  | _ => False
def sp_L_joined : Spec2 := fun ws M Q _ => match ws with
  | [.int l, .int s, .int b] => (0 < b ∧ b ≤ 16 ∧ 0 ≤ s ∧ s < b) ∧ Q (.bl true) M
  | _ => False
def sp_law : Spec2 := fun ws M Q _ => match ws with
  | [.scr xs] => (∃ ns : List Int, xs = ns.map W.int) ∧ Q (.bl true) M
  | _ => False
abbrev s_L_cut : Stmt := top 6
theorem sc_L_cut : FnScope ["_law_address", "_law_width", "_law_line", "_law_spot", "_law_back"] ["_law_address", "_law_width"] (defScope s_L_cut) := ⟨rfl, rfl, rfl, by decide +kernel, rfl, by decide +kernel, by decide +kernel⟩
def m_L_cut : TS2 :=
  tSeq2 (tAsg2 (tCall2 2 [] sp_line_of (tCons2 (tVar2 0) (tCons2 (tVar2 1) (tNil2)))) (gName2 2)) (tSeq2 (tAsg2 (tCall2 2 [] sp_spot_of (tCons2 (tVar2 0) (tCons2 (tVar2 1) (tNil2)))) (gName2 3)) (tSeq2 (tIf2 (tOr2 (tNot2 (tTest2 (tCall2 1 [] sp_L_whole (tCons2 (tVar2 2) (tNil2))))) (tNot2 (tTest2 (tCall2 1 [] sp_L_whole (tCons2 (tVar2 3) (tNil2)))))) (tRet2 (tC2 (.bl false))) (tNext2)) (tSeq2 (tIf2 (tOr2 (tTest2 (tOp2 (rLtW) (tVar2 3) (tC2 (.int 0)))) (tOr2 (tTest2 (tOp2 (rGeW) (tVar2 3) (tVar2 1))) (tTest2 (tOp2 (rEq2 true) (tOp2 rAddW (tOp2 rMulW (tVar2 2) (tVar2 1)) (tVar2 3)) (tVar2 0))))) (tRet2 (tC2 (.bl false))) (tNext2)) (tSeq2 (tAsg2 (tCall2 3 [] sp_address_of (tCons2 (tVar2 2) (tCons2 (tVar2 3) (tCons2 (tVar2 1) (tNil2))))) (gName2 4)) (tRet2 (tAndV2 (tCall2 1 [] sp_L_whole (tCons2 (tVar2 4) (tNil2))) (tOp2 (rEq2 false) (tVar2 4) (tVar2 0))))))))
theorem d_L_cut {f : Addr} {fd : FuncData} (F : FunD K "_law_cut" "_law_cut" (defArgs s_L_cut) (defBody s_L_cut) (defScope s_L_cut) [] [] f fd) (c_line_of_2 : CallS P w K mg base (G K) "line_of" 1 2 [] sp_line_of) (c_spot_of_2 : CallS P w K mg base (G K) "spot_of" 1 2 [] sp_spot_of) (c_L_whole_1 : CallS P w K mg base (G K) "_law_whole" 1 1 [] sp_L_whole) (c_address_of_3 : CallS P w K mg base (G K) "address_of" 1 3 [] sp_address_of) :
    FnOk P w K mg base (L2.CX P w) 2 f fd ["_law_address", "_law_width"] (spOf (G K) 2 (bodySpec 5 m_L_cut)) :=
  fn_ok F sc_L_cut fun cdv A outer s H E hr => by
    have tk0 : Takes (cxOf (L2.CX P w) P w K mg base ["_law_address", "_law_width", "_law_line", "_law_spot", "_law_back"] "_law_cut" (defScope s_L_cut) f cdv A outer s H E) (fun cls d _ H => E cls d H) := takes_of rfl rfl rfl rfl
    have po0 : PassesOwn (model P w) (cxOf (L2.CX P w) P w K mg base ["_law_address", "_law_width", "_law_line", "_law_spot", "_law_back"] "_law_cut" (defScope s_L_cut) f cdv A outer s H E).A (cxOf (L2.CX P w) P w K mg base ["_law_address", "_law_width", "_law_line", "_law_spot", "_law_back"] "_law_cut" (defScope s_L_cut) f cdv A outer s H E).env (cxOf (L2.CX P w) P w K mg base ["_law_address", "_law_width", "_law_line", "_law_spot", "_law_back"] "_law_cut" (defScope s_L_cut) f cdv A outer s H E).xe := passes_of rfl
    exact sss_cons (ss_set (i := 2) sc_L_cut.nd rfl (by first | exact Or.inl rfl | exact Or.inr rfl) (se_call c_line_of_2 (hr.mono (by decide)) (by rfl) tk0 (sa_cons (se_var (i := 0) rfl (by first | exact Or.inl rfl | exact Or.inr (Or.inl rfl) | exact Or.inr (Or.inr rfl))) (sa_cons (se_var (i := 1) rfl (by first | exact Or.inl rfl | exact Or.inr (Or.inl rfl) | exact Or.inr (Or.inr rfl))) (sa_nil))))) (sss_cons (ss_set (i := 3) sc_L_cut.nd rfl (by first | exact Or.inl rfl | exact Or.inr rfl) (se_call c_spot_of_2 (hr.mono (by decide)) (by rfl) tk0 (sa_cons (se_var (i := 0) rfl (by first | exact Or.inl rfl | exact Or.inr (Or.inl rfl) | exact Or.inr (Or.inr rfl))) (sa_cons (se_var (i := 1) rfl (by first | exact Or.inl rfl | exact Or.inr (Or.inl rfl) | exact Or.inr (Or.inr rfl))) (sa_nil))))) (sss_cons (ss_if (sw_sb (sw_or (sb_not (sb_val (se_call c_L_whole_1 (hr.mono (by decide)) (by rfl) tk0 (sa_cons (se_var (i := 2) rfl (by first | exact Or.inl rfl | exact Or.inr (Or.inl rfl) | exact Or.inr (Or.inr rfl))) (sa_nil))))) (sw_or1 (sb_not (sb_val (se_call c_L_whole_1 (hr.mono (by decide)) (by rfl) tk0 (sa_cons (se_var (i := 3) rfl (by first | exact Or.inl rfl | exact Or.inr (Or.inl rfl) | exact Or.inr (Or.inr rfl))) (sa_nil)))))))) (sss_one (ss_ret (se_bl))) (sss_nil)) (sss_cons (ss_if (sw_sb (sw_or (sb_lt (se_var (i := 3) rfl (by first | exact Or.inl rfl | exact Or.inr (Or.inl rfl) | exact Or.inr (Or.inr rfl))) (se_int)) (sw_or (sb_ge (se_var (i := 3) rfl (by first | exact Or.inl rfl | exact Or.inr (Or.inl rfl) | exact Or.inr (Or.inr rfl))) (se_var (i := 1) rfl (by first | exact Or.inl rfl | exact Or.inr (Or.inl rfl) | exact Or.inr (Or.inr rfl)))) (sw_or1 (sb_ne hr.units (se_add (se_mul (se_var (i := 2) rfl (by first | exact Or.inl rfl | exact Or.inr (Or.inl rfl) | exact Or.inr (Or.inr rfl))) (se_var (i := 1) rfl (by first | exact Or.inl rfl | exact Or.inr (Or.inl rfl) | exact Or.inr (Or.inr rfl)))) (se_var (i := 3) rfl (by first | exact Or.inl rfl | exact Or.inr (Or.inl rfl) | exact Or.inr (Or.inr rfl)))) (se_var (i := 0) rfl (by first | exact Or.inl rfl | exact Or.inr (Or.inl rfl) | exact Or.inr (Or.inr rfl)))))))) (sss_one (ss_ret (se_bl))) (sss_nil)) (sss_cons (ss_set (i := 4) sc_L_cut.nd rfl (by first | exact Or.inl rfl | exact Or.inr rfl) (se_call c_address_of_3 (hr.mono (by decide)) (by rfl) tk0 (sa_cons (se_var (i := 2) rfl (by first | exact Or.inl rfl | exact Or.inr (Or.inl rfl) | exact Or.inr (Or.inr rfl))) (sa_cons (se_var (i := 3) rfl (by first | exact Or.inl rfl | exact Or.inr (Or.inl rfl) | exact Or.inr (Or.inr rfl))) (sa_cons (se_var (i := 1) rfl (by first | exact Or.inl rfl | exact Or.inr (Or.inl rfl) | exact Or.inr (Or.inr rfl))) (sa_nil)))))) (sss_one (ss_ret (se_and (se_call c_L_whole_1 (hr.mono (by decide)) (by rfl) tk0 (sa_cons (se_var (i := 4) rfl (by first | exact Or.inl rfl | exact Or.inr (Or.inl rfl) | exact Or.inr (Or.inr rfl))) (sa_nil))) (se_one (se_eq hr.units (se_var (i := 4) rfl (by first | exact Or.inl rfl | exact Or.inr (Or.inl rfl) | exact Or.inr (Or.inr rfl))) (se_var (i := 0) rfl (by first | exact Or.inl rfl | exact Or.inr (Or.inl rfl) | exact Or.inr (Or.inr rfl))))))))))))
abbrev s_L_joined : Stmt := top 7
theorem sc_L_joined : FnScope ["_law_line", "_law_spot", "_law_width", "_law_address"] ["_law_line", "_law_spot", "_law_width"] (defScope s_L_joined) := ⟨rfl, rfl, rfl, by decide +kernel, rfl, by decide +kernel, by decide +kernel⟩
def m_L_joined : TS2 :=
  tSeq2 (tAsg2 (tCall2 3 [] sp_address_of (tCons2 (tVar2 0) (tCons2 (tVar2 1) (tCons2 (tVar2 2) (tNil2))))) (gName2 3)) (tSeq2 (tIf2 (tOr2 (tNot2 (tTest2 (tCall2 1 [] sp_L_whole (tCons2 (tVar2 3) (tNil2))))) (tTest2 (tOp2 (rEq2 true) (tVar2 3) (tOp2 rAddW (tOp2 rMulW (tVar2 0) (tVar2 2)) (tVar2 1))))) (tRet2 (tC2 (.bl false))) (tNext2)) (tRet2 (tAndV2 (tOp2 (rEq2 false) (tCall2 2 [] sp_line_of (tCons2 (tVar2 3) (tCons2 (tVar2 2) (tNil2)))) (tVar2 0)) (tOp2 (rEq2 false) (tCall2 2 [] sp_spot_of (tCons2 (tVar2 3) (tCons2 (tVar2 2) (tNil2)))) (tVar2 1)))))
theorem d_L_joined {f : Addr} {fd : FuncData} (F : FunD K "_law_joined" "_law_joined" (defArgs s_L_joined) (defBody s_L_joined) (defScope s_L_joined) [] [] f fd) (c_address_of_3 : CallS P w K mg base (G K) "address_of" 1 3 [] sp_address_of) (c_L_whole_1 : CallS P w K mg base (G K) "_law_whole" 1 1 [] sp_L_whole) (c_line_of_2 : CallS P w K mg base (G K) "line_of" 1 2 [] sp_line_of) (c_spot_of_2 : CallS P w K mg base (G K) "spot_of" 1 2 [] sp_spot_of) :
    FnOk P w K mg base (L2.CX P w) 2 f fd ["_law_line", "_law_spot", "_law_width"] (spOf (G K) 3 (bodySpec 4 m_L_joined)) :=
  fn_ok F sc_L_joined fun cdv A outer s H E hr => by
    have tk0 : Takes (cxOf (L2.CX P w) P w K mg base ["_law_line", "_law_spot", "_law_width", "_law_address"] "_law_joined" (defScope s_L_joined) f cdv A outer s H E) (fun cls d _ H => E cls d H) := takes_of rfl rfl rfl rfl
    have po0 : PassesOwn (model P w) (cxOf (L2.CX P w) P w K mg base ["_law_line", "_law_spot", "_law_width", "_law_address"] "_law_joined" (defScope s_L_joined) f cdv A outer s H E).A (cxOf (L2.CX P w) P w K mg base ["_law_line", "_law_spot", "_law_width", "_law_address"] "_law_joined" (defScope s_L_joined) f cdv A outer s H E).env (cxOf (L2.CX P w) P w K mg base ["_law_line", "_law_spot", "_law_width", "_law_address"] "_law_joined" (defScope s_L_joined) f cdv A outer s H E).xe := passes_of rfl
    exact sss_cons (ss_set (i := 3) sc_L_joined.nd rfl (by first | exact Or.inl rfl | exact Or.inr rfl) (se_call c_address_of_3 (hr.mono (by decide)) (by rfl) tk0 (sa_cons (se_var (i := 0) rfl (by first | exact Or.inl rfl | exact Or.inr (Or.inl rfl) | exact Or.inr (Or.inr rfl))) (sa_cons (se_var (i := 1) rfl (by first | exact Or.inl rfl | exact Or.inr (Or.inl rfl) | exact Or.inr (Or.inr rfl))) (sa_cons (se_var (i := 2) rfl (by first | exact Or.inl rfl | exact Or.inr (Or.inl rfl) | exact Or.inr (Or.inr rfl))) (sa_nil)))))) (sss_cons (ss_if (sw_sb (sw_or (sb_not (sb_val (se_call c_L_whole_1 (hr.mono (by decide)) (by rfl) tk0 (sa_cons (se_var (i := 3) rfl (by first | exact Or.inl rfl | exact Or.inr (Or.inl rfl) | exact Or.inr (Or.inr rfl))) (sa_nil))))) (sw_or1 (sb_ne hr.units (se_var (i := 3) rfl (by first | exact Or.inl rfl | exact Or.inr (Or.inl rfl) | exact Or.inr (Or.inr rfl))) (se_add (se_mul (se_var (i := 0) rfl (by first | exact Or.inl rfl | exact Or.inr (Or.inl rfl) | exact Or.inr (Or.inr rfl))) (se_var (i := 2) rfl (by first | exact Or.inl rfl | exact Or.inr (Or.inl rfl) | exact Or.inr (Or.inr rfl)))) (se_var (i := 1) rfl (by first | exact Or.inl rfl | exact Or.inr (Or.inl rfl) | exact Or.inr (Or.inr rfl)))))))) (sss_one (ss_ret (se_bl))) (sss_nil)) (sss_one (ss_ret (se_and (se_eq hr.units (se_call c_line_of_2 (hr.mono (by decide)) (by rfl) tk0 (sa_cons (se_var (i := 3) rfl (by first | exact Or.inl rfl | exact Or.inr (Or.inl rfl) | exact Or.inr (Or.inr rfl))) (sa_cons (se_var (i := 2) rfl (by first | exact Or.inl rfl | exact Or.inr (Or.inl rfl) | exact Or.inr (Or.inr rfl))) (sa_nil)))) (se_var (i := 0) rfl (by first | exact Or.inl rfl | exact Or.inr (Or.inl rfl) | exact Or.inr (Or.inr rfl)))) (se_one (se_eq hr.units (se_call c_spot_of_2 (hr.mono (by decide)) (by rfl) tk0 (sa_cons (se_var (i := 3) rfl (by first | exact Or.inl rfl | exact Or.inr (Or.inl rfl) | exact Or.inr (Or.inr rfl))) (sa_cons (se_var (i := 2) rfl (by first | exact Or.inl rfl | exact Or.inr (Or.inl rfl) | exact Or.inr (Or.inr rfl))) (sa_nil)))) (se_var (i := 1) rfl (by first | exact Or.inl rfl | exact Or.inr (Or.inl rfl) | exact Or.inr (Or.inr rfl)))))))))
theorem ok_L_cut : ∀ ws M Q E, ws.length = 2 → sp_L_cut ws M Q E → bodySpec 5 m_L_cut ws M Q E := by
  intro ws M Q E hl h
  unfold sp_L_cut at h
  split at h
  · rename_i a b
    obtain ⟨h1, h2⟩ := h
    obtain ⟨e1, e2, e3⟩ := fdm a b (by omega)
    simp [m_L_cut, sp_line_of, sp_spot_of, sp_address_of, sp_L_whole, CMul]
    refine ⟨by omega, ?_⟩
    rw [if_neg (by omega), if_neg (by omega)]
    refine ⟨by omega, ?_⟩
    rw [if_pos e1]
    refine ⟨by omega, ?_⟩
    rw [e1]
    simpa using h2
  · exact h.elim
theorem ok_L_joined : ∀ ws M Q E, ws.length = 3 → sp_L_joined ws M Q E → bodySpec 4 m_L_joined ws M Q E := by
  intro ws M Q E hl h
  unfold sp_L_joined at h
  split at h
  · rename_i l s b
    obtain ⟨h1, h2⟩ := h
    obtain ⟨e1, e2⟩ := fdiv_uniq (l := l) (s := s) (w := b) (by omega) (by omega)
    simp [m_L_joined, sp_line_of, sp_spot_of, sp_address_of, sp_L_whole, CMul]
    refine ⟨by omega, by omega, by omega, ?_⟩
    rw [if_pos e1]
    refine ⟨by omega, ?_⟩
    rw [Int.emod_eq_of_lt (by omega) (by omega)]
    simpa using h2
  · exact h.elim
abbrev s_law : Stmt := top 8
theorem sc_law : FnScope ["_law_script", "_law_cell", "_law_width"] ["_law_script"] (defScope s_law) := ⟨rfl, rfl, rfl, by decide +kernel, rfl, by decide +kernel, by decide +kernel⟩
def m_law : TS2 :=
  tSeq2 (tFor2 (iList2 (tVar2 0)) (gName2 1) (tSeq2 (tAsg2 (tOp2 rAddW (tC2 (.int 1)) (tOp2 rModW (tOp2 rModW (tOp2 rMulW (tVar2 1) (tC2 (.int 48271))) (tC2 (.int 2147483647))) (tC2 (.int 16)))) (gName2 2)) (tSeq2 (tIf2 (tNot2 (tTest2 (tCall2 2 [] sp_L_cut (tCons2 (tOp2 rModW (tVar2 1) (tOp2 rPowW (tC2 (.int 10)) (tC2 (.int 60)))) (tCons2 (tVar2 2) (tNil2)))))) (tRet2 (tC2 (.bl false))) (tNext2)) (tIf2 (tNot2 (tTest2 (tCall2 3 [] sp_L_joined (tCons2 (tOp2 rModW (tOp2 rFdivW (tVar2 1) (tC2 (.int 3))) (tOp2 rPowW (tC2 (.int 10)) (tC2 (.int 58)))) (tCons2 (tOp2 rModW (tOp2 rModW (tOp2 rMulW (tVar2 1) (tC2 (.int 69621))) (tC2 (.int 2147483629))) (tVar2 2)) (tCons2 (tVar2 2) (tNil2))))))) (tRet2 (tC2 (.bl false))) (tNext2))))) (tRet2 (tAndV2 (tCall2 2 [] sp_L_cut (tCons2 (tC2 (.int 0)) (tCons2 (tC2 (.int 1)) (tNil2)))) (tCall2 3 [] sp_L_joined (tCons2 (tC2 (.int 0)) (tCons2 (tC2 (.int 0)) (tCons2 (tC2 (.int 16)) (tNil2)))))))
theorem d_law {f : Addr} {fd : FuncData} (F : FunD K "law" "law" (defArgs s_law) (defBody s_law) (defScope s_law) [] [] f fd) (c_L_cut_2 : CallS P w K mg base (G K) "_law_cut" 2 2 [] sp_L_cut) (c_L_joined_3 : CallS P w K mg base (G K) "_law_joined" 2 3 [] sp_L_joined) :
    FnOk P w K mg base (L2.CX P w) 3 f fd ["_law_script"] (spOf (G K) 1 (bodySpec 3 m_law)) :=
  fn_ok F sc_law fun cdv A outer s H E hr => by
    have tk0 : Takes (cxOf (L2.CX P w) P w K mg base ["_law_script", "_law_cell", "_law_width"] "law" (defScope s_law) f cdv A outer s H E) (fun cls d _ H => E cls d H) := takes_of rfl rfl rfl rfl
    have po0 : PassesOwn (model P w) (cxOf (L2.CX P w) P w K mg base ["_law_script", "_law_cell", "_law_width"] "law" (defScope s_law) f cdv A outer s H E).A (cxOf (L2.CX P w) P w K mg base ["_law_script", "_law_cell", "_law_width"] "law" (defScope s_law) f cdv A outer s H E).env (cxOf (L2.CX P w) P w K mg base ["_law_script", "_law_cell", "_law_width"] "law" (defScope s_law) f cdv A outer s H E).xe := passes_of rfl
    exact sss_cons (ss_for po0 rfl (si_list (se_var (i := 0) rfl (by first | exact Or.inl rfl | exact Or.inr (Or.inl rfl) | exact Or.inr (Or.inr rfl)))) (sg_name (i := 1) sc_law.nd rfl (by first | exact Or.inl rfl | exact Or.inr rfl)) (sss_cons (ss_set (i := 2) sc_law.nd rfl (by first | exact Or.inl rfl | exact Or.inr rfl) (se_add (se_int) (se_mod (se_mod (se_mul (se_var (i := 1) rfl (by first | exact Or.inl rfl | exact Or.inr (Or.inl rfl) | exact Or.inr (Or.inr rfl))) (se_int)) (se_int)) (se_int)))) (sss_cons (ss_if (sb_not (sb_val (se_call c_L_cut_2 (hr.mono (by decide)) (by rfl) tk0 (sa_cons (se_mod (se_var (i := 1) rfl (by first | exact Or.inl rfl | exact Or.inr (Or.inl rfl) | exact Or.inr (Or.inr rfl))) (se_pow (se_int) (se_int))) (sa_cons (se_var (i := 2) rfl (by first | exact Or.inl rfl | exact Or.inr (Or.inl rfl) | exact Or.inr (Or.inr rfl))) (sa_nil)))))) (sss_one (ss_ret (se_bl))) (sss_nil)) (sss_one (ss_if (sb_not (sb_val (se_call c_L_joined_3 (hr.mono (by decide)) (by rfl) tk0 (sa_cons (se_mod (se_fdiv (se_var (i := 1) rfl (by first | exact Or.inl rfl | exact Or.inr (Or.inl rfl) | exact Or.inr (Or.inr rfl))) (se_int)) (se_pow (se_int) (se_int))) (sa_cons (se_mod (se_mod (se_mul (se_var (i := 1) rfl (by first | exact Or.inl rfl | exact Or.inr (Or.inl rfl) | exact Or.inr (Or.inr rfl))) (se_int)) (se_int)) (se_var (i := 2) rfl (by first | exact Or.inl rfl | exact Or.inr (Or.inl rfl) | exact Or.inr (Or.inr rfl)))) (sa_cons (se_var (i := 2) rfl (by first | exact Or.inl rfl | exact Or.inr (Or.inl rfl) | exact Or.inr (Or.inr rfl))) (sa_nil))))))) (sss_one (ss_ret (se_bl))) (sss_nil)))))) (sss_one (ss_ret (se_and (se_call c_L_cut_2 (hr.mono (by decide)) (by rfl) tk0 (sa_cons (se_int) (sa_cons (se_int) (sa_nil)))) (se_one (se_call c_L_joined_3 (hr.mono (by decide)) (by rfl) tk0 (sa_cons (se_int) (sa_cons (se_int) (sa_cons (se_int) (sa_nil)))))))))
theorem ok_law : ∀ ws M Q E, ws.length = 1 → sp_law ws M Q E → bodySpec 3 m_law ws M Q E := by
  intro ws M Q E hl h
  unfold sp_law at h
  split at h
  · rename_i xs
    obtain ⟨⟨ns, rfl⟩, h2⟩ := h
    simp only [m_law, bodySpec, tSeq2, tFor2, iList2, tVar2]
    simp
    refine forI_ind (fun xs env M' => M' = M ∧ (∃ ns : List Int, xs = ns.map W.int) ∧ ∃ s v u, env = [s, v, u]) ?_ ?_ _ _ _ ⟨rfl, ⟨ns, rfl⟩, _, _, _, rfl⟩
    · rintro env M' ⟨rfl, _, s, v, u, rfl⟩
      simp [sp_L_cut, sp_L_joined]
      exact h2
    · rintro x r env M' K ⟨rfl, ⟨ns, e⟩, s, v, u, rfl⟩ hK
      cases ns with
      | nil => cases e
      | cons n ns =>
        cases e
        simp [sp_L_cut, sp_L_joined, CMul, CPow, CDiv]
        have h1 := Int.emod_nonneg (n * 69621 % 2147483629) (show 1 + n * 48271 % 2147483647 % 16 ≠ 0 by omega)
        have h3 := Int.emod_lt_of_pos (n * 69621 % 2147483629) (show 0 < 1 + n * 48271 % 2147483647 % 16 by omega)
        exact ⟨by omega, by omega, ⟨by omega, by omega, h1, h3⟩, hK _ _ ⟨rfl, ⟨ns, rfl⟩, _, _, _, rfl⟩⟩
  · exact h.elim
theorem law_true (ns : List Int) (hl : ns.length ≤ 63) : sp_law [.scr (ns.map W.int)] (fun _ => none) (fun w _ => w = .bl true) fun _ _ => False := ⟨⟨ns, rfl⟩, rfl⟩
end
def D_line_of : He.DefD := ⟨("line_of", none), "line_of", "line_of", defArgs s_line_of, defBody s_line_of, defScope s_line_of, [], []⟩
def D_spot_of : He.DefD := ⟨("spot_of", none), "spot_of", "spot_of", defArgs s_spot_of, defBody s_spot_of, defScope s_spot_of, [], []⟩
def D_address_of : He.DefD := ⟨("address_of", none), "address_of", "address_of", defArgs s_address_of, defBody s_address_of, defScope s_address_of, [], []⟩
def D_L_whole : He.DefD := ⟨("_law_whole", none), "_law_whole", "_law_whole", defArgs s_L_whole, defBody s_L_whole, defScope s_L_whole, [], []⟩
def D_L_cut : He.DefD := ⟨("_law_cut", none), "_law_cut", "_law_cut", defArgs s_L_cut, defBody s_L_cut, defScope s_L_cut, [], []⟩
def D_L_joined : He.DefD := ⟨("_law_joined", none), "_law_joined", "_law_joined", defArgs s_L_joined, defBody s_L_joined, defScope s_L_joined, [], []⟩
def D_law : He.DefD := ⟨("law", none), "law", "law", defArgs s_law, defBody s_law, defScope s_law, [], []⟩
def fn : List He.DefD := [D_line_of, D_spot_of, D_address_of, D_L_whole, D_L_cut, D_L_joined, D_law]
def fa : List He.Fa := [.free "isinstance", .free "int", .free "bool", .glo "line_of", .glo "spot_of", .glo "_law_whole", .glo "address_of", .glo "_law_cut", .glo "_law_joined", .glo "law"]
theorem facts {P : Program} {w : World} {K : PySem.W.Frag} {h : Heap} {mg : Str → Option Value} {f : Addr} (X : K.In h) (Gn : h.Ns mainGlobals mg) (hfa : mg ("law" : Str) = some (.ref f)) (c : He.SaysD fa fn K) :
    ∃ fd : FuncData, (∀ (s : Shared) (v : Value), BindsTo s fd ⟨[v], []⟩ [("_law_script", v)]) ∧ ∀ base : Heap, K.In base → base.Ns mainGlobals mg → FnOk P w K mg base (L2.CX P w) 3 f fd ["_law_script"] (spOf (GK K) 1 sp_law) := by
  obtain ⟨fd_line_of, F_line_of⟩ := c.def_ 0 (d := D_line_of) rfl
  obtain ⟨fd_spot_of, F_spot_of⟩ := c.def_ 1 (d := D_spot_of) rfl
  obtain ⟨fd_address_of, F_address_of⟩ := c.def_ 2 (d := D_address_of) rfl
  obtain ⟨fd_L_whole, F_L_whole⟩ := c.def_ 3 (d := D_L_whole) rfl
  obtain ⟨fd_L_cut, F_L_cut⟩ := c.def_ 4 (d := D_L_cut) rfl
  obtain ⟨fd_L_joined, F_L_joined⟩ := c.def_ 5 (d := D_L_joined) rfl
  obtain ⟨fd_law, F_law⟩ := c.def_ 6 (d := D_law) rfl
  have b_isinstance : mg "isinstance" = Option.none := He.free_ok X Gn (c.fact 0 rfl)
  have b_int : mg "int" = Option.none := He.free_ok X Gn (c.fact 1 rfl)
  have b_bool : mg "bool" = Option.none := He.free_ok X Gn (c.fact 2 rfl)
  have e := hfa.symm.trans (He.glo_ok X Gn (c.fact 9 rfl))
  cases e
  have bl := FunD.bindsA (ps := ["_law_script"]) F_law fun _ _ _ _ _ _ us hl => match us, hl with | [_], _ => rfl
  refine ⟨fd_law, fun s v => bl s [v] rfl, fun base _ _ => ?_⟩
  have O_line_of := FnOk.to (d_line_of (P := P) (w := w) (mg := mg) (base := base) F_line_of ) ok_line_of
  have O_spot_of := FnOk.to (d_spot_of (P := P) (w := w) (mg := mg) (base := base) F_spot_of ) ok_spot_of
  have O_address_of := FnOk.to (d_address_of (P := P) (w := w) (mg := mg) (base := base) F_address_of ) ok_address_of
  have O_L_whole := FnOk.to (d_L_whole (P := P) (w := w) (mg := mg) (base := base) F_L_whole b_isinstance b_int b_bool) ok_L_whole
  have c_line_of_2 : CallS P w K mg base (G K) "line_of" 1 2 [] sp_line_of := callS_mk O_line_of (He.glo_ok X Gn (c.fact 3 rfl)) F_line_of.kp (F_line_of.bindsN fun _ _ _ _ _ _ us hl => match us, hl with | [_, _], _ => rfl)
  have c_spot_of_2 : CallS P w K mg base (G K) "spot_of" 1 2 [] sp_spot_of := callS_mk O_spot_of (He.glo_ok X Gn (c.fact 4 rfl)) F_spot_of.kp (F_spot_of.bindsN fun _ _ _ _ _ _ us hl => match us, hl with | [_, _], _ => rfl)
  have c_L_whole_1 : CallS P w K mg base (G K) "_law_whole" 1 1 [] sp_L_whole := callS_mk O_L_whole (He.glo_ok X Gn (c.fact 5 rfl)) F_L_whole.kp (F_L_whole.bindsN fun _ _ _ _ _ _ us hl => match us, hl with | [_], _ => rfl)
  have c_address_of_3 : CallS P w K mg base (G K) "address_of" 1 3 [] sp_address_of := callS_mk O_address_of (He.glo_ok X Gn (c.fact 6 rfl)) F_address_of.kp (F_address_of.bindsN fun _ _ _ _ _ _ us hl => match us, hl with | [_, _, _], _ => rfl)
  have O_L_cut := FnOk.to (d_L_cut (P := P) (w := w) (mg := mg) (base := base) F_L_cut c_line_of_2 c_spot_of_2 c_L_whole_1 c_address_of_3) ok_L_cut
  have O_L_joined := FnOk.to (d_L_joined (P := P) (w := w) (mg := mg) (base := base) F_L_joined c_address_of_3 c_L_whole_1 c_line_of_2 c_spot_of_2) ok_L_joined
  have c_L_cut_2 : CallS P w K mg base (G K) "_law_cut" 2 2 [] sp_L_cut := callS_mk O_L_cut (He.glo_ok X Gn (c.fact 7 rfl)) F_L_cut.kp (F_L_cut.bindsN fun _ _ _ _ _ _ us hl => match us, hl with | [_, _], _ => rfl)
  have c_L_joined_3 : CallS P w K mg base (G K) "_law_joined" 2 3 [] sp_L_joined := callS_mk O_L_joined (He.glo_ok X Gn (c.fact 8 rfl)) F_L_joined.kp (F_L_joined.bindsN fun _ _ _ _ _ _ us hl => match us, hl with | [_, _, _], _ => rfl)
  have O_law := FnOk.to (d_law (P := P) (w := w) (mg := mg) (base := base) F_law c_L_cut_2 c_L_joined_3) ok_law
  exact O_law
abbrev R : PySem.W.OpenRow := PySem.W.OpenLaw.row PySem.Challenge.rw_linewarden_k01_an_address_cut
abbrev hk : PySem.W.Hook := He.hookD 4 fa fn
def ob (s : PySem.W.SharedT) : He.AlD := He.obsDG 4 fa fn (HandSHeadRun.getT s)
theorem ob_eq (s : PySem.W.SharedT) : ob s = hk.obs s.abs := He.obsDG_eq (HandSHeadRun.getT_eq s)
def loose0 : List PySem.Str := ["line_of", "spot_of", "address_of", "_law_whole", "_law_cut", "_law_joined"]
def loose : List PySem.Str := loose0
theorem run (w : World) : HandSHeadRun.RunEq R (PySem.W.view R.prog [8]) hk ob 4000 loose w := by
  intro os
  kernel_rfl
end K01
open PySem PySem.W PySem.Calls PyProof.Rows
theorem PySem.Challenge.cw_linewarden_k01_an_address_cut_holds : PySem.Challenge.rw_linewarden_k01_an_address_cut.Holds := by
  w_on; o_law
  refine HandSHeadRun.head_any (r := OpenLaw.row PySem.Challenge.rw_linewarden_k01_an_address_cut) (q := view (OpenLaw.row PySem.Challenge.rw_linewarden_k01_an_address_cut).prog [8]) (H := K01.hk) (ob := K01.ob) (M := 4000) (loose := K01.loose) (d := HandSHeadRun.topDef (OpenLaw.row PySem.Challenge.rw_linewarden_k01_an_address_cut).prog 8) (kwd := []) K01.ob_eq
    (by kernel_rfl) (fun s => by kernel_rfl) K01.run (by kernel_rfl) (by kernel_rfl) (by kernel_rfl) (by rfl) (by first | assumption | decide +kernel) (by decide +kernel) ⟨rfl, rfl, rfl, rfl, rfl, by decide +kernel⟩ ?hw ?hc
  case hw => w_witness2
  case hc =>
    refine LW.walk_ofX (l := PySem.Challenge.rw_linewarden_k01_an_address_cut) (n := 63) (k := 3) (x := "_law_script") rfl (by decide) (by kernel_rfl) ⟨rfl, by decide, by decide⟩ ?F
    intro w mg fa h Y G hmg0
    obtain ⟨K, KX, c⟩ := Y
    have hmg : mg ("law" : PySem.Str) = some (.ref fa) := by
      have e : (HandSHeadRun.topDef (OpenLaw.row PySem.Challenge.rw_linewarden_k01_an_address_cut).prog 8).name = ("law" : PySem.Str) := by kernel_rfl
      rw [← e]
      exact hmg0
    obtain ⟨fd, hb, hF⟩ := K01.facts (P := (PySem.Challenge.rw_linewarden_k01_an_address_cut).prog) (w := w) KX G hmg c
    exact ⟨K, fd, K01.sp_law, KX, hb, K01.law_true, hF⟩
#print axioms PySem.Challenge.cw_linewarden_k01_an_address_cut_holds

