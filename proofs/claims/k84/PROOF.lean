import PyProof.Rows.All
import Wide.All
import OpenK.AllK
import Wide.FinOn
import KE.KStateDown
import Lean
import HandS.ForMost
import HandS.Exc
import HandS.TryMany
import HandS.CallSlots
import HandS.Star
import HandS.Deep
import HandS.TupAny
import HandS.WordsExc
import HandS.Lambda
import HandS.TupMul
import HandS.Walk
import HandS.More
import HandS.IsInst
import HandS.Flow
import HandS.Style
import HandS.Zip
import HandS.Strs
import KE.DataEq
import HandS.Dict
import KE.KDictPairs
import HandS.ExcInit
import HandS.DeepEq
import HandS.EndTab
import HandS.HeadWalk
import HandS.HeadHook4
import HandS.Head0
import HandS.Head1
import HandS.Head2
import HandS.HeadEnd
import PySem.Challenge.RW_neverheaps_k84_promises_as_senders
set_option Elab.async false
set_option linter.all false
set_option maxRecDepth 100000
set_option maxHeartbeats 9000000
/-! NhCore: the plain machine. Values are plain trees (PyData); a slot of a def holds nothing, a value that nobody changes (fz), a list of one's own (ow), or a list that was handed in to be changed (rf).
EM: what an expression or a statement does to the slots. -/
namespace NH
open PySem Spec PyProof.Rows L2

abbrev D := PyData
/-- an exception of an own class: its name, its fields -/
structure Exn where
  cls : Str
  fld : List (Str × D)
inductive Sl where
  | un
  | fz (d : D)
  | ow (k : Nat) (d : D)
  | rf (t k : Nat) (d : D)
  | ro (t : Nat) (d : D)
  | kn (t : Nat)
abbrev Env' := List Sl
abbrev EM (α : Type) := Env' → Option (Except Exn α × Env')
namespace EM
def ret {α : Type} (a : α) : EM α := fun ρ => some (.ok a, ρ)
def bnd {α β : Type} (m : EM α) (f : α → EM β) : EM β := fun ρ =>
  match m ρ with
  | some (.ok a, ρ') => f a ρ'
  | some (.error x, ρ') => some (.error x, ρ')
  | none => none
def opt {α : Type} (o : Option α) : EM α := fun ρ => match o with
  | some a => some (.ok a, ρ)
  | none => none
def stuck {α : Type} : EM α := fun _ => none
def raise {α : Type} (x : Exn) : EM α := fun ρ => some (.error x, ρ)
theorem bnd_ok {α β : Type} {m : EM α} {f : α → EM β} {ρ ρ' : Env'} {a : α} (h : m ρ = some (.ok a, ρ')) : bnd m f ρ = f a ρ' := by
  unfold bnd; rw [h]
theorem bnd_err {α β : Type} {m : EM α} {f : α → EM β} {ρ ρ' : Env'} {x : Exn} (h : m ρ = some (.error x, ρ')) : bnd m f ρ = some (.error x, ρ') := by
  unfold bnd; rw [h]
theorem bnd_none {α β : Type} {m : EM α} {f : α → EM β} {ρ : Env'} (h : m ρ = none) : bnd m f ρ = none := by
  unfold bnd; rw [h]
/-- what a bind's end says of its parts -/
theorem bnd_inv {α β : Type} {m : EM α} {f : α → EM β} {ρ ρ' : Env'} {r : Except Exn β} (h : bnd m f ρ = some (r, ρ')) :
    (∃ a ρ1, m ρ = some (.ok a, ρ1) ∧ f a ρ1 = some (r, ρ')) ∨ ∃ x, m ρ = some (.error x, ρ') ∧ r = .error x := by
  unfold bnd at h
  split at h
  · rename_i a ρ1 e
    exact .inl ⟨a, ρ1, e, h⟩
  · rename_i x ρ1 e
    cases h
    exact .inr ⟨x, e, rfl⟩
  · cases h
theorem opt_inv {α : Type} {o : Option α} {ρ ρ' : Env'} {r : Except Exn α} (h : opt o ρ = some (r, ρ')) : ∃ a, o = some a ∧ r = .ok a ∧ ρ' = ρ := by
  unfold opt at h
  split at h
  · rename_i a
    cases h
    exact ⟨a, rfl, rfl, rfl⟩
  · cases h
end EM
open EM

def slot (ρ : Env') (i : Nat) : Sl := ρ.getD i .un
/-- a name read as a value: one's own list is given away, and not changed any more -/
def nm (i : Nat) : EM D := fun ρ => match slot ρ i with
  | .fz d => some (.ok d, ρ)
  | .ow _ d => some (.ok d, ρ.set i (.fz d))
  | _ => none
/-- a name read where it stands: its value is not kept -/
def bn (i : Nat) : EM D := fun ρ => match slot ρ i with
  | .fz d => some (.ok d, ρ)
  | .ow k d => if k = 1 then some (.ok d, ρ) else none
  | .rf _ k d => if k = 1 then some (.ok d, ρ) else none
  | _ => none
def lit (d : D) : EM D := ret d
/-- the slot has a value -/
def chk {α : Type} (i : Nat) (m : EM α) : EM α := fun ρ => match slot ρ i with
  | .un => none
  | _ => m ρ

/-- an operand: an expression, or a name read where it stands -/
inductive Opd where
  | ex (m : EM D)
  | sl (i : Nat)
def Opd.one : Opd → EM (Option D)
  | .ex m => bnd m fun d => ret (some d)
  | .sl i => chk i (ret none)
def Opd.two : Opd → Option D → EM D
  | .ex _, some d => ret d
  | .ex _, none => stuck
  | .sl i, _ => bn i
def bin (a b : Opd) (op : D → D → Option D) : EM D := bnd a.one fun x => bnd b.one fun y => bnd (a.two x) fun x => bnd (b.two y) fun y => opt (op x y)
def un1 (a : Opd) (op : D → Option D) : EM D := bnd a.one fun x => bnd (a.two x) fun x => opt (op x)
end NH

/-! NhSim: how the plain machine's slots lie in the heap. Z: the objects that nobody changes any more; Fs i: the objects that slot i owns. -/
namespace NH
open PySem Spec PyProof.Rows L2

abbrev AP' := Addr → Prop
def keyD : Key → D
  | .inl i => .int i
  | .inr x => .str x
/-- a dict's object: its keys as data, its values -/
inductive DObj : HO → List (D × V) → Prop
  | k (kvs : List (Key × V)) : DObj (.dK kvs) (kvs.map fun p => (keyD p.1, p.2))
  | t (kvs : List (List Key × V)) : DObj (.dT kvs) (kvs.map fun p => (.tuple (p.1.map keyD), p.2))
/-- a list of the module's written part -/
def Kl (K : PySem.W.Frag) (a : Addr) (xs : List V) : Prop :=
  ∃ (o : Obj) (its : Array Value) (n : Nat), K.lookup a = some o ∧ o.cls = .type "list" ∧ o.dict = none ∧ o.data = .seq its n ∧ its.size ≤ sizeLine ∧ Vals xs its.toList
def FzL (Z : AP') (H : Hp) (a : Addr) (xs : List V) : Prop := Z a ∧ H a = some (.lst xs)
/-- a list that is read alone (the script) -/
def RoL (K : PySem.W.Frag) (Z : AP') (H : Hp) (a : Addr) (xs : List V) : Prop := (Z a ∧ Rd H a (.lst xs)) ∨ Kl K a xs
def FzD (Z : AP') (H : Hp) (a : Addr) (es : List (D × V)) : Prop := Z a ∧ ∃ o, H a = some o ∧ DObj o es
theorem FzL.seq {K : PySem.W.Frag} {Z : AP'} {H : Hp} {a : Addr} {xs : List V} (h : FzL Z H a xs) : SqL K H a xs := .of h.2
theorem RoL.seq {K : PySem.W.Frag} {Z : AP'} {H : Hp} {a : Addr} {xs : List V} (h : RoL K Z H a xs) : SqL K H a xs := h.elim (fun h => .inl h.2) .inr

def isStrD : D → Bool
  | .str _ => true
  | _ => false
/-- a tuple of names -/
def StrT (ds : List D) : Bool := !ds.isEmpty && ds.all isStrD
/-- a tuple of names is known to be a plain one (it has no dict of its own); any other may be a dict's key -/
def TpR (H : Hp) (a : Addr) (xs : List V) (b : Bool) : Prop := if b = true then ∃ o, H a = some (.frz o (.tup xs)) ∧ o.cls = .type "tuple" ∧ o.dict = none else H a = some (.tup xs)
theorem TpR.sq {K : PySem.W.Frag} {H : Hp} {a : Addr} {xs : List V} {b : Bool} (h : TpR H a xs b) : SqT K H a xs := by
  unfold TpR at h
  split at h
  · obtain ⟨o, e, _⟩ := h
    exact .inl (.inr ⟨o, e⟩)
  · exact SqT.of h
mutual
/-- the value v is the tree d, all of whose lists and dicts are in Z -/
inductive Rp (K : PySem.W.Frag) (Z : AP') (H : Hp) : V → D → Prop
  | non : Rp K Z H .non .none
  | bl (b : Bool) : Rp K Z H (.bl b) (.bool b)
  | int (i : Int) : Rp K Z H (.int i) (.int i)
  | str (x : Str) : Rp K Z H (.str x) (.str x)
  | lst {a : Addr} {xs : List V} {ds : List D} : FzL Z H a xs → RpAll K Z H xs ds → Rp K Z H (.ref a) (.list ds)
  | tup {a : Addr} {xs : List V} {ds : List D} : TpR H a xs (StrT ds) → RpAll K Z H xs ds → Rp K Z H (.ref a) (.tuple ds)
  | dct {a : Addr} {es : List (D × V)} {kvs : List (D × D)} : FzD Z H a es → es.map (·.1) = kvs.map (·.1) → RpAll K Z H (es.map (·.2)) (kvs.map (·.2)) → Rp K Z H (.ref a) (.dict kvs)
inductive RpAll (K : PySem.W.Frag) (Z : AP') (H : Hp) : List V → List D → Prop
  | nil : RpAll K Z H [] []
  | cons {v : V} {vs : List V} {d : D} {ds : List D} : Rp K Z H v d → RpAll K Z H vs ds → RpAll K Z H (v :: vs) (d :: ds)
end
/-- an object that may be changed -/
def LD (o : HO) : Prop := (∃ xs, o = .lst xs) ∨ ∃ es, DObj o es
def nt (o : HO) : Prop := ∀ ps, o ≠ .tbl ps
/-- what may be read as it could be -/
structure Keeps (Z Z' : AP') (H H' : Hp) : Prop where
  ls : ∀ a xs, Z a → H a = some (.lst xs) → H' a = some (.lst xs)
  rl : ∀ a xs, Z a → Rd H a (.lst xs) → Rd H' a (.lst xs)
  dc : ∀ a o es, Z a → DObj o es → H a = some o → H' a = some o
  tp : ∀ a xs, H a = some (.tup xs) → H' a = some (.tup xs)
  zz : ∀ a, Z a → Z' a
  fr : ∀ a o u, H a = some (.frz o u) → H' a = some (.frz o u)
  ks : ∀ a o, H a = some o → ¬ LD o → nt o → H' a = some o
theorem Keeps.tpR {Z Z' : AP'} {H H' : Hp} {a : Addr} {xs : List V} {b : Bool} (k : Keeps Z Z' H H') (h : TpR H a xs b) : TpR H' a xs b := by
  unfold TpR at h ⊢
  split at h
  · rename_i e
    rw [if_pos e]
    obtain ⟨o, e, r⟩ := h
    exact ⟨o, k.fr _ _ _ e, r⟩
  · rename_i e
    rw [if_neg e]
    exact k.tp _ _ h
theorem Keeps.sqT {K : PySem.W.Frag} {Z Z' : AP'} {H H' : Hp} {a : Addr} {xs : List V} (k : Keeps Z Z' H H') (h : SqT K H a xs) : SqT K H' a xs := h.elim (fun h => .inl (h.elim (fun h => .inl (k.tp _ _ h)) fun ⟨o, h⟩ => .inr ⟨o, k.fr _ _ _ h⟩)) .inr
theorem Keeps.fzL {Z Z' : AP'} {H H' : Hp} {a : Addr} {xs : List V} (k : Keeps Z Z' H H') (h : FzL Z H a xs) : FzL Z' H' a xs := ⟨k.zz _ h.1, k.ls _ _ h.1 h.2⟩
theorem Keeps.roL {K : PySem.W.Frag} {Z Z' : AP'} {H H' : Hp} {a : Addr} {xs : List V} (k : Keeps Z Z' H H') (h : RoL K Z H a xs) : RoL K Z' H' a xs := h.elim (fun h => .inl ⟨k.zz _ h.1, k.rl _ _ h.1 h.2⟩) .inr
theorem Keeps.fzD {Z Z' : AP'} {H H' : Hp} {a : Addr} {es : List (D × V)} (k : Keeps Z Z' H H') (h : FzD Z H a es) : FzD Z' H' a es := by
  obtain ⟨z, o, r, d⟩ := h
  exact ⟨k.zz _ z, o, k.dc _ _ _ z d r, d⟩
theorem Keeps.trans {Z Z1 Z2 : AP'} {H H1 H2 : Hp} (a : Keeps Z Z1 H H1) (b : Keeps Z1 Z2 H1 H2) : Keeps Z Z2 H H2 :=
  ⟨fun x u z r => b.ls x u (a.zz x z) (a.ls x u z r), fun x u z r => b.rl x u (a.zz x z) (a.rl x u z r), fun x u es z d r => b.dc x u es (a.zz x z) d (a.dc x u es z d r), fun x xs r => b.tp x xs (a.tp x xs r), fun x z => b.zz x (a.zz x z), fun x o u r => b.fr x o u (a.fr x o u r), fun x o r l n => b.ks x o (a.ks x o r l n) l n⟩
theorem Keeps.refl (Z : AP') (H : Hp) : Keeps Z Z H H := ⟨fun _ _ _ r => r, fun _ _ _ r => r, fun _ _ _ _ _ r => r, fun _ _ r => r, fun _ z => z, fun _ _ _ r => r, fun _ _ r _ _ => r⟩
section
variable {K : PySem.W.Frag} {Z Z' : AP'} {H H' : Hp}
mutual
theorem Rp.keep (k : Keeps Z Z' H H') : ∀ (d : D) (v : V), Rp K Z H v d → Rp K Z' H' v d
  | .none, _, h => by cases h; exact .non
  | .bool b, _, h => by cases h; exact .bl b
  | .int i, _, h => by cases h; exact .int i
  | .str x, _, h => by cases h; exact .str x
  | .list ds, _, h => by
    cases h with
    | lst h1 h2 => exact .lst (k.fzL h1) (RpAll.keep k ds _ h2)
  | .tuple ds, _, h => by
    cases h with
    | tup h1 h2 => exact .tup (k.tpR h1) (RpAll.keep k ds _ h2)
  | .dict kvs, _, h => by
    cases h with
    | dct h1 h2 h3 => exact .dct (k.fzD h1) h2 (RpKv.keep k kvs _ h3)
theorem RpAll.keep (k : Keeps Z Z' H H') : ∀ (ds : List D) (vs : List V), RpAll K Z H vs ds → RpAll K Z' H' vs ds
  | [], _, h => by cases h; exact .nil
  | d :: ds, _, h => by
    cases h with
    | cons h1 h2 => exact .cons (Rp.keep k d _ h1) (RpAll.keep k ds _ h2)
theorem RpKv.keep (k : Keeps Z Z' H H') : ∀ (ds : List (D × D)) (vs : List V), RpAll K Z H vs (ds.map (·.2)) → RpAll K Z' H' vs (ds.map (·.2))
  | [], _, h => by cases h; exact .nil
  | (_, d) :: ds, _, h => by
    cases h with
    | cons h1 h2 => exact .cons (Rp.keep k d _ h1) (RpKv.keep k ds _ h2)
end
theorem Rp.up (h : ∀ a, Z a → Z' a) {v : V} {d : D} (r : Rp K Z H v d) : Rp K Z' H v d := r.keep ⟨fun _ _ _ x => x, fun _ _ _ x => x, fun _ _ _ _ _ x => x, fun _ _ x => x, h, fun _ _ _ x => x, fun _ _ x _ _ => x⟩
theorem RpAll.length : ∀ {ds : List D} {vs : List V}, RpAll K Z H vs ds → vs.length = ds.length
  | _, _, .nil => rfl
  | _, _, .cons _ t => by simp [RpAll.length t]
theorem RpAll.get : ∀ {ds : List D} {vs : List V} {i : Nat} {d : D}, RpAll K Z H vs ds → ds[i]? = some d → ∃ v, vs[i]? = some v ∧ Rp K Z H v d
  | _, _, _, _, .nil, e => by simp at e
  | _, _, 0, _, .cons r _, e => by simp at e; subst e; exact ⟨_, rfl, r⟩
  | _, _, i + 1, _, .cons _ t, e => by
    obtain ⟨v, h1, h2⟩ := RpAll.get (i := i) t (by simpa using e)
    exact ⟨v, by simpa using h1, h2⟩
theorem RpAll.getV : ∀ {ds : List D} {vs : List V} {i : Nat} {v : V}, RpAll K Z H vs ds → vs[i]? = some v → ∃ d, ds[i]? = some d ∧ Rp K Z H v d
  | _, _, _, _, .nil, e => by simp at e
  | _, _, 0, _, .cons r _, e => by simp at e; subst e; exact ⟨_, rfl, r⟩
  | _, _, i + 1, _, .cons _ t, e => by
    obtain ⟨v, h1, h2⟩ := RpAll.getV (i := i) t (by simpa using e)
    exact ⟨v, by simpa using h1, h2⟩
theorem RpAll.append : ∀ {ds es : List D} {vs us : List V}, RpAll K Z H vs ds → RpAll K Z H us es → RpAll K Z H (vs ++ us) (ds ++ es)
  | _, _, _, _, .nil, s => s
  | _, _, _, _, .cons r t, s => .cons r (t.append s)
theorem RpAll.take : ∀ {ds : List D} {vs : List V} (n : Nat), RpAll K Z H vs ds → RpAll K Z H (vs.take n) (ds.take n)
  | _, _, 0, _ => .nil
  | _, _, _ + 1, .nil => .nil
  | _, _, n + 1, .cons r t => .cons r (t.take n)
theorem RpAll.drop : ∀ {ds : List D} {vs : List V} (n : Nat), RpAll K Z H vs ds → RpAll K Z H (vs.drop n) (ds.drop n)
  | _, _, 0, r => r
  | _, _, _ + 1, .nil => .nil
  | _, _, n + 1, .cons _ t => t.drop n
theorem RpAll.set : ∀ {ds : List D} {vs : List V} {v : V} {d : D} (i : Nat), RpAll K Z H vs ds → Rp K Z H v d → RpAll K Z H (vs.set i v) (ds.set i d)
  | _, _, _, _, _, .nil, _ => .nil
  | _, _, _, _, 0, .cons _ t, q => .cons q t
  | _, _, _, _, i + 1, .cons r t, q => .cons r (t.set i q)
theorem RpAll.rev {ds : List D} {vs : List V} (r : RpAll K Z H vs ds) : RpAll K Z H vs.reverse ds.reverse := by
  induction ds generalizing vs with
  | nil => cases r; exact .nil
  | cons d ds ih =>
    cases r with
    | cons r t => rw [List.reverse_cons, List.reverse_cons]; exact (ih t).append (.cons r .nil)
theorem RpAll.eraseIdx : ∀ {ds : List D} {vs : List V} (i : Nat), RpAll K Z H vs ds → RpAll K Z H (vs.eraseIdx i) (ds.eraseIdx i)
  | _, _, _, .nil => .nil
  | _, _, 0, .cons _ t => t
  | _, _, i + 1, .cons r t => .cons r (t.eraseIdx i)
theorem RpAll.insert {ds : List D} {vs : List V} {v : V} {d : D} (i : Nat) (r : RpAll K Z H vs ds) (q : Rp K Z H v d) : RpAll K Z H (vs.take i ++ v :: vs.drop i) (ds.take i ++ d :: ds.drop i) :=
  (r.take i).append (.cons q (r.drop i))
theorem RpAll.ints : ∀ {ns : List Int} {vs : List V}, RpAll K Z H vs (ns.map PyData.int) → vs = ns.map V.int
  | [], _, h => by cases h; rfl
  | n :: ns, _, h => by
    cases h with
    | cons r t => cases r; rw [RpAll.ints (ns := ns) t]; rfl
theorem RpAll.of_ints : ∀ (ns : List Int), RpAll K Z H (ns.map V.int) (ns.map PyData.int)
  | [] => .nil
  | n :: ns => .cons (.int n) (RpAll.of_ints ns)
end

/-! ### one's own lists -/
/-- items and what they own -/
inductive OwL (R : V → D → List Addr → Prop) : List V → List D → List Addr → Prop
  | nil : OwL R [] [] []
  | cons {v : V} {d : D} {F : List Addr} {vs : List V} {ds : List D} {G : List Addr} : R v d F → OwL R vs ds G → OwL R (v :: vs) (d :: ds) (F ++ G)
/-- v is the tree d; the lists of its first k levels are one's own, at the addresses F; all else is in Z -/
def Ow (K : PySem.W.Frag) (Z : AP') (H : Hp) : Nat → V → D → List Addr → Prop
  | 0, v, d, F => Rp K Z H v d ∧ F = []
  | k + 1, v, .list ds, F => ∃ a xs G, v = .ref a ∧ H a = some (.lst xs) ∧ OwL (Ow K Z H k) xs ds G ∧ F = a :: G
  | k + 1, v, .dict kvs, F => ∃ a o es G, v = .ref a ∧ H a = some o ∧ DObj o es ∧ es.map (·.1) = kvs.map (·.1) ∧ OwL (Ow K Z H k) (es.map (·.2)) (kvs.map (·.2)) G ∧ F = a :: G
  | _ + 1, v, d, F => Rp K Z H v d ∧ F = []
theorem LD.mut {o : HO} (h : LD o) : Mut (some o) := by
  rcases h with ⟨xs, rfl⟩ | ⟨es, h⟩
  · trivial
  · cases h <;> trivial
theorem LD.nt {o : HO} (h : LD o) : ∀ ps, o ≠ .tbl ps := fun ps e => by
  subst e
  rcases h with ⟨xs, h⟩ | ⟨es, h⟩
  · cases h
  · cases h
theorem LD.ntup {o : HO} (h : LD o) : ∀ xs, o ≠ .tup xs := fun ps e => by
  subst e
  rcases h with ⟨xs, h⟩ | ⟨es, h⟩
  · cases h
  · cases h
theorem LD.nfrz {o : HO} (h : LD o) : ∀ ob u, o ≠ .frz ob u := fun ob u e => by
  subst e
  rcases h with ⟨xs, h⟩ | ⟨es, h⟩
  · cases h
  · cases h
section
variable {K : PySem.W.Frag} {Z Z' : AP'} {H H' : Hp}
theorem OwL.mem {R : V → D → List Addr → Prop} {P : Addr → Prop} (hR : ∀ v d F, R v d F → ∀ a ∈ F, P a) : ∀ {vs : List V} {ds : List D} {F : List Addr}, OwL R vs ds F → ∀ a ∈ F, P a
  | _, _, _, .nil, a, ha => by simp at ha
  | _, _, _, .cons r t, a, ha => (List.mem_append.mp ha).elim (hR _ _ _ r a) (OwL.mem hR t a)
theorem Ow.obj : ∀ {k : Nat} {v : V} {d : D} {F : List Addr}, Ow K Z H k v d F → ∀ a ∈ F, ∃ o, H a = some o ∧ LD o := by
  intro k
  induction k with
  | zero =>
    intro v d F h a ha
    obtain ⟨_, rfl⟩ := h
    simp at ha
  | succ k ih =>
    intro v d F h a ha
    cases d with
    | list ds =>
      obtain ⟨b, xs, G, rfl, hb, hG, rfl⟩ := h
      rcases List.mem_cons.mp ha with e | ha
      · subst e; exact ⟨_, hb, .inl ⟨_, rfl⟩⟩
      · exact OwL.mem (fun v d F r => ih r) hG a ha
    | dict kvs =>
      obtain ⟨b, o, es, G, rfl, hb, ho, _, hG, rfl⟩ := h
      rcases List.mem_cons.mp ha with e | ha
      · subst e; exact ⟨_, hb, .inr ⟨_, ho⟩⟩
      · exact OwL.mem (fun v d F r => ih r) hG a ha
    | _ => obtain ⟨_, rfl⟩ := h; simp at ha
theorem OwL.imp {R R' : V → D → List Addr → Prop} : ∀ {vs : List V} {ds : List D} {F : List Addr}, OwL R vs ds F → (∀ v d G, R v d G → (∀ a ∈ G, a ∈ F) → R' v d G) → OwL R' vs ds F
  | _, _, _, .nil, _ => .nil
  | _, _, _, .cons r t, h => .cons (h _ _ _ r fun a ha => List.mem_append_left _ ha) (OwL.imp t fun v d G r q => h v d G r fun a ha => List.mem_append_right _ (q a ha))
theorem Ow.keep (kp : Keeps Z Z' H H') : ∀ {k : Nat} {v : V} {d : D} {F : List Addr}, Ow K Z H k v d F → (∀ a ∈ F, ∀ o, H a = some o → H' a = some o) → Ow K Z' H' k v d F := by
  intro k
  induction k with
  | zero =>
    intro v d F h _
    exact ⟨h.1.keep kp, h.2⟩
  | succ k ih =>
    intro v d F h hF
    cases d with
    | list ds =>
      obtain ⟨b, xs, G, rfl, hb, hG, rfl⟩ := h
      exact ⟨b, xs, G, rfl, hF b List.mem_cons_self _ hb, hG.imp fun v d F' r q => ih r fun a ha => hF a (List.mem_cons_of_mem _ (q a ha)), rfl⟩
    | dict kvs =>
      obtain ⟨b, o, es, G, rfl, hb, ho, he, hG, rfl⟩ := h
      exact ⟨b, o, es, G, rfl, hF b List.mem_cons_self _ hb, ho, he, hG.imp fun v d F' r q => ih r fun a ha => hF a (List.mem_cons_of_mem _ (q a ha)), rfl⟩
    | _ => exact ⟨h.1.keep kp, h.2⟩
/-- one's own list is given away -/
theorem OwL.all {R : V → D → List Addr → Prop} (hR : ∀ v d F, R v d F → (∀ a ∈ F, Z a) → Rp K Z H v d) : ∀ {vs : List V} {ds : List D} {F : List Addr}, OwL R vs ds F → (∀ a ∈ F, Z a) → RpAll K Z H vs ds
  | _, _, _, .nil, _ => .nil
  | _, _, _, .cons r t, h => .cons (hR _ _ _ r fun a ha => h a (List.mem_append_left _ ha)) (OwL.all hR t fun a ha => h a (List.mem_append_right _ ha))
theorem Ow.give : ∀ {k : Nat} {v : V} {d : D} {F : List Addr}, Ow K Z H k v d F → (∀ a, Z a → Z' a) → (∀ a ∈ F, Z' a) → Rp K Z' H v d := by
  intro k
  induction k with
  | zero =>
    intro v d F h hz _
    exact h.1.up hz
  | succ k ih =>
    intro v d F h hz hF
    cases d with
    | list ds =>
      obtain ⟨b, xs, G, rfl, hb, hG, rfl⟩ := h
      refine .lst ⟨hF b List.mem_cons_self, hb⟩ ?_
      exact OwL.all (Z := Z') (fun v d F r q => ih r hz q) hG fun a ha => hF a (List.mem_cons_of_mem _ ha)
    | dict kvs =>
      obtain ⟨b, o, es, G, rfl, hb, ho, he, hG, rfl⟩ := h
      refine .dct ⟨hF b List.mem_cons_self, o, hb, ho⟩ he ?_
      exact OwL.all (Z := Z') (fun v d F r q => ih r hz q) hG fun a ha => hF a (List.mem_cons_of_mem _ ha)
    | _ => exact h.1.up hz
theorem OwL.zero : ∀ {vs : List V} {ds : List D} {F : List Addr}, OwL (Ow K Z H 0) vs ds F → F = [] ∧ RpAll K Z H vs ds
  | _, _, _, .nil => ⟨rfl, .nil⟩
  | _, _, _, .cons ⟨r, e⟩ t => by
    obtain ⟨e2, q⟩ := OwL.zero t
    subst e; subst e2
    exact ⟨rfl, .cons r q⟩
theorem OwL.of_all : ∀ {vs : List V} {ds : List D}, RpAll K Z H vs ds → OwL (Ow K Z H 0) vs ds []
  | _, _, .nil => .nil
  | _, _, .cons r t => OwL.cons (F := []) ⟨r, rfl⟩ (OwL.of_all t)
/-- level one: the list itself -/
theorem Ow.one {v : V} {ds : List D} {F : List Addr} (h : Ow K Z H 1 v (.list ds) F) : ∃ a xs, v = .ref a ∧ H a = some (.lst xs) ∧ RpAll K Z H xs ds ∧ F = [a] := by
  obtain ⟨a, xs, G, rfl, ha, hG, rfl⟩ := h
  obtain ⟨rfl, q⟩ := hG.zero
  exact ⟨a, xs, rfl, ha, q, rfl⟩
theorem Ow.mk1 {a : Addr} {xs : List V} {ds : List D} (h : H a = some (.lst xs)) (r : RpAll K Z H xs ds) : Ow K Z H 1 (.ref a) (.list ds) [a] := ⟨a, xs, [], rfl, h, .of_all r, rfl⟩
end

/-! ### the slots -/
/-- what is fixed while a def runs: the written part, the globals, the tables of code, the values that were handed in to be changed -/
structure Fix where
  K : PySem.W.Frag
  mg : Str → Option Value
  T : List (Addr × Str)
  tv : Nat → V
  kf : Nat → List (Addr × HO)
def SlR (C : Fix) (Z : AP') (H : Hp) (s : Sl) (ov : Option (Option V)) (F : List Addr) : Prop := match s with
  | .un => F = []
  | .fz d => F = [] ∧ ∃ v, ov = some (some v) ∧ Rp C.K Z H v d
  | .ow k d => ∃ v, ov = some (some v) ∧ Ow C.K Z H k v d F
  | .rf t k d => ov = some (some (C.tv t)) ∧ Ow C.K Z H k (C.tv t) d F
  | .ro t d => F = [] ∧ ov = some (some (C.tv t)) ∧ ∃ a xs ds, C.tv t = .ref a ∧ d = .list ds ∧ RoL C.K Z H a xs ∧ RpAll C.K Z H xs ds
  | .kn t => F = [] ∧ ov = some (some (C.tv t)) ∧ ∀ p ∈ C.kf t, H p.1 = some p.2 ∧ ¬ LD p.2 ∧ nt p.2
theorem tabs_upd {T : List (Addr × Str)} {H : Hp} {a : Addr} {o o' : HO} (t : LamX.Tabs T H) (h : H a = some o) (l : LD o) : LamX.Tabs T (upd H a o') := fun p hp => by
  obtain ⟨ps, h1, h2, h3⟩ := t p hp
  have n1 : p.1 ≠ a := fun e => by rw [e, h] at h1; cases h1; exact l.nt _ rfl
  refine ⟨ps, by rw [upd_ne n1]; exact h1, h2, fun pos cv hc => ?_⟩
  obtain ⟨c, e1, e2⟩ := h3 pos cv hc
  have n2 : c ≠ a := fun e => by
    rw [e, h] at e2
    rcases l with ⟨xs, rfl⟩ | ⟨es, l⟩
    · cases e2
    · cases l <;> cases e2
  exact ⟨c, e1, by rw [upd_ne n2]; exact e2⟩
/-- the tables of code -/
def TbO (T : List (Addr × Str)) (H : Hp) : Prop := LamX.Tabs T H
theorem TbO.new {T : List (Addr × Str)} {H : Hp} {p : Addr} {o : HO} (t : TbO T H) (hp : H p = none) (hn : nt o) : TbO T (upd H p o) := LamX.Tabs.ext t fun a u h => by rw [upd_ne (ne_of_none h hp)]; exact h
theorem TbO.set {T : List (Addr × Str)} {H : Hp} {a : Addr} {o o' : HO} (t : TbO T H) (h : H a = some o) (l : LD o) (hn : nt o' := by intro ps z; cases z) : TbO T (upd H a o') := tabs_upd t h l
/-- nothing stands there but perhaps a table of code -/
def NoO (H : Hp) (a : Addr) : Prop := ∀ o, H a = some o → ¬ nt o
theorem NoO.of {H : Hp} {a : Addr} (h : H a = none) : NoO H a := fun o e => by rw [h] at e; cases e
theorem NoO.lst {H : Hp} {a : Addr} {xs : List V} (h : NoO H a) (e : H a = some (.lst xs)) : False := h _ e fun ps z => by cases z
theorem LD.no {H : Hp} {a : Addr} {o : HO} (l : LD o) (h : NoO H a) (e : H a = some o) : False := h _ e l.nt
structure Sim (C : Fix) (Z : AP') (Fs : Nat → List Addr) (ρ : Env') (σ : L2.St) (H : Hp) : Prop where
  sl : ∀ i, SlR C Z H (slot ρ i) σ[i]? (Fs i)
  nd : ∀ i, (Fs i).Nodup
  dj : ∀ i j a, a ∈ Fs i → a ∈ Fs j → i = j
  zf : ∀ i a, a ∈ Fs i → ¬ Z a
  zin : ∀ a, Z a → ∃ o, H a = some o ∧ nt o
  tb : TbO C.T H
  len : ρ.length = σ.length
def InF (Fs : Nat → List Addr) : AP' := fun a => ∃ i, a ∈ Fs i
/-- what a step leaves: all but one's own; new things go into Z or are one's own -/
structure Ext (Z : AP') (H : Hp) (F : AP') (Z' : AP') (H' : Hp) (F' : AP') : Prop where
  keep : ∀ a o, H a = some o → ¬ F a → nt o → H' a = some o
  zz : ∀ a, Z a → Z' a
  znew : ∀ a, Z' a → Z a ∨ F a ∨ NoO H a
  fnew : ∀ a, F' a → F a ∨ NoO H a
  thr : ∀ a o, H a = some o → nt o → ∃ o', H' a = some o' ∧ nt o'
section
variable {C : Fix} {Z Z1 Z2 : AP'} {Fs Gs : Nat → List Addr} {ρ : Env'} {σ : L2.St} {H H1 H2 : Hp} {F F1 F2 : AP'}
theorem Ext.refl (Z : AP') (H : Hp) (F : AP') : Ext Z H F Z H F := ⟨fun _ _ h _ _ => h, fun _ h => h, fun _ h => .inl h, fun _ h => .inl h, fun _ o h n => ⟨o, h, n⟩⟩
theorem Ext.no (a : Ext Z H F Z1 H1 F1) {x : Addr} (e : NoO H1 x) : NoO H x := fun o h n => by
  obtain ⟨o', h', n'⟩ := a.thr x o h n
  exact e o' h' n'
theorem Ext.trans (a : Ext Z H F Z1 H1 F1) (b : Ext Z1 H1 F1 Z2 H2 F2) : Ext Z H F Z2 H2 F2 := by
  refine ⟨fun x o h n t => b.keep x o (a.keep x o h n t) (fun z => ?_) t, fun x h => b.zz x (a.zz x h), fun x h => ?_, fun x h => ?_, fun x o h n => ?_⟩
  · rcases a.fnew x z with z | z
    · exact n z
    · exact z o h t
  · rcases b.znew x h with z | z | z
    · exact a.znew x z
    · exact .inr (a.fnew x z)
    · exact .inr (.inr (a.no z))
  · rcases b.fnew x h with z | z
    · exact a.fnew x z
    · exact .inr (a.no z)
  · obtain ⟨o', h', n'⟩ := a.thr x o h n
    exact b.thr x o' h' n'
theorem Sim.obj (S : Sim C Z Fs ρ σ H) {i : Nat} {a : Addr} (h : a ∈ Fs i) : ∃ o, H a = some o ∧ LD o := by
  have q := S.sl i
  unfold SlR at q
  split at q
  · rw [q] at h; simp at h
  · rw [q.1] at h; simp at h
  · obtain ⟨v, _, o⟩ := q; exact o.obj a h
  · exact q.2.obj a h
  · rw [q.1] at h; simp at h
  · rw [q.1] at h; simp at h
theorem Sim.objF (S : Sim C Z Fs ρ σ H) {a : Addr} (h : InF Fs a) : ∃ o, H a = some o ∧ LD o := let ⟨_, q⟩ := h; S.obj q
/-- what lies outside one's own is kept -/
theorem Ext.keeps (e : Ext Z H F Z1 H1 F1) (hF : ∀ a, F a → ∃ o, H a = some o ∧ LD o) (hz : ∀ a, F a → ¬ Z a) (hzt : ∀ a o, Z a → H a = some o → nt o) : Keeps Z Z1 H H1 := by
  have rd : ∀ a u, Z a → Rd H a u → Rd H1 a u := fun a u z r => by
    rcases r with r | ⟨o, r⟩
    · exact .inl (e.keep a _ r (fun q => hz a q z) (hzt a _ z r))
    · exact .inr ⟨o, e.keep a _ r (fun q => hz a q z) (hzt a _ z r)⟩
  refine ⟨fun a u z r => e.keep a _ r (fun q => hz a q z) (hzt a _ z r), fun a u z r => rd a _ z r, fun a u _ z _ r => e.keep a _ r (fun q => hz a q z) (hzt a _ z r), fun a xs r => ?_, e.zz, fun a o u r => e.keep a _ r (fun q => by
    obtain ⟨v, h1, h2⟩ := hF a q
    rw [r] at h1; cases h1
    exact h2.nfrz _ _ rfl) (fun ps => by intro z; cases z), fun a o r l n => e.keep a o r (fun q => by
    obtain ⟨v, h1, h2⟩ := hF a q
    rw [r] at h1; cases h1
    exact l h2) n⟩
  · refine e.keep a _ r (fun q => ?_) (fun ps => by intro z; cases z)
    obtain ⟨u, h1, h2⟩ := hF a q
    rw [r] at h1; cases h1
    exact h2.ntup _ rfl
theorem Sim.keeps (S : Sim C Z Fs ρ σ H) (e : Ext Z H (InF Fs) Z1 H1 F1) : Keeps Z Z1 H H1 :=
  e.keeps (fun _ => S.objF) (fun a ⟨i, q⟩ => S.zf i a q) fun a o z h => by
    obtain ⟨o', h', n⟩ := S.zin a z
    rw [h] at h'; cases h'; exact n
/-- the slots lie as they did: all that was known is kept -/
theorem Sim.same (S : Sim C Z Fs ρ σ H) (kp : Keeps Z Z1 H H1) (ow : ∀ a, InF Fs a → ∀ o, H a = some o → H1 a = some o) (zf : ∀ a, InF Fs a → ¬ Z1 a) (zin : ∀ a, Z1 a → ∃ o, H1 a = some o ∧ nt o) (tb : TbO C.T H1) : Sim C Z1 Fs ρ σ H1 := by
  refine ⟨fun i => ?_, S.nd, S.dj, fun i a h => zf a ⟨i, h⟩, zin, tb, S.len⟩
  have q := S.sl i
  unfold SlR at q ⊢
  cases hs : slot ρ i with
  | un => rw [hs] at q; exact q
  | fz d =>
    rw [hs] at q
    obtain ⟨e, v, hv, r⟩ := q
    exact ⟨e, v, hv, r.keep kp⟩
  | ow k d =>
    rw [hs] at q
    obtain ⟨v, hv, r⟩ := q
    exact ⟨v, hv, r.keep kp fun a ha => ow a ⟨i, ha⟩⟩
  | rf t k d =>
    rw [hs] at q
    exact ⟨q.1, q.2.keep kp fun a ha => ow a ⟨i, ha⟩⟩
  | ro t d =>
    rw [hs] at q
    obtain ⟨e, hv, a, xs, ds, ht, hd, h1, h2⟩ := q
    exact ⟨e, hv, a, xs, ds, ht, hd, kp.roL h1, RpAll.keep kp _ _ h2⟩
  | kn t =>
    rw [hs] at q
    exact ⟨q.1, q.2.1, fun p hp => ⟨kp.ks _ _ (q.2.2 p hp).1 (q.2.2 p hp).2.1 (q.2.2 p hp).2.2, (q.2.2 p hp).2⟩⟩
def zadd (Z : AP') (p : Addr) : AP' := fun a => Z a ∨ a = p
/-- a new object that nobody will change -/
theorem Sim.new (S : Sim C Z Fs ρ σ H) {p : Addr} {o : HO} (hp : H p = none) (hn : nt o) :
    Sim C (zadd Z p) Fs ρ σ (upd H p o) ∧ Ext Z H (InF Fs) (zadd Z p) (upd H p o) (InF Fs) ∧ Keeps Z (zadd Z p) H (upd H p o) := by
  have old : ∀ a u, H a = some u → upd H p o a = some u := fun a u h => by rw [upd_ne (ne_of_none h hp)]; exact h
  have rd : ∀ a u, Rd H a u → Rd (upd H p o) a u := fun a u r => r.elim (fun r => .inl (old _ _ r)) fun ⟨ob, r⟩ => .inr ⟨ob, old _ _ r⟩
  have kp : Keeps Z (zadd Z p) H (upd H p o) := ⟨fun a u _ r => old a _ r, fun a u _ r => rd a _ r, fun a u _ _ _ r => old a u r, fun a xs r => old a _ r, fun a h => .inl h, fun a o u r => old a _ r, fun a o r _ _ => old a _ r⟩
  have ex : Ext Z H (InF Fs) (zadd Z p) (upd H p o) (InF Fs) := by
    refine ⟨fun a u h _ _ => old a u h, fun a h => .inl h, fun a h => ?_, fun a h => .inl h, fun a u h n => ⟨u, old a u h, n⟩⟩
    rcases h with h | rfl
    · exact .inl h
    · exact .inr (.inr (NoO.of hp))
  refine ⟨S.same kp (fun a _ u h => old a u h) (fun a ⟨i, ha⟩ z => ?_) (fun a z => ?_) (S.tb.new hp hn), ex, kp⟩
  · rcases z with z | rfl
    · exact S.zf i a ha z
    · obtain ⟨u, h, _⟩ := S.obj ha
      rw [hp] at h; cases h
  · rcases z with z | rfl
    · obtain ⟨u, h, n⟩ := S.zin a z
      exact ⟨u, old a u h, n⟩
    · exact ⟨o, upd_same, hn⟩
end
end NH

/-! NhRead: the readings of the plain machine: tE of an expression, tO of an operand, tT of a test, tA of arguments, tS of a statement. -/
namespace NH
open PySem Spec PyProof.Rows L2
open EM

/-- how an exception lies -/
def ExnR (K : PySem.W.Frag) (mg : Str → Option Value) (Z : AP') (H : Hp) (x : Exn) (cls : Value) (dx : Option Addr) : Prop :=
  ∃ C d vs, mg x.cls = some (.ref C) ∧ cls = .ref C ∧ dx = some d ∧ H d = some (.xd ((x.fld.map (·.1)).zip vs)) ∧ RpAll K Z H vs (x.fld.map (·.2))
def EW (C : Fix) (W : WX) (Z : AP') (Fs : Nat → List Addr) (H : Hp) (σ : L2.St) (x : Exn) (ρ' : Env') : Prop :=
  ∀ cls dx H' Z' Fs', Ext Z H (InF Fs) Z' H' (InF Fs') → Sim C Z' Fs' ρ' σ H' → ExnR C.K C.mg Z' H' x cls dx → W cls dx σ H'
/-- a computation's outcome at a state: its value goes to k, its exception to the wish -/
def Out {α : Type} (C : Fix) (W : WX) (Z : AP') (Fs : Nat → List Addr) (H : Hp) (σ : L2.St) (r : Except Exn α) (ρ' : Env') (k : α → Prop) : Prop :=
  match r with
  | .ok a => k a
  | .error x => EW C W Z Fs H σ x ρ'
def tE (C : Fix) (W : WX) (m : EM D) : TE := fun σ H Q => ∃ Z Fs ρ r ρ', Sim C Z Fs ρ σ H ∧ m ρ = some (r, ρ') ∧
  Out C W Z Fs H σ r ρ' fun d => ∀ v H' Z' Fs', Ext Z H (InF Fs) Z' H' (InF Fs') → Sim C Z' Fs' ρ' σ H' → Rp C.K Z' H' v d → Q v H'
def tA (C : Fix) (W : WX) (m : EM (List D)) : TA := fun σ H Q => ∃ Z Fs ρ r ρ', Sim C Z Fs ρ σ H ∧ m ρ = some (r, ρ') ∧
  Out C W Z Fs H σ r ρ' fun ds => ∀ vs H' Z' Fs', Ext Z H (InF Fs) Z' H' (InF Fs') → Sim C Z' Fs' ρ' σ H' → RpAll C.K Z' H' vs ds → Q vs H'
def tT (C : Fix) (W : WX) (m : EM Bool) : TT := fun σ H Q => ∃ Z Fs ρ r ρ', Sim C Z Fs ρ σ H ∧ m ρ = some (r, ρ') ∧
  Out C W Z Fs H σ r ρ' fun b => ∀ H' Z' Fs', Ext Z H (InF Fs) Z' H' (InF Fs') → Sim C Z' Fs' ρ' σ H' → Q b H'
section
variable {C : Fix} {W : WX} {Z Z1 : AP'} {Fs Fs1 : Nat → List Addr} {ρ ρ' : Env'} {σ : L2.St} {H H1 : Hp} {α β : Type}
theorem EW.before {x : Exn} (e : Ext Z H (InF Fs) Z1 H1 (InF Fs1)) (h : EW C W Z Fs H σ x ρ') : EW C W Z1 Fs1 H1 σ x ρ' := fun cls dx H' Z' Fs' e' S' r => h cls dx H' Z' Fs' (e.trans e') S' r
/-- a bind's outcome, its first part being an expression -/
theorem tE_of {m : EM D} {f : D → EM β} {r : Except Exn β} {Q : VK} (S : Sim C Z Fs ρ σ H) (h : bnd m f ρ = some (r, ρ')) (her : ∀ x, r = .error x → EW C W Z Fs H σ x ρ')
    (hok : ∀ d ρ1 v H1 Z1 Fs1, f d ρ1 = some (r, ρ') → Ext Z H (InF Fs) Z1 H1 (InF Fs1) → Sim C Z1 Fs1 ρ1 σ H1 → Rp C.K Z1 H1 v d → Q v H1) : tE C W m σ H Q := by
  rcases bnd_inv h with ⟨d, ρ1, e1, e2⟩ | ⟨x, e1, e2⟩
  · exact ⟨Z, Fs, ρ, .ok d, ρ1, S, e1, fun v H' Z' Fs' e S' r => hok d ρ1 v H' Z' Fs' e2 e S' r⟩
  · exact ⟨Z, Fs, ρ, .error x, ρ', S, e1, her x e2⟩
theorem tA_of {m : EM (List D)} {f : List D → EM β} {r : Except Exn β} {Q : List V → Hp → Prop} (S : Sim C Z Fs ρ σ H) (h : bnd m f ρ = some (r, ρ')) (her : ∀ x, r = .error x → EW C W Z Fs H σ x ρ')
    (hok : ∀ d ρ1 v H1 Z1 Fs1, f d ρ1 = some (r, ρ') → Ext Z H (InF Fs) Z1 H1 (InF Fs1) → Sim C Z1 Fs1 ρ1 σ H1 → RpAll C.K Z1 H1 v d → Q v H1) : tA C W m σ H Q := by
  rcases bnd_inv h with ⟨d, ρ1, e1, e2⟩ | ⟨x, e1, e2⟩
  · exact ⟨Z, Fs, ρ, .ok d, ρ1, S, e1, fun v H' Z' Fs' e S' r => hok d ρ1 v H' Z' Fs' e2 e S' r⟩
  · exact ⟨Z, Fs, ρ, .error x, ρ', S, e1, her x e2⟩
theorem tT_of {m : EM Bool} {f : Bool → EM β} {r : Except Exn β} {Q : Bool → Hp → Prop} (S : Sim C Z Fs ρ σ H) (h : bnd m f ρ = some (r, ρ')) (her : ∀ x, r = .error x → EW C W Z Fs H σ x ρ')
    (hok : ∀ d ρ1 H1 Z1 Fs1, f d ρ1 = some (r, ρ') → Ext Z H (InF Fs) Z1 H1 (InF Fs1) → Sim C Z1 Fs1 ρ1 σ H1 → Q d H1) : tT C W m σ H Q := by
  rcases bnd_inv h with ⟨d, ρ1, e1, e2⟩ | ⟨x, e1, e2⟩
  · exact ⟨Z, Fs, ρ, .ok d, ρ1, S, e1, fun H' Z' Fs' e S' => hok d ρ1 H' Z' Fs' e2 e S'⟩
  · exact ⟨Z, Fs, ρ, .error x, ρ', S, e1, her x e2⟩
end

/-! ### weaker readings -/
section
variable {X : Cx} {e : Expr}
theorem PE_imp {t t' : TE} (h : PE X e t) (i : ∀ σ H Q, t' σ H Q → t σ H Q) : PE X e t' := ⟨fun pins s σ H Q I q => h.run pins s σ H Q I (i σ H Q q)⟩
theorem PT_imp {t t' : TT} (h : PT X e t) (i : ∀ σ H Q, t' σ H Q → t σ H Q) : PT X e t' := ⟨fun pins s σ H Q I q => h.run pins s σ H Q I (i σ H Q q)⟩
theorem PA_imp {es : List Expr} {t t' : TA} (h : PA X es t) (i : ∀ σ H Q, t' σ H Q → t σ H Q) : PA X es t' := ⟨fun pos pins s σ H Q I q => h.run pos pins s σ H Q I (i σ H Q q)⟩
theorem PS_imp {st : Stmt} {t t' : TS} (h : PS X st t) (i : ∀ D σ H, t' D σ H → t D σ H) : PS X st t' := ⟨fun pins s σ H D I q => h.run pins s σ H D I (i D σ H q)⟩
theorem PSs_imp {st : List Stmt} {t t' : TS} (h : PSs X st t) (i : ∀ D σ H, t' D σ H → t D σ H) : PSs X st t' := ⟨fun pins s σ H D I q => h.run pins s σ H D I (i D σ H q)⟩
end

/-! ### operands -/
/-- the top is known, what lies below is in Z -/
def RpT (K : PySem.W.Frag) (Z : AP') (H : Hp) (v : V) : D → Prop
  | .list ds => ∃ a xs, v = .ref a ∧ H a = some (.lst xs) ∧ RpAll K Z H xs ds
  | .dict kvs => ∃ a o es, v = .ref a ∧ H a = some o ∧ DObj o es ∧ es.map (·.1) = kvs.map (·.1) ∧ RpAll K Z H (es.map (·.2)) (kvs.map (·.2))
  | d => Rp K Z H v d
theorem Rp.top {K : PySem.W.Frag} {Z : AP'} {H : Hp} {v : V} {d : D} (h : Rp K Z H v d) : RpT K Z H v d := by
  cases h with
  | lst h1 h2 => exact ⟨_, _, rfl, h1.2, h2⟩
  | dct h1 h2 h3 => obtain ⟨_, o, r, q⟩ := h1; exact ⟨_, o, _, rfl, r, q, h2, h3⟩
  | non => exact .non
  | bl b => exact .bl b
  | int b => exact .int b
  | str b => exact .str b
  | tup h1 h2 => exact .tup h1 h2
theorem Ow.top {K : PySem.W.Frag} {Z : AP'} {H : Hp} {v : V} {d : D} {F : List Addr} (h : Ow K Z H 1 v d F) : RpT K Z H v d := by
  cases d with
  | list ds =>
    obtain ⟨a, xs, rfl, ha, r, _⟩ := h.one
    exact ⟨a, xs, rfl, ha, r⟩
  | dict kvs =>
    obtain ⟨a, o, es, G, rfl, ha, ho, he, hG, _⟩ := h
    exact ⟨a, o, es, rfl, ha, ho, he, hG.zero.2⟩
  | _ => exact h.1.top
/-- an operand that has been reckoned -/
def Half (K : PySem.W.Frag) (Z : AP') (H : Hp) (σ : L2.St) (v : V) : Opd → Option D → Prop
  | .ex _, some d => Rp K Z H v d
  | .ex _, none => False
  | .sl i, x => x = none ∧ σ[i]? = some (some v)
def tO (C : Fix) (W : WX) : Opd → TE
  | .ex m => tE C W m
  | .sl i => tVar i
section
variable {C : Fix} {W : WX} {Z Z1 : AP'} {Fs Fs1 : Nat → List Addr} {ρ ρ' : Env'} {σ : L2.St} {H H1 : Hp} {α β : Type}
/-- a slot that is read has a value -/
theorem Sim.has (S : Sim C Z Fs ρ σ H) {i : Nat} (h : slot ρ i ≠ .un) : ∃ v, σ[i]? = some (some v) := by
  have q := S.sl i
  unfold SlR at q
  cases hs : slot ρ i with
  | un => exact absurd hs h
  | fz d => rw [hs] at q; obtain ⟨_, v, e, _⟩ := q; exact ⟨v, e⟩
  | ow k d => rw [hs] at q; obtain ⟨v, e, _⟩ := q; exact ⟨v, e⟩
  | rf t k d => rw [hs] at q; exact ⟨_, q.1⟩
  | ro t d => rw [hs] at q; exact ⟨_, q.2.1⟩
  | kn t => rw [hs] at q; exact ⟨_, q.2.1⟩
theorem Half.keep {v : V} {o : Opd} {x : Option D} (k : Keeps Z Z1 H H1) (h : Half C.K Z H σ v o x) : Half C.K Z1 H1 σ v o x := by
  cases o with
  | ex m =>
    cases x with
    | some d => exact Rp.keep k d v h
    | none => exact h
  | sl i => exact h
theorem tO_of {o : Opd} {f : Option D → EM β} {r : Except Exn β} {Q : VK} (S : Sim C Z Fs ρ σ H) (h : bnd o.one f ρ = some (r, ρ')) (her : ∀ x, r = .error x → EW C W Z Fs H σ x ρ')
    (hok : ∀ x ρ1 v H1 Z1 Fs1, f x ρ1 = some (r, ρ') → Ext Z H (InF Fs) Z1 H1 (InF Fs1) → Sim C Z1 Fs1 ρ1 σ H1 → Half C.K Z1 H1 σ v o x → Q v H1) : tO C W o σ H Q := by
  cases o with
  | ex m =>
    have h2 : bnd m (fun d => f (some d)) ρ = some (r, ρ') := by
      rw [← h]
      show _ = bnd (bnd m fun d => EM.ret (some d)) f ρ
      unfold bnd EM.ret
      cases m ρ with
      | none => rfl
      | some p =>
        obtain ⟨q, ρ1⟩ := p
        cases q <;> rfl
    exact tE_of (m := m) S h2 her fun d ρ1 v H1 Z1 Fs1 e1 e2 S1 rp => hok (some d) ρ1 v H1 Z1 Fs1 e1 e2 S1 rp
  | sl i =>
    have h' : bnd (chk i (EM.ret none)) f ρ = some (r, ρ') := h
    by_cases hs : slot ρ i = .un
    · unfold bnd chk at h'
      rw [hs] at h'; cases h'
    · have e2 : bnd (chk i (EM.ret none)) f ρ = f none ρ := by
        refine bnd_ok ?_
        unfold chk
        cases q : slot ρ i with
        | un => exact absurd q hs
        | _ => rfl
      rw [e2] at h'
      obtain ⟨v, hv⟩ := S.has hs
      exact ⟨v, hv, hok none ρ v H Z Fs h' (Ext.refl _ _ _) S ⟨rfl, hv⟩⟩
/-- where it is asked for -/
theorem Half.fin {v : V} {o : Opd} {x : Option D} {f : D → EM β} {r : Except Exn β} (h : Half C.K Z H σ v o x) (S : Sim C Z Fs ρ σ H) (e : bnd (o.two x) f ρ = some (r, ρ')) :
    ∃ d, RpT C.K Z H v d ∧ f d ρ = some (r, ρ') := by
  cases o with
  | ex m =>
    cases x with
    | none => exact h.elim
    | some d => exact ⟨d, Rp.top h, e⟩
  | sl i =>
    obtain ⟨rfl, hv⟩ := h
    have q := S.sl i
    unfold SlR at q
    have e' : bnd (bn i) f ρ = some (r, ρ') := e
    unfold bnd bn at e'
    cases hs : slot ρ i with
    | un => rw [hs] at e'; cases e'
    | fz d =>
      rw [hs] at e' q
      obtain ⟨_, w, hw, rp⟩ := q
      rw [hv] at hw; cases hw
      exact ⟨d, rp.top, e'⟩
    | ow k d =>
      rw [hs] at e' q
      obtain ⟨w, hw, rp⟩ := q
      rw [hv] at hw; cases hw
      by_cases hk : k = 1
      · subst hk
        exact ⟨d, rp.top, e'⟩
      · simp only [if_neg hk] at e'; cases e'
    | rf t k d =>
      rw [hs] at e' q
      obtain ⟨hw, rp⟩ := q
      rw [hv] at hw
      have ew : v = C.tv t := Option.some.inj (Option.some.inj hw)
      subst ew
      by_cases hk : k = 1
      · subst hk
        exact ⟨d, rp.top, e'⟩
      · simp only [if_neg hk] at e'; cases e'
    | ro t d => rw [hs] at e'; cases e'
    | kn t => rw [hs] at e'; cases e'
end
end NH

/-! NhOps: what the operators make of plain values, and that the library's rules agree. -/
namespace NH
open PySem Spec PyProof.Rows L2
open EM

/-! ### plain operations -/
def addD : D → D → Option D
  | .int i, .int j => some (.int (i + j))
  | .str a, .str b => if a.length + b.length ≤ 16777216 then some (.str (a ++ b)) else none
  | .list a, .list b => if a.length + b.length ≤ 16777216 then some (.list (a ++ b)) else none
  | .tuple a, .tuple b => if a.length + b.length ≤ 16777216 ∧ StrT (a ++ b) = false then some (.tuple (a ++ b)) else none
  | _, _ => none
def subD : D → D → Option D
  | .int i, .int j => some (.int (i - j))
  | _, _ => none
def rep (k : Int) (xs : List D) : List D := (List.replicate k.toNat xs).flatten
def mulD : D → D → Option D
  | .int i, .int j => if (-(2 ^ 64) < i ∧ i < 2 ^ 64) ∨ (-(2 ^ 64) < j ∧ j < 2 ^ 64) then some (.int (i * j)) else none
  | .list a, .int k => if -(2 ^ 63) ≤ k ∧ k < 2 ^ 63 ∧ a.length * k.toNat ≤ 16777216 then some (.list (rep k a)) else none
  | .tuple a, .int k => if -(2 ^ 62) ≤ k ∧ k < 2 ^ 62 ∧ a.length * k.toNat ≤ 16777216 ∧ StrT (rep k a) = false then some (.tuple (rep k a)) else none
  | _, _ => none
def fdivD : D → D → Option D
  | .int i, .int j => if j ≠ 0 ∧ j.natAbs < 1073741824 then some (.int (i.fdiv j)) else none
  | _, _ => none
def modD : D → D → Option D
  | .int i, .int j => if j ≠ 0 then some (.int (i.fmod j)) else none
  | _, _ => none
def powD : D → D → Option D
  | .int i, .int j => if 0 ≤ j ∧ j ≤ 1000000 ∧ i.natAbs < 2 ^ 64 then some (.int (i ^ j.toNat)) else none
  | _, _ => none
def ltD : D → D → Option D
  | .int i, .int j => some (.bool (decide (i < j)))
  | _, _ => none
def leD : D → D → Option D
  | .int i, .int j => some (.bool (decide (i ≤ j)))
  | _, _ => none
def gtD : D → D → Option D
  | .int i, .int j => some (.bool (decide (j < i)))
  | _, _ => none
def geD : D → D → Option D
  | .int i, .int j => some (.bool (decide (j ≤ i)))
  | _, _ => none
def eqD (a b : D) : Option D := if SeqAt.shaped a = true ∧ SeqAt.shaped b = true then some (.bool (PyData.eqv a b)) else none
def neD (a b : D) : Option D := if SeqAt.shaped a = true ∧ SeqAt.shaped b = true then some (.bool (!PyData.eqv a b)) else none
def isNoneB : D → Bool
  | .none => true
  | _ => false
def isD (a b : D) : Option D := match b with
  | .none => some (.bool (isNoneB a))
  | _ => none
def isNotD (a b : D) : Option D := match b with
  | .none => some (.bool (!isNoneB a))
  | _ => none
def inD (x s : D) : Option D := match s with
  | .list ds => if SeqAt.shaped x = true ∧ SeqAt.shaped (.list ds) = true then some (.bool (ds.any fun z => PyData.eqv z x)) else none
  | .tuple ds => if SeqAt.shaped x = true ∧ SeqAt.shaped (.tuple ds) = true then some (.bool (ds.any fun z => PyData.eqv z x)) else none
  | _ => none
def notInD (x s : D) : Option D := match s with
  | .list ds => if SeqAt.shaped x = true ∧ SeqAt.shaped (.list ds) = true then some (.bool (!ds.any fun z => PyData.eqv z x)) else none
  | .tuple ds => if SeqAt.shaped x = true ∧ SeqAt.shaped (.tuple ds) = true then some (.bool (!ds.any fun z => PyData.eqv z x)) else none
  | _ => none
def negD : D → Option D
  | .int i => some (.int (-i))
  | _ => none

/-! ### new tuples whose object is known -/
section
variable {X : Cx} {es : List Expr} {pos : Pos} {t : TA}
def NewT (o : Obj) : Prop := o.cls = .type "tuple" ∧ o.dict = none
/-- (e1, e2, ..) -/
def tTupF (t : TA) : TE := fun σ H Q => t σ H fun xs H1 => xs.length ≤ sizeLine ∧ ((∀ p o, H1 p = none → NewT o → Q (.ref p) (upd H1 p (.frz o (.tup xs)))) ∨ ∀ p, H1 p = none → Q (.ref p) (upd H1 p (.tup xs)))
theorem pe_tupF {x1 : Nat} (h : PA X es t) : PE X (.Tuple es x1 pos) (tTupF t) := by
  refine ⟨fun pins s σ H Q I hq => ?_⟩
  refine wpAny_Tuple_spliced (thn (h.run pos pins s σ H _ I hq) fun us s1 z => ?_)
  obtain ⟨xs, H1, I1, rv, sz, q⟩ := z
  refine ⟨by rw [← rv.length]; exact sz, ?_⟩
  cases q with
  | inr q => exact ⟨.ref s1.heap.objs.size, _, I1.laid (t' := s1.toks) (o := .tup xs) (fun b u e => Heap.get?_push_of_some _ e) (Nat.le_refl _) ⟨sz, us, rv, ⟨_, Heap.get?_push_size _ rfl, rfl, _, rfl⟩⟩, rfl, q _ (I1.hok.fresh (Nat.le_refl _))⟩
  | inl q =>
  refine ⟨.ref s1.heap.objs.size, _, I1.laid (t' := s1.toks) (fun b u e => Heap.get?_push_of_some _ e) (Nat.le_refl _) ?_, rfl, q _ { cls := .type "tuple", data := .seq us.toArray } (I1.hok.fresh (Nat.le_refl _)) ⟨rfl, rfl⟩⟩
  exact ⟨Heap.get?_push_size _ rfl, sz, us, rv, ⟨_, Heap.get?_push_size _ rfl, rfl, _, rfl⟩⟩
/-- tuple(x) -/
def rTupF (K : PySem.W.Frag) : List V → Hp → VK → Prop := fun xs H Q => ∃ p ys, xs = [.ref p] ∧ ((SqL K H p ys ∧ ((∀ l o, H l = none → NewT o → Q (.ref l) (upd H l (.frz o (.tup ys)))) ∨ ∀ l, H l = none → Q (.ref l) (upd H l (.tup ys)))) ∨ (SqT K H p ys ∧ Q (.ref p) H))
theorem call_tupF : CallR X (.type "tuple") (rTupF X.K) := by
  intro pins s σ H xs us Q I r h
  obtain ⟨p, ys, rfl, h⟩ := h
  obtain ⟨u, rfl, rx⟩ := vals1 r
  cases rx
  cases h with
  | inl h =>
    obtain ⟨hq, q⟩ := h
    obtain ⟨its, rv, pl, hz⟩ := I.list hq
    have hlen := rv.length
    refine call_tuple_list pl.isList (fun h2 kp => ?_) (by simp only [List.size_toArray] <;> omega)
    have I1 : Inv X pins σ H { s with heap := h2 } := I.kept (t' := s.toks) kp
    cases q with
    | inl q =>
      refine ⟨.ref h2.objs.size, _, I1.laid (t' := s.toks) (h' := h2.push { cls := .type "tuple", data := .seq its.toArray }) (fun b o e => Heap.get?_push_of_some _ e) (Nat.le_refl _) ?_, rfl, q _ { cls := .type "tuple", data := .seq its.toArray } (I1.hok.fresh (Nat.le_refl _)) ⟨rfl, rfl⟩⟩
      exact ⟨Heap.get?_push_size _ rfl, hz, its, rv, IsTup.new _ _⟩
    | inr q =>
      refine ⟨.ref h2.objs.size, _, I1.laid (t' := s.toks) (h' := h2.push { cls := .type "tuple", data := .seq its.toArray }) (fun b o e => Heap.get?_push_of_some _ e) (Nat.le_refl _) ?_, rfl, q _ (I1.hok.fresh (Nat.le_refl _))⟩
      exact ⟨hz, its, rv, IsTup.new _ _⟩
  | inr h =>
    obtain ⟨hq, q⟩ := h
    obtain ⟨its, rv, pl, hz⟩ := I.tuple hq
    exact call_tuple_same pl ⟨.ref p, H, I, rfl, q⟩
/-- t[lo:hi] -/
def rSlF (K : PySem.W.Frag) : V → Option Int → Option Int → Hp → VK → Prop := fun x lo hi H Q => ∃ a xs, x = .ref a ∧ SqT K H a xs ∧ ((HT.sIx xs.length 0 lo = 0 ∧ HT.sIx xs.length xs.length hi = xs.length) → Q (.ref a) H) ∧
  (¬ (HT.sIx xs.length 0 lo = 0 ∧ HT.sIx xs.length xs.length hi = xs.length) → (∀ p o, H p = none → NewT o → Q (.ref p) (upd H p (.frz o (.tup (cutV xs lo hi))))) ∨ ∀ p, H p = none → Q (.ref p) (upd H p (.tup (cutV xs lo hi))))
theorem sl_tupF : L2.SlR X (rSlF X.K) := by
  intro pins s σ H x v vl vu lo hi sl Q I rx hs pl pu h
  obtain ⟨a, xs, rfl, hx, q1, q2⟩ := h
  cases rx
  obtain ⟨its, rv, ht, hz⟩ := I.tuple hx
  have hlen : its.toArray.size = xs.length := by rw [List.size_toArray]; exact rv.length.symm
  refine ⟨"tuple", _, PyProof.Rows.slot_tuple_getitem.lookup, ht.typeIs, ?_⟩
  by_cases hw : HT.sIx xs.length 0 lo = 0 ∧ HT.sIx xs.length xs.length hi = xs.length
  · exact getItem_tuple_whole ht hs pl pu (by rw [hlen]; exact hw) ⟨.ref a, H, I, rfl, q1 hw⟩
  · refine HT.getItem_tuple_cut ht hs pl pu (by rw [hlen]; exact hw) ?_ (by rw [hlen]; exact hz)
    rw [hlen]
    have hv := (rv.drop (HT.sIx xs.length 0 lo)).take (HT.sIx xs.length xs.length hi - HT.sIx xs.length 0 lo)
    cases q2 hw with
    | inr q2 => exact ⟨.ref s.heap.objs.size, _, I.laid (t' := s.toks) (o := .tup (cutV xs lo hi)) (fun b ob z => Heap.get?_push_of_some _ z) (Nat.le_refl _) ⟨Nat.le_trans (cutV_length xs lo hi) hz, _, hv, IsTup.new _ _⟩, rfl, q2 _ (I.hok.fresh (Nat.le_refl _))⟩
    | inl q2 =>
    refine ⟨.ref s.heap.objs.size, _, I.laid (t' := s.toks) (fun b ob z => Heap.get?_push_of_some _ z) (Nat.le_refl _) ?_, rfl, q2 _ { cls := .type "tuple", data := .seq ((its.drop (HT.sIx xs.length 0 lo)).take (HT.sIx xs.length xs.length hi - HT.sIx xs.length 0 lo)).toArray } (I.hok.fresh (Nat.le_refl _)) ⟨rfl, rfl⟩⟩
    exact ⟨Heap.get?_push_size _ rfl, Nat.le_trans (cutV_length xs lo hi) hz, _, hv, IsTup.new _ _⟩
end

/-! ### the library's rules do so -/
def OpD (C : Fix) (r : R2) (op : D → D → Option D) : Prop :=
  ∀ (Z : AP') (Fs : Nat → List Addr) (ρ : Env') (σ : L2.St) (H : Hp) (x y : V) (d e z : D) (Q : VK), Sim C Z Fs ρ σ H → RpT C.K Z H x d → RpT C.K Z H y e → op d e = some z →
    (∀ v H' Z', Ext Z H (InF Fs) Z' H' (InF Fs) → Sim C Z' Fs ρ σ H' → Rp C.K Z' H' v z → Q v H') → r x y H Q
section
variable {C : Fix} {W : WX}
theorem sizeL : sizeLine = 16777216 := by rw [sizeLine_eq]
section
variable {Z : AP'} {Fs : Nat → List Addr} {ρ : Env'} {σ : L2.St} {H : Hp} {x y : V}
/-- a result that makes nothing -/
theorem fin0 {v : V} {z : D} {Q : VK} (S : Sim C Z Fs ρ σ H) (r : Rp C.K Z H v z) (k : ∀ v H' Z', Ext Z H (InF Fs) Z' H' (InF Fs) → Sim C Z' Fs ρ σ H' → Rp C.K Z' H' v z → Q v H') : Q v H := k v H Z (Ext.refl _ _ _) S r
theorem finL {p : Addr} {xs : List V} {ds : List D} {Q : VK} (S : Sim C Z Fs ρ σ H) (hp : H p = none) (r : RpAll C.K Z H xs ds) (k : ∀ v H' Z', Ext Z H (InF Fs) Z' H' (InF Fs) → Sim C Z' Fs ρ σ H' → Rp C.K Z' H' v (.list ds) → Q v H') : Q (.ref p) (upd H p (.lst xs)) := by
  obtain ⟨S', e, kp⟩ := S.new (o := .lst xs) hp (fun ps => by intro z; cases z)
  exact k _ _ _ e S' (.lst ⟨.inr rfl, upd_same⟩ (RpAll.keep kp _ _ r))
theorem finT {p : Addr} {xs : List V} {ds : List D} {Q : VK} (S : Sim C Z Fs ρ σ H) (hp : H p = none) (r : RpAll C.K Z H xs ds) (hs : StrT ds = false) (k : ∀ v H' Z', Ext Z H (InF Fs) Z' H' (InF Fs) → Sim C Z' Fs ρ σ H' → Rp C.K Z' H' v (.tuple ds) → Q v H') : Q (.ref p) (upd H p (.tup xs)) := by
  obtain ⟨S', e, kp⟩ := S.new (o := .tup xs) hp (fun ps => by intro z; cases z)
  exact k _ _ _ e S' (.tup (by unfold TpR; rw [hs, if_neg Bool.false_ne_true]; exact upd_same) (RpAll.keep kp _ _ r))
/-- a tuple whose object is known -/
theorem finTF {p : Addr} {xs : List V} {ds : List D} {o : Obj} {Q : VK} (S : Sim C Z Fs ρ σ H) (hp : H p = none) (r : RpAll C.K Z H xs ds) (h1 : o.cls = .type "tuple") (h2 : o.dict = none) (hs : StrT ds = true) (k : ∀ v H' Z', Ext Z H (InF Fs) Z' H' (InF Fs) → Sim C Z' Fs ρ σ H' → Rp C.K Z' H' v (.tuple ds) → Q v H') : Q (.ref p) (upd H p (.frz o (.tup xs))) := by
  obtain ⟨S', e, kp⟩ := S.new (o := .frz o (.tup xs)) hp (fun ps => by intro z; cases z)
  exact k _ _ _ e S' (.tup (by unfold TpR; rw [hs, if_pos rfl]; exact ⟨o, upd_same, h1, h2⟩) (RpAll.keep kp _ _ r))
/-- either way, as it wants to be -/
theorem finTT {xs : List V} {ds : List D} {Q : VK} (S : Sim C Z Fs ρ σ H) (r : RpAll C.K Z H xs ds) (k : ∀ v H' Z', Ext Z H (InF Fs) Z' H' (InF Fs) → Sim C Z' Fs ρ σ H' → Rp C.K Z' H' v (.tuple ds) → Q v H') :
    (∀ p o, H p = none → (o.cls = .type "tuple" ∧ o.dict = none) → Q (.ref p) (upd H p (.frz o (.tup xs)))) ∨ ∀ p, H p = none → Q (.ref p) (upd H p (.tup xs)) := by
  cases hs : StrT ds with
  | true => exact .inl fun p o hp n => finTF S hp r n.1 n.2 hs k
  | false => exact .inr fun p hp => finT S hp r hs k
theorem RpT.int {v : V} {i : Int} (h : RpT C.K Z H v (.int i)) : v = .int i := by cases (show Rp C.K Z H v (.int i) from h); rfl
theorem RpT.str {v : V} {i : Str} (h : RpT C.K Z H v (.str i)) : v = .str i := by cases (show Rp C.K Z H v (.str i) from h); rfl
theorem RpT.bool {v : V} {i : Bool} (h : RpT C.K Z H v (.bool i)) : v = .bl i := by cases (show Rp C.K Z H v (.bool i) from h); rfl
theorem RpT.none {v : V} (h : RpT C.K Z H v .none) : v = .non := by cases (show Rp C.K Z H v .none from h); rfl
theorem RpT.tup {v : V} {ds : List D} (h : RpT C.K Z H v (.tuple ds)) : ∃ a xs, v = .ref a ∧ TpR H a xs (StrT ds) ∧ RpAll C.K Z H xs ds := by
  cases (show Rp C.K Z H v (.tuple ds) from h) with
  | tup h1 h2 => exact ⟨_, _, rfl, h1, h2⟩
end
end

section
variable {C : Fix} {W : WX} {Z : AP'} {Fs : Nat → List Addr} {ρ : Env'} {σ : L2.St} {H : Hp} {x y : V}
theorem Vals.repeat {xs : List V} {us : List Value} (r : Vals xs us) : ∀ k : Nat, Vals (List.replicate k xs).flatten (List.replicate k us).flatten
  | 0 => .nil
  | k + 1 => by
    rw [List.replicate_succ, List.replicate_succ, List.flatten_cons, List.flatten_cons]
    exact r.append (Vals.repeat r k)
theorem RpAll.repeat {K : PySem.W.Frag} {xs : List V} {ds : List D} (r : RpAll K Z H xs ds) : ∀ k : Nat, RpAll K Z H (List.replicate k xs).flatten (List.replicate k ds).flatten
  | 0 => .nil
  | k + 1 => by
    rw [List.replicate_succ, List.replicate_succ, List.flatten_cons, List.flatten_cons]
    exact r.append (RpAll.repeat r k)
end
/-! a tuple times a number, of any size -/
section
theorem tup_mul_same (l : Addr) (items : Array Value) (n : Nat) (dd : Option Addr) (sl : Array (Option Value)) (x : Int) (u : Tok) (c0 : (decide (x < -(2 ^ 63)) || decide (x ≥ 2 ^ 63)) = false) (c1 : (items.isEmpty || x == 1) = true) :
    Meets (Builtin.«tuple.__mul__» ⟨[.ref l, .int x u], []⟩) (fun _ R s => s.heap.get? l = some { cls := .type "tuple", dict := dd, data := .seq items n, slots := sl } ∧ R (.ok (.ret (Value.ref l))) s) :=
  .of_wp fun prog w A R s h => by
    obtain ⟨hp, g, d, tk, os⟩ := s
    obtain ⟨hl, h⟩ := h
    have f1 := AutoSeq1.idx_int
    wp_walk using wpAny_loadPart' hl
    repeat (first
      | (refine wpAny_ite_false (decide_eq_false (by rw [c0]; exact Bool.false_ne_true)) ?_; wp_walk using wpAny_loadPart' hl)
      | (refine wpAny_ite_true (decide_eq_true c1) ?_; wp_walk using wpAny_loadPart' hl))
    all_goals first | exact ⟨_, rfl, h⟩ | exact h
theorem tup_mul_none (l : Addr) (items : Array Value) (n : Nat) (dd : Option Addr) (sl : Array (Option Value)) (x : Int) (u : Tok) (c0 : (decide (x < -(2 ^ 63)) || decide (x ≥ 2 ^ 63)) = false) (c1 : (items.isEmpty || x == 1) = false) (c2 : (decide (x ≤ 0) || items.isEmpty) = true) :
    Meets (Builtin.«tuple.__mul__» ⟨[.ref l, .int x u], []⟩) (fun _ R s => s.heap.get? l = some { cls := .type "tuple", dict := dd, data := .seq items n, slots := sl } ∧
      R (.ok (.ret (Value.ref s.heap.objs.size))) { s with heap := s.heap.push { cls := Value.type "tuple", data := Data.seq #[] }, toks := s.toks }) :=
  .of_wp fun prog w A R s h => by
    obtain ⟨hp, g, d, tk, os⟩ := s
    obtain ⟨hl, h⟩ := h
    have f1 := AutoSeq1.idx_int
    wp_walk using wpAny_loadPart' hl
    repeat (first
      | (refine wpAny_ite_false (decide_eq_false (by rw [c0]; exact Bool.false_ne_true)) ?_; wp_walk using wpAny_loadPart' hl)
      | (refine wpAny_ite_false (decide_eq_false (by rw [c1]; exact Bool.false_ne_true)) ?_; wp_walk using wpAny_loadPart' hl)
      | (refine wpAny_ite_true (decide_eq_true c2) ?_; wp_walk using wpAny_loadPart' hl))
    all_goals first | exact ⟨_, rfl, h⟩ | exact h
end

/-! ### the operators -/
section
variable {X : Cx}
def rRepA (K : PySem.W.Frag) : R2 := fun x y H Q => ∃ l k xs, x = .ref l ∧ y = .int k ∧ SqT K H l xs ∧ -(2 ^ 62) ≤ k ∧ k < 2 ^ 62 ∧ xs.length * k.toNat ≤ 16777216 ∧
  (xs = [] ∨ k = 1 → Q (.ref l) H) ∧ (xs ≠ [] → k ≠ 1 → ∀ p, H p = none → Q (.ref p) (upd H p (.tup (List.replicate k.toNat xs).flatten)))
theorem op_repA : OpR X (binaryOp .Mult) (rRepA X.K) := by
  intro pins s σ H x y v u Q I rx ry h
  obtain ⟨l, k, xs, rfl, rfl, hT, h1, h2, hz, q1, q2⟩ := h
  cases rx
  obtain ⟨t, rfl⟩ := ry
  obtain ⟨its, r, ⟨⟨cls, dd, data, sl⟩, ho, hc, n, hd⟩, hs⟩ := I.tuple hT
  simp only at hc hd
  subst hc hd
  have hle : its.length = xs.length := r.length.symm
  have c0 : (decide (k < -(2 ^ 63)) || decide (k ≥ 2 ^ 63)) = false := by
    rw [decide_eq_false (by omega), decide_eq_false (by omega)] <;> rfl
  refine wpAny_binaryOp_repeat_ref (T := "tuple") (U := "int") (by decide) ⟨_, ho, rfl⟩ (fun s' => typeIs_int s' k t) noFill_tuple_mul F.fills_int_mul F.slot_int_rmul repeat_tuple F.slot_int_index.lookup
    (call_meets F.slot_int_rmul (typeIs_int s k t) F.entry_int_rmul (F.args_int_rmul_2 _ _) (int_rmul_tuple k t l its.toArray n dd sl)
      ⟨ho, rfl, ⟨_, ho, rfl⟩, ?_⟩)
  by_cases he : its = [] ∨ k = 1
  · refine call_meets F.slot_tuple_mul ⟨_, ho, rfl⟩ F.entry_tuple_mul (F.args_tuple_mul_2 _ _) (tup_mul_same l its.toArray n dd sl k t c0 ?_) ⟨ho, ?_⟩
    · rcases he with rfl | rfl
      · rfl
      · simp
    · refine ⟨.ref l, H, I, rfl, q1 ?_⟩
      rcases he with rfl | rfl
      · exact .inl (List.eq_nil_of_length_eq_zero hle.symm)
      · exact .inr rfl
  · have hn : its ≠ [] := fun z => he (.inl z)
    have hk : k ≠ 1 := fun z => he (.inr z)
    have hi : its.toArray.isEmpty = false := by
      cases its with
      | nil => exact absurd rfl hn
      | cons a b => rfl
    have c1 : (its.toArray.isEmpty || k == 1) = false := by
      rw [hi, Bool.false_or]
      exact beq_eq_false_iff_ne.mpr hk
    have hxn : xs ≠ [] := fun z => hn (List.eq_nil_of_length_eq_zero (by rw [hle, z]; rfl))
    by_cases hk0 : k ≤ 0
    · have c2 : (decide (k ≤ 0) || its.toArray.isEmpty) = true := by rw [decide_eq_true hk0, Bool.true_or]
      refine call_meets F.slot_tuple_mul ⟨_, ho, rfl⟩ F.entry_tuple_mul (F.args_tuple_mul_2 _ _) (tup_mul_none l its.toArray n dd sl k t c0 c1 c2) ⟨ho, ?_⟩
      have e0 : k.toNat = 0 := by omega
      have q := q2 hxn hk s.heap.objs.size (I.hok.fresh (Nat.le_refl _))
      rw [e0] at q
      refine ⟨.ref s.heap.objs.size, _, I.laid (t' := s.toks) (o := .tup []) (fun b ob q => Heap.get?_push_of_some _ q) (Nat.le_refl _) ?_, rfl, q⟩
      exact ⟨Nat.zero_le _, [], .nil, IsTup.new _ _⟩
    · have c2 : (decide (k ≤ 0) || its.toArray.isEmpty) = false := by
        rw [hi, Bool.or_false]
        exact decide_eq_false hk0
      have hsz0 : its.toArray.size = xs.length := by rw [List.size_toArray, hle]
      have hmul : ((its.toArray.size : Nat) : Int) * k ≤ 16777216 := by
        rw [hsz0]
        have e2 : (k.toNat : Int) = k := Int.toNat_of_nonneg (by omega)
        have e3 : ((xs.length * k.toNat : Nat) : Int) ≤ ((16777216 : Nat) : Int) := Int.ofNat_le.mpr hz
        rw [Int.natCast_mul, e2] at e3
        exact e3
      have c4 : Builtin.Tuple.tupleTooMany (((its.toArray.size : Nat) : Int) * k) = false := by
        unfold Builtin.Tuple.tupleTooMany
        rw [sizeLine_eq]
        exact decide_eq_false (by omega)
      have flen : (List.replicate k.toNat its).flatten.length ≤ sizeLine := by
        rw [PyProof.Rows.lm_len_rep_flat, hle, sizeLine_eq, Nat.mul_comm]
        exact hz
      refine call_meets F.slot_tuple_mul ⟨_, ho, rfl⟩ F.entry_tuple_mul (F.args_tuple_mul_2 _ _) (tuple_mulW l its.toArray n dd sl k t c0 c1 c2 (by omega) c4 (by rw [size_rep, List.size_toArray]; exact flen)) ⟨ho, ?_⟩
      rw [size_rep]
      refine ⟨.ref s.heap.objs.size, _, I.laid (t' := s.toks) (o := .tup (List.replicate k.toNat xs).flatten) (fun b ob q => Heap.get?_push_of_some _ q) (Nat.le_refl _) ?_, rfl, q2 hxn hk _ (I.hok.fresh (Nat.le_refl _))⟩
      exact ⟨by rw [PyProof.Rows.lm_len_rep_flat, sizeLine_eq, Nat.mul_comm]; exact hz, _, Vals.repeat r k.toNat, IsTup.new _ _⟩
end
def rAdd4 (K : PySem.W.Frag) : R2 := fun x y H Q => (rI0 (fun i j => .int (i + j)) x y H Q ∨ (∃ i j, x = .str i ∧ y = .str j ∧ i.length + j.length ≤ sizeLine ∧ Q (.str (i ++ j)) H)) ∨ (rCat x y H Q ∨ rCatA K x y H Q)
theorem op_add4 {X : Cx} : OpR X (binaryOp .Add) (rAdd4 X.K) := (op_add.or op_add_str).or (op_cat.or op_catA)
def rMul3 (K : PySem.W.Frag) : R2 := fun x y H Q => rI CMul (fun i j => .int (i * j)) x y H Q ∨ (rRep x y H Q ∨ rRepA K x y H Q)
theorem op_mul3 {X : Cx} : OpR X (binaryOp .Mult) (rMul3 X.K) := op_mul.or (op_rep.or op_repA)
section
variable {C : Fix}
theorem od_add : OpD C (rAdd4 C.K) addD := by
  intro Z Fs ρ σ H x y d e z Q S rx ry h k
  unfold addD at h
  split at h
  · cases h
    exact .inl (.inl ⟨_, _, rx.int, ry.int, fin0 S (.int _) k⟩)
  · split at h
    · rename_i hl
      cases h
      exact .inl (.inr ⟨_, _, rx.str, ry.str, by rw [sizeL]; exact hl, fin0 S (.str _) k⟩)
    · cases h
  · split at h
    · rename_i a b hl
      cases h
      obtain ⟨p, xs, rfl, h1, r1⟩ := rx
      obtain ⟨q, ys, rfl, h2, r2⟩ := ry
      refine .inr (.inl ⟨p, q, xs, ys, rfl, rfl, h1, h2, by rw [sizeL, r1.length, r2.length]; exact hl, fun l hl => finL S hl (r1.append r2) k⟩)
    · cases h
  · split at h
    · rename_i a b hl
      cases h
      obtain ⟨p, xs, rfl, h1, r1⟩ := rx.tup
      obtain ⟨q, ys, rfl, h2, r2⟩ := ry.tup
      refine .inr (.inr ⟨p, q, xs, ys, rfl, rfl, h1.sq, h2.sq, by rw [sizeL, r1.length, r2.length]; exact hl.1, fun e => ?_, fun e1 e2 => ?_, fun _ _ l hp => finT S hp (r1.append r2) hl.2 k⟩)
      · subst e
        have ea : a = [] := List.eq_nil_of_length_eq_zero r1.length.symm
        subst ea
        exact fin0 S (.tup h2 r2) k
      · subst e2
        have ea : b = [] := List.eq_nil_of_length_eq_zero r2.length.symm
        subst ea
        rw [List.append_nil] at k
        exact fin0 S (.tup h1 r1) k
    · cases h
  · cases h
theorem od_mul : OpD C (rMul3 C.K) mulD := by
  intro Z Fs ρ σ H x y d e z Q S rx ry h k
  unfold mulD at h
  split at h
  · split at h
    · rename_i hc
      cases h
      exact .inl ⟨_, _, rx.int, ry.int, hc, fin0 S (.int _) k⟩
    · cases h
  · split at h
    · rename_i a n hc
      cases h
      obtain ⟨p, xs, rfl, h1, r1⟩ := rx
      exact .inr (.inl ⟨p, n, xs, rfl, ry.int, h1, hc.1, hc.2.1, by rw [sizeL, r1.length]; exact hc.2.2, fun l hl => finL S hl (r1.repeat n.toNat) k⟩)
    · cases h
  · split at h
    · rename_i a n hc
      cases h
      obtain ⟨p, xs, rfl, h1, r1⟩ := rx.tup
      refine .inr (.inr ⟨p, n, xs, rfl, ry.int, h1.sq, hc.1, hc.2.1, by rw [r1.length]; exact hc.2.2.1, fun e => ?_, fun _ _ l hl => finT S hl (r1.repeat n.toNat) hc.2.2.2 k⟩)
      have er : rep n a = a := by
        unfold rep
        rcases e with rfl | rfl
        · have ea : a = [] := List.eq_nil_of_length_eq_zero r1.length.symm
          subst ea
          exact List.flatten_eq_nil_iff.mpr fun l hl => (List.mem_replicate.mp hl).2
        · show (List.replicate 1 a).flatten = a
          simp
      rw [er] at k
      exact fin0 S (.tup h1 r1) k
    · cases h
  · cases h
/-- an operation on ints -/
theorem od_int {P : Int → Int → Prop} [∀ i j, Decidable (P i j)] {g : Int → Int → D} {gv : Int → Int → V} {op : D → D → Option D} (ho : ∀ d e z, op d e = some z → ∃ i j, d = .int i ∧ e = .int j ∧ P i j ∧ z = g i j) (hg : ∀ K Z H i j, Rp K Z H (gv i j) (g i j)) : OpD C (rI P gv) op := by
  intro Z Fs ρ σ H x y d e z Q S rx ry h k
  obtain ⟨i, j, rfl, rfl, hp, rfl⟩ := ho _ _ _ h
  exact ⟨i, j, rx.int, ry.int, hp, fin0 S (hg _ _ _ i j) k⟩
theorem od_int0 {g : Int → Int → D} {gv : Int → Int → V} {op : D → D → Option D} (ho : ∀ d e z, op d e = some z → ∃ i j, d = .int i ∧ e = .int j ∧ z = g i j) (hg : ∀ K Z H i j, Rp K Z H (gv i j) (g i j)) : OpD C (rI0 gv) op := by
  intro Z Fs ρ σ H x y d e z Q S rx ry h k
  obtain ⟨i, j, rfl, rfl, rfl⟩ := ho _ _ _ h
  exact ⟨i, j, rx.int, ry.int, fin0 S (hg _ _ _ i j) k⟩
theorem od_sub : OpD C (rI0 fun i j => .int (i - j)) subD := od_int0 (g := fun i j => .int (i - j)) (fun d e z h => by
  unfold subD at h; split at h
  · cases h; exact ⟨_, _, rfl, rfl, rfl⟩
  · cases h) fun _ _ _ _ _ => .int _
theorem od_fdiv : OpD C (rI CDivN fun i j => .int (i.fdiv j)) fdivD := by
  have : ∀ i j, Decidable (CDivN i j) := fun i j => by unfold CDivN; exact inferInstance
  exact od_int (g := fun i j => .int (i.fdiv j)) (fun d e z h => by
    unfold fdivD at h; split at h
    · split at h
      · rename_i hc; cases h; exact ⟨_, _, rfl, rfl, hc, rfl⟩
      · cases h
    · cases h) fun _ _ _ _ _ => .int _
theorem od_mod : OpD C (rI (fun _ j => j ≠ 0) fun i j => .int (i.fmod j)) modD :=
  od_int (P := fun _ j => j ≠ 0) (g := fun i j => .int (i.fmod j)) (fun d e z h => by
    unfold modD at h; split at h
    · split at h
      · rename_i hc; cases h; exact ⟨_, _, rfl, rfl, hc, rfl⟩
      · cases h
    · cases h) fun _ _ _ _ _ => .int _
theorem od_pow : OpD C (rI CPow fun i j => .int (i ^ j.toNat)) powD := by
  have : ∀ i j, Decidable (CPow i j) := fun i j => by unfold CPow; exact inferInstance
  exact od_int (g := fun i j => .int (i ^ j.toNat)) (fun d e z h => by
    unfold powD at h; split at h
    · split at h
      · rename_i hc; cases h; exact ⟨_, _, rfl, rfl, hc, rfl⟩
      · cases h
    · cases h) fun _ _ _ _ _ => .int _
theorem od_lt : OpD C (rI0 fun i j => .bl (decide (i < j))) ltD := od_int0 (g := fun i j => .bool (decide (i < j))) (fun d e z h => by
  unfold ltD at h; split at h
  · cases h; exact ⟨_, _, rfl, rfl, rfl⟩
  · cases h) fun _ _ _ _ _ => .bl _
theorem od_le : OpD C (rI0 fun i j => .bl (decide (i ≤ j))) leD := od_int0 (g := fun i j => .bool (decide (i ≤ j))) (fun d e z h => by
  unfold leD at h; split at h
  · cases h; exact ⟨_, _, rfl, rfl, rfl⟩
  · cases h) fun _ _ _ _ _ => .bl _
theorem od_gt : OpD C (rI0 fun i j => .bl (decide (j < i))) gtD := od_int0 (g := fun i j => .bool (decide (j < i))) (fun d e z h => by
  unfold gtD at h; split at h
  · cases h; exact ⟨_, _, rfl, rfl, rfl⟩
  · cases h) fun _ _ _ _ _ => .bl _
theorem od_ge : OpD C (rI0 fun i j => .bl (decide (j ≤ i))) geD := od_int0 (g := fun i j => .bool (decide (j ≤ i))) (fun d e z h => by
  unfold geD at h; split at h
  · cases h; exact ⟨_, _, rfl, rfl, rfl⟩
  · cases h) fun _ _ _ _ _ => .bl _
/-! data as a whole -/
section
variable {K : PySem.W.Frag} {Z : AP'} {H : Hp}
mutual
theorem Rp.dp : ∀ (d : D) (v : V), d.canLay0 = true → Rp K Z H v d → Dp K H v d
  | .none, _, _, h => by cases h; exact .non
  | .bool b, _, _, h => by cases h; exact .bl b
  | .int i, _, _, h => by cases h; exact .int i
  | .str x, _, _, h => by cases h; exact .str x
  | .list ds, _, c, h => by
    cases h with
    | lst h1 h2 => exact .lst h1.seq (RpAll.dp ds _ c h2)
  | .tuple ds, _, c, h => by
    cases h with
    | tup h1 h2 => exact .tup h1.sq (RpAll.dp ds _ c h2)
  | .dict _, _, c, _ => by cases c
theorem RpAll.dp : ∀ (ds : List D) (vs : List V), PyData.canLayAll0 ds = true → RpAll K Z H vs ds → DpAll K H vs ds
  | [], _, _, h => by cases h; exact .nil
  | d :: ds, _, c, h => by
    cases h with
    | cons h1 h2 =>
      have c' := Bool.and_eq_true_iff.mp (show (d.canLay0 && PyData.canLayAll0 ds) = true from c)
      exact .cons (Rp.dp d _ c'.1 h1) (RpAll.dp ds _ c'.2 h2)
end
theorem RpT.dp {v : V} {d : D} (c : d.canLay0 = true) (h : RpT K Z H v d) : Dp K H v d := by
  cases d with
  | list ds =>
    obtain ⟨a, xs, rfl, h1, h2⟩ := h
    exact .lst (.of h1) (RpAll.dp ds _ c h2)
  | dict kvs => cases c
  | _ => exact Rp.dp _ _ c h
end
theorem od_eq : OpD C (rEqD C.K) eqD := by
  intro Z Fs ρ σ H x y d e z Q S rx ry h k
  unfold eqD at h
  split at h
  · rename_i hc
    cases h
    exact ⟨d, e, rx.dp (SeqAt.canLay_of_shaped hc.1), ry.dp (SeqAt.canLay_of_shaped hc.2), hc.1, hc.2, fin0 S (.bl _) k⟩
  · cases h
theorem od_ne : OpD C (rNeD C.K) neD := by
  intro Z Fs ρ σ H x y d e z Q S rx ry h k
  unfold neD at h
  split at h
  · rename_i hc
    cases h
    exact ⟨d, e, rx.dp (SeqAt.canLay_of_shaped hc.1), ry.dp (SeqAt.canLay_of_shaped hc.2), hc.1, hc.2, fin0 S (.bl _) k⟩
  · cases h
theorem RpT.isNone {Z : AP'} {H : Hp} {x : V} {d : D} (h : RpT C.K Z H x d) : decide (x = .non) = isNoneB d := by
  cases d with
  | none => rw [h.none]; rfl
  | list ds => obtain ⟨a, xs, rfl, _⟩ := h; exact decide_eq_false (fun z => by cases z)
  | dict kvs => obtain ⟨a, o, es, rfl, _⟩ := h; exact decide_eq_false (fun z => by cases z)
  | tuple ds => obtain ⟨a, xs, rfl, _⟩ := h.tup; exact decide_eq_false (fun z => by cases z)
  | bool b => rw [h.bool]; exact decide_eq_false (fun z => by cases z)
  | int b => rw [h.int]; exact decide_eq_false (fun z => by cases z)
  | str b => rw [h.str]; exact decide_eq_false (fun z => by cases z)
theorem od_is : OpD C (fun x y H Q => y = .non ∧ Q (.bl (decide (x = .non))) H) isD := by
  intro Z Fs ρ σ H x y d e z Q S rx ry h k
  unfold isD at h
  split at h
  · cases h
    exact ⟨ry.none, fin0 S (by rw [rx.isNone]; exact .bl _) k⟩
  · cases h
theorem od_isNot : OpD C (fun x y H Q => y = .non ∧ Q (.bl (!decide (x = .non))) H) isNotD := by
  intro Z Fs ρ σ H x y d e z Q S rx ry h k
  unfold isNotD at h
  split at h
  · cases h
    exact ⟨ry.none, fin0 S (by rw [rx.isNone]; exact .bl _) k⟩
  · cases h
end
end NH

/-! NhExpr: each expression's rule: from its parts' plain computations to its own. -/
namespace NH
open PySem Spec PyProof.Rows L2
open EM

/-- what is fixed beside the context: the tables, the values handed in -/
structure Bx where
  T : List (Addr × Str)
  tv : Nat → V
  kf : Nat → List (Addr × HO)
abbrev fx (X : Cx) (B : Bx) : Fix := ⟨X.K, X.mg, B.T, B.tv, B.kf⟩

/-! ### computations -/
def tAndM (a b : EM Bool) : EM Bool := bnd a fun x => if x = true then b else EM.ret false
def tOrM (a b : EM Bool) : EM Bool := bnd a fun x => if x = true then EM.ret true else b
def tNotM (a : EM Bool) : EM Bool := bnd a fun x => EM.ret (!x)
def boolOf : D → EM Bool
  | .bool b => EM.ret b
  | _ => stuck
/-- a value that is a truth, as a test -/
def tVal (m : EM D) : EM Bool := bnd m boolOf
def truD : D → Option Bool
  | .none => some false
  | .bool b => some b
  | .int i => some (i != 0)
  | .str s => if s.length ≤ 16777216 then some ((s.length : Int) != 0) else none
  | .list ds => some (!ds.isEmpty)
  | .tuple ds => some (!ds.isEmpty)
  | .dict _ => none
def tTru (o : Opd) : EM Bool := bnd o.one fun x => bnd (o.two x) fun d => opt (truD d)
def ifE (c : EM Bool) (a b : EM D) : EM D := bnd c fun x => if x = true then a else b
/-- and, or of truths, as values -/
def andV (a b : EM D) : EM D := bnd a fun d => bnd (boolOf d) fun x => if x = true then b else EM.ret (.bool false)
def orV (a b : EM D) : EM D := bnd a fun d => bnd (boolOf d) fun x => if x = true then EM.ret (.bool true) else b
def notV (c : EM Bool) : EM D := bnd c fun x => EM.ret (.bool (!x))
def aNil : EM (List D) := EM.ret []
def aCons (m : EM D) (r : EM (List D)) : EM (List D) := bnd m fun d => bnd r fun ds => EM.ret (d :: ds)
def itemsD : D → Option (List D)
  | .list ds => some ds
  | .tuple ds => some ds
  | _ => none
/-- *e among written items; what e tells is not changed by what follows -/
def aStar (m : EM D) (r : EM (List D)) : EM (List D) := bnd m fun d => bnd (opt (itemsD d)) fun es => bnd r fun ds => EM.ret (es ++ ds)
def eTup (m : EM (List D)) : EM D := bnd m fun ds => if ds.length ≤ 16777216 then EM.ret (.tuple ds) else stuck
def eLst (m : EM (List D)) : EM D := bnd m fun ds => if ds.length ≤ 16777216 then EM.ret (.list ds) else stuck
/-- an item's place -/
def atD (ds : List D) (i : Int) : Option D := (ixN ds.length i).bind fun j => ds[j]?
def idxD : D → D → Option D
  | .list ds, .int i => atD ds i
  | .tuple ds, .int i => atD ds i
  | _, _ => none
def cutD (ds : List D) (lo hi : Option Int) : List D := (ds.drop (HT.sIx ds.length 0 lo)).take (HT.sIx ds.length ds.length hi - HT.sIx ds.length 0 lo)
def sliceD (d : D) (lo hi : Option Int) : Option D := match d with
  | .list ds => some (.list (cutD ds lo hi))
  | .tuple ds => some (.tuple (cutD ds lo hi))
  | _ => none
def intO : D → EM (Option Int)
  | .int i => EM.ret (some i)
  | _ => stuck
def partM : Option (EM D) → EM (Option Int)
  | none => EM.ret none
  | some m => bnd m intO
def eSl (o : Opd) (lo hi : Option (EM D)) : EM D := bnd o.one fun x => bnd (partM lo) fun l => bnd (partM hi) fun h => bnd (o.two x) fun d => opt (sliceD d l h)
def chain (o1 o2 : D → D → Option D) (a b c : EM D) : EM D := bnd a fun x => bnd b fun y => bnd (opt (o1 x y)) fun t => bnd (boolOf t) fun k => if k = true then bnd c fun z => opt (o2 y z) else EM.ret (.bool false)

section
variable {X : Cx} {B : Bx} {W : WX} {a b c e : Expr} {es : List Expr} {pos : Pos}

/-! ### constants and names -/
theorem tE_lit {C : Fix} {v : V} {d : D} (h : ∀ Z H, Rp C.K Z H v d) (σ : L2.St) (H : Hp) (Q : VK) (t : tE C W (lit d) σ H Q) : Q v H := by
  obtain ⟨Z, Fs, ρ, r, ρ', S, e, k⟩ := t
  unfold lit EM.ret at e
  cases e
  exact k v H Z Fs (Ext.refl _ _ _) S (h Z H)
theorem se_int {i : Int} {j : Nat} : PE X (.Constant (.int i) j pos) (tE (fx X B) W (lit (.int i))) := PE_imp pe_int fun σ H Q t => tE_lit (fun _ _ => .int i) σ H Q t
theorem se_bool {i : Bool} {j : Nat} : PE X (.Constant (.bool i) j pos) (tE (fx X B) W (lit (.bool i))) := PE_imp pe_bl fun σ H Q t => tE_lit (fun _ _ => .bl i) σ H Q t
theorem se_none {j : Nat} : PE X (.Constant .none j pos) (tE (fx X B) W (lit .none)) := PE_imp pe_non fun σ H Q t => tE_lit (fun _ _ => .non) σ H Q t
theorem se_str {i : Str} {j : Nat} : PE X (.Constant (.str i) j pos) (tE (fx X B) W (lit (.str i))) := PE_imp pe_str fun σ H Q t => tE_lit (fun _ _ => .str i) σ H Q t
/-- a module's number -/
theorem se_globI {x : Str} {i : Int} {t : Tok} (hg : Gl X x) (hm : X.mg x = some (.int i t)) (hd : (x == ("__debug__" : Str)) = false := by decide) : PE X (.Name x pos) (tE (fx X B) W (lit (.int i))) :=
  PE_imp (pe_glob (v := .int i) hg hm ⟨t, rfl⟩ hd) fun σ H Q t => tE_lit (fun _ _ => .int i) σ H Q t
section
variable {C : Fix} {Z : AP'} {Fs : Nat → List Addr} {ρ : Env'} {σ : L2.St} {H : Hp}
theorem slot_set (ρ : Env') (i j : Nat) (s : Sl) : slot (ρ.set i s) j = if i = j ∧ i < ρ.length then s else slot ρ j := by
  unfold slot
  rw [List.getD_eq_getElem?_getD, List.getD_eq_getElem?_getD, List.getElem?_set]
  by_cases h : i = j
  · subst h
    by_cases hl : i < ρ.length
    · rw [if_pos rfl, if_pos hl, if_pos ⟨rfl, hl⟩]; rfl
    · rw [if_pos rfl, if_neg hl, if_neg (fun z => hl z.2)]
      rw [List.getElem?_eq_none (by omega)]
  · rw [if_neg h, if_neg (fun z => h z.1)]
theorem slot_lt {ρ : Env'} {i : Nat} (h : slot ρ i ≠ .un) : i < ρ.length := by
  apply Classical.byContradiction
  intro hn
  apply h
  unfold slot
  rw [List.getD_eq_getElem?_getD, List.getElem?_eq_none (by omega)]; rfl
def fset (Fs : Nat → List Addr) (i : Nat) (F : List Addr) : Nat → List Addr := fun j => if j = i then F else Fs j
theorem fset_same (Fs : Nat → List Addr) (i : Nat) (F : List Addr) : fset Fs i F i = F := if_pos rfl
theorem fset_ne (Fs : Nat → List Addr) {i j : Nat} (F : List Addr) (h : j ≠ i) : fset Fs i F j = Fs j := if_neg h
theorem inF_nil {i : Nat} {a : Addr} (h : InF (fset Fs i []) a) : InF Fs a ∧ ∀ j, j = i → a ∉ fset Fs i [] j := by
  obtain ⟨j, hj⟩ := h
  by_cases e : j = i
  · subst e; rw [fset_same] at hj; simp at hj
  · rw [fset_ne _ _ e] at hj
    exact ⟨⟨j, hj⟩, fun j e => by subst e; rw [fset_same]; simp⟩
/-- one's own list is given away -/
theorem Sim.give (S : Sim C Z Fs ρ σ H) {i k : Nat} {d : D} (hs : slot ρ i = .ow k d) :
    ∃ v, σ[i]? = some (some v) ∧ Rp C.K (fun a => Z a ∨ a ∈ Fs i) H v d ∧ Sim C (fun a => Z a ∨ a ∈ Fs i) (fset Fs i []) (ρ.set i (.fz d)) σ H ∧
      Ext Z H (InF Fs) (fun a => Z a ∨ a ∈ Fs i) H (InF (fset Fs i [])) := by
  have q := S.sl i
  unfold SlR at q
  rw [hs] at q
  obtain ⟨v, hv, o⟩ := q
  have rp : Rp C.K (fun a => Z a ∨ a ∈ Fs i) H v d := o.give (fun a h => .inl h) fun a h => .inr h
  have hi : i < ρ.length := slot_lt (by rw [hs]; intro z; cases z)
  have kp : Keeps Z (fun a => Z a ∨ a ∈ Fs i) H H := ⟨fun _ _ _ r => r, fun _ _ _ r => r, fun _ _ _ _ _ r => r, fun _ _ r => r, fun _ z => .inl z, fun _ _ _ r => r, fun _ _ r _ _ => r⟩
  refine ⟨v, hv, rp, ⟨fun j => ?_, fun j => ?_, fun j l a h1 h2 => ?_, fun j a h z => ?_, fun a z => ?_, S.tb, by rw [List.length_set]; exact S.len⟩, ⟨fun _ _ h _ _ => h, fun _ h => .inl h, fun a h => ?_, fun a h => .inl (inF_nil h).1, fun _ o h n => ⟨o, h, n⟩⟩⟩
  · rw [slot_set]
    by_cases e : i = j
    · subst e
      rw [if_pos ⟨rfl, hi⟩]
      exact ⟨fset_same _ _ _, v, hv, rp⟩
    · rw [if_neg (fun z => e z.1), fset_ne _ _ (Ne.symm e)]
      have q := S.sl j
      unfold SlR at q ⊢
      cases hj : slot ρ j with
      | un => rw [hj] at q; exact q
      | fz d => rw [hj] at q; obtain ⟨e, v, hv, r⟩ := q; exact ⟨e, v, hv, r.keep kp⟩
      | ow k d => rw [hj] at q; obtain ⟨v, hv, r⟩ := q; exact ⟨v, hv, r.keep kp fun _ _ _ h => h⟩
      | rf t k d => rw [hj] at q; exact ⟨q.1, q.2.keep kp fun _ _ _ h => h⟩
      | ro t d => rw [hj] at q; obtain ⟨e, hv, a, xs, ds, ht, hd, h1, h2⟩ := q; exact ⟨e, hv, a, xs, ds, ht, hd, kp.roL h1, RpAll.keep kp _ _ h2⟩
      | kn t => rw [hj] at q; exact ⟨q.1, q.2.1, fun p hp => ⟨kp.ks _ _ (q.2.2 p hp).1 (q.2.2 p hp).2.1 (q.2.2 p hp).2.2, (q.2.2 p hp).2⟩⟩
  · by_cases e : j = i
    · subst e; rw [fset_same]; exact .nil
    · rw [fset_ne _ _ e]; exact S.nd j
  · by_cases e : j = i
    · subst e; rw [fset_same] at h1; simp at h1
    · by_cases e2 : l = i
      · subst e2; rw [fset_same] at h2; simp at h2
      · rw [fset_ne _ _ e] at h1; rw [fset_ne _ _ e2] at h2
        exact S.dj j l a h1 h2
  · by_cases e : j = i
    · subst e; rw [fset_same] at h; simp at h
    · rw [fset_ne _ _ e] at h
      rcases z with z | z
      · exact S.zf j a h z
      · exact e (S.dj j i a h z)
  · rcases z with z | z
    · exact S.zin a z
    · obtain ⟨o, h, l⟩ := S.obj z
      exact ⟨o, h, l.nt⟩
  · rcases h with h | h
    · exact .inl h
    · exact .inr (.inl ⟨i, h⟩)
end
theorem tE_nm {C : Fix} {i : Nat} (σ : L2.St) (H : Hp) (Q : VK) (t : tE C W (nm i) σ H Q) : tVar i σ H Q := by
  obtain ⟨Z, Fs, ρ, r, ρ', S, e, k⟩ := t
  unfold nm at e
  have q := S.sl i
  unfold SlR at q
  cases hs : slot ρ i with
  | un => rw [hs] at e; cases e
  | rf _ _ _ => rw [hs] at e; cases e
  | ro _ _ => rw [hs] at e; cases e
  | kn _ => rw [hs] at e; cases e
  | fz d =>
    rw [hs] at e q
    cases e
    obtain ⟨_, v, hv, rp⟩ := q
    exact ⟨v, hv, k v H Z Fs (Ext.refl _ _ _) S rp⟩
  | ow n d =>
    rw [hs] at e
    cases e
    obtain ⟨v, hv, rp, S', ex⟩ := S.give hs
    exact ⟨v, hv, k v H _ _ ex S' rp⟩
theorem se_nm {i : Nat} {x : Str} (h : PE X (.Name x pos) (tVar i)) : PE X (.Name x pos) (tE (fx X B) W (nm i)) := PE_imp h fun σ H Q t => tE_nm σ H Q t
/-- an operand -/
theorem so_ex {m : EM D} (h : PE X e (tE (fx X B) W m)) : PE X e (tO (fx X B) W (.ex m)) := h
theorem so_sl {i : Nat} {x : Str} (h : PE X (.Name x pos) (tVar i)) : PE X (.Name x pos) (tO (fx X B) W (.sl i)) := h

/-! ### operators -/
theorem opt_k {C : Fix} {Z : AP'} {Fs : Nat → List Addr} {H : Hp} {σ : L2.St} {ρ ρ' : Env'} {α : Type} {o : Option α} {r : Except Exn α} {k : α → Prop} (h : opt o ρ = some (r, ρ')) (q : Out C W Z Fs H σ r ρ' k) : ∃ a, o = some a ∧ ρ' = ρ ∧ k a := by
  obtain ⟨a, e1, e2, e3⟩ := opt_inv h
  subst e2
  exact ⟨a, e1, e3, q⟩
theorem tE_bin {C : Fix} {o1 o2 : Opd} {op : D → D → Option D} {r : R2} (hop : OpD C r op) (σ : L2.St) (H : Hp) (Q : VK) (t : tE C W (bin o1 o2 op) σ H Q) : tOp r (tO C W o1) (tO C W o2) σ H Q := by
  obtain ⟨Z, Fs, ρ, rr, ρ', S, e, k⟩ := t
  have her : ∀ x, rr = .error x → EW C W Z Fs H σ x ρ' := fun x q => by subst q; exact k
  refine tO_of S e her fun x ρ1 v H1 Z1 Fs1 e1 x1 S1 h1 => ?_
  refine tO_of S1 e1 (fun x q => (her x q).before x1) fun y ρ2 u H2 Z2 Fs2 e2 x2 S2 h2 => ?_
  obtain ⟨d, rd, e3⟩ := (h1.keep (S1.keeps x2)).fin S2 e2
  obtain ⟨d2, rd2, e4⟩ := h2.fin S2 e3
  obtain ⟨z, ez, rfl, kz⟩ := opt_k e4 k
  exact hop Z2 Fs2 _ σ H2 v u d d2 z Q S2 rd rd2 ez fun w H' Z' x3 S3 rp => kz w H' Z' Fs2 ((x1.trans x2).trans x3) S3 rp
theorem se_bin {o1 o2 : Opd} {op : Operator} {f : D → D → Option D} {r : R2} (ho : OpR X (binaryOp op) r) (hop : OpD (fx X B) r f) (ha : PE X a (tO (fx X B) W o1)) (hb : PE X b (tO (fx X B) W o2)) :
    PE X (.BinOp a op b pos) (tE (fx X B) W (bin o1 o2 f)) := PE_imp (pe_op ho ha hb) fun σ H Q t => tE_bin hop σ H Q t
theorem se_cmp {o1 o2 : Opd} {op : CmpOp} {f : D → D → Option D} {r : R2} (ho : OpR X (compareOp op) r) (hop : OpD (fx X B) r f) (ha : PE X a (tO (fx X B) W o1)) (hb : PE X b (tO (fx X B) W o2)) (hm : behindInMarks op b = false := by rfl) :
    PE X (.Compare a [op] [b] pos) (tE (fx X B) W (bin o1 o2 f)) := PE_imp (pe_cmpR ho ha hb hm) fun σ H Q t => tE_bin hop σ H Q t
theorem se_idx {o1 o2 : Opd} {f : D → D → Option D} {r : R2} (ho : IxR X r) (hop : OpD (fx X B) r f) (ha : PE X a (tO (fx X B) W o1)) (hb : PE X b (tO (fx X B) W o2)) (hs : PlainIx b := by exact fun _ _ => rfl) :
    PE X (.Subscript a b pos) (tE (fx X B) W (bin o1 o2 f)) := PE_imp (pe_ix ho ha hb hs) fun σ H Q t => tE_bin hop σ H Q t
def UnD (C : Fix) (r : V → Hp → VK → Prop) (op : D → Option D) : Prop :=
  ∀ (Z : AP') (Fs : Nat → List Addr) (ρ : Env') (σ : L2.St) (H : Hp) (x : V) (d z : D) (Q : VK), Sim C Z Fs ρ σ H → RpT C.K Z H x d → op d = some z →
    (∀ v H' Z', Ext Z H (InF Fs) Z' H' (InF Fs) → Sim C Z' Fs ρ σ H' → Rp C.K Z' H' v z → Q v H') → r x H Q
theorem tE_un1 {C : Fix} {o : Opd} {op : D → Option D} {r : V → Hp → VK → Prop} (hop : UnD C r op) (σ : L2.St) (H : Hp) (Q : VK) (t : tE C W (un1 o op) σ H Q) : tO C W o σ H fun x H1 => r x H1 Q := by
  obtain ⟨Z, Fs, ρ, rr, ρ', S, e, k⟩ := t
  have her : ∀ x, rr = .error x → EW C W Z Fs H σ x ρ' := fun x q => by subst q; exact k
  refine tO_of S e her fun x ρ1 v H1 Z1 Fs1 e1 x1 S1 h1 => ?_
  obtain ⟨d, rd, e3⟩ := h1.fin S1 e1
  obtain ⟨z, ez, rfl, kz⟩ := opt_k e3 k
  exact hop Z1 Fs1 _ σ H1 v d z Q S1 rd ez fun w H' Z' x3 S3 rp => kz w H' Z' Fs1 (x1.trans x3) S3 rp
theorem ud_neg {C : Fix} : UnD C (rU fun i => .int (-i)) negD := by
  intro Z Fs ρ σ H x d z Q S rx h k
  unfold negD at h
  split at h
  · cases h
    exact ⟨_, rx.int, fin0 S (.int _) k⟩
  · cases h
theorem se_neg {o : Opd} (ha : PE X a (tO (fx X B) W o)) : PE X (.UnaryOp .USub a pos) (tE (fx X B) W (un1 o negD)) := PE_imp (pe_un un_neg ha) fun σ H Q t => tE_un1 ud_neg σ H Q t

/-! ### calls of built-ins with one value, with two -/
def r1 (r : List V → Hp → VK → Prop) : V → Hp → VK → Prop := fun x H Q => r [x] H Q
def r2 (r : List V → Hp → VK → Prop) : R2 := fun x y H Q => r [x, y] H Q
theorem se_callB1 {x : Str} {p : Pos} {id : String} {r : List V → Hp → VK → Prop} {o : Opd} {f : D → Option D} (hc : CallR X (.builtin id) r) (hg : Gl X x) (hm : X.mg x = none) (hv : bootBuiltins x = some (.builtin id)) (hop : UnD (fx X B) (r1 r) f) (ha : PE X a (tO (fx X B) W o))
    (hn : x ≠ "__name__" := by decide) (hdb : (x == ("__debug__" : Str)) = false := by decide) (he : starEach [a] X.env = (false, eval a X.env) :: starEach [] X.env := by rfl) (hpl : (backTo pos (starEach [] X.env)).any (·.1) = false := by rfl) :
    PE X (.Call (.Name x p) [a] [] pos) (tE (fx X B) W (un1 o f)) := PE_imp (pe_callB hc hg hm hv (pa_cons ha pa_nil he) hn hdb he hpl) fun σ H Q t => tE_un1 hop σ H Q t
theorem se_callT1 {x : Str} {p : Pos} {id : String} {r : List V → Hp → VK → Prop} {o : Opd} {f : D → Option D} (hc : CallR X (.type id) r) (hg : Gl X x) (hm : X.mg x = none) (hv : bootBuiltins x = some (.type id)) (hop : UnD (fx X B) (r1 r) f) (ha : PE X a (tO (fx X B) W o))
    (hn : x ≠ "__name__" := by decide) (hdb : (x == ("__debug__" : Str)) = false := by decide) (he : starEach [a] X.env = (false, eval a X.env) :: starEach [] X.env := by rfl) (hpl : (backTo pos (starEach [] X.env)).any (·.1) = false := by rfl) :
    PE X (.Call (.Name x p) [a] [] pos) (tE (fx X B) W (un1 o f)) := PE_imp (pe_callTy hc hg hm hv (pa_cons ha pa_nil he) hn hdb he hpl) fun σ H Q t => tE_un1 hop σ H Q t
theorem se_callB2 {x : Str} {p : Pos} {id : String} {r : List V → Hp → VK → Prop} {o1 o2 : Opd} {f : D → D → Option D} (hc : CallR X (.builtin id) r) (hg : Gl X x) (hm : X.mg x = none) (hv : bootBuiltins x = some (.builtin id)) (hop : OpD (fx X B) (r2 r) f) (ha : PE X a (tO (fx X B) W o1)) (hb : PE X b (tO (fx X B) W o2))
    (hn : x ≠ "__name__" := by decide) (hdb : (x == ("__debug__" : Str)) = false := by decide) (he : starEach [a, b] X.env = (false, eval a X.env) :: starEach [b] X.env := by rfl) (he2 : starEach [b] X.env = (false, eval b X.env) :: starEach [] X.env := by rfl) (hpl : (backTo pos (starEach [b] X.env)).any (·.1) = false := by rfl) :
    PE X (.Call (.Name x p) [a, b] [] pos) (tE (fx X B) W (bin o1 o2 f)) := PE_imp (pe_callB hc hg hm hv (pa_cons ha (pa_cons hb pa_nil he2) he) hn hdb he hpl) fun σ H Q t => tE_bin (r := r2 r) hop σ H Q t

/-! ### tests -/
theorem st_cmp {o1 o2 : Opd} {op : CmpOp} {f : D → D → Option D} {r : R2} (ho : OpR X (compareOp op) r) (hop : OpD (fx X B) r f) (ha : PE X a (tO (fx X B) W o1)) (hb : PE X b (tO (fx X B) W o2)) (hm : behindInMarks op b = false := by rfl) :
    PT X (.Compare a [op] [b] pos) (tT (fx X B) W (tVal (bin o1 o2 f))) := by
  refine PT_imp (pt_cmpR ho ha hb hm) fun σ H Q t => ?_
  obtain ⟨Z, Fs, ρ, rr, ρ', S, e, k⟩ := t
  have her : ∀ x, rr = .error x → EW (fx X B) W Z Fs H σ x ρ' := fun x q => by subst q; exact k
  refine tE_bin hop σ H _ (tE_of S e her fun d ρ1 v H1 Z1 Fs1 e1 x1 S1 rp => ?_)
  unfold boolOf at e1
  split at e1
  · cases e1
    cases rp
    exact ⟨_, rfl, k H1 Z1 Fs1 x1 S1⟩
  · cases e1
theorem st_val {m : EM D} (h : PE X e (tE (fx X B) W m)) (he : ∀ whole, isTrue e X.env whole = (do let v ← whole; standAt e.pos; holding [v] (truthy v)) := by intro _; rfl) : PT X e (tT (fx X B) W (tVal m)) := by
  refine PT_imp (pt_val h he) fun σ H Q t => ?_
  obtain ⟨Z, Fs, ρ, rr, ρ', S, e, k⟩ := t
  have her : ∀ x, rr = .error x → EW (fx X B) W Z Fs H σ x ρ' := fun x q => by subst q; exact k
  refine tE_of S e her fun d ρ1 v H1 Z1 Fs1 e1 x1 S1 rp => ?_
  unfold boolOf at e1
  split at e1
  · cases e1
    cases rp
    exact ⟨_, rfl, k H1 Z1 Fs1 x1 S1⟩
  · cases e1
theorem st_not {m : EM Bool} (h : PT X a (tT (fx X B) W m)) : PT X (.UnaryOp .Not a pos) (tT (fx X B) W (tNotM m)) := by
  refine PT_imp (pt_not h) fun σ H Q t => ?_
  obtain ⟨Z, Fs, ρ, rr, ρ', S, e, k⟩ := t
  have her : ∀ x, rr = .error x → EW (fx X B) W Z Fs H σ x ρ' := fun x q => by subst q; exact k
  refine tT_of S e her fun d ρ1 H1 Z1 Fs1 e1 x1 S1 => ?_
  cases e1
  exact k H1 Z1 Fs1 x1 S1
theorem sw_and1 {m : EM Bool} (h : PT X a (tT (fx X B) W m)) : PW X (.BoolOp .And [a] pos) (tT (fx X B) W m) := pw_and1 h
theorem sw_or1 {m : EM Bool} (h : PT X a (tT (fx X B) W m)) : PW X (.BoolOp .Or [a] pos) (tT (fx X B) W m) := pw_or1 h
theorem PW_imp {t t' : TT} (h : PW X e t) (i : ∀ σ H Q, t' σ H Q → t σ H Q) : PW X e t' := ⟨fun wh pins s σ H Q I q => h.run wh pins s σ H Q I (i σ H Q q)⟩
theorem sw_and {m n : EM Bool} (h : PT X a (tT (fx X B) W m)) (h2 : PW X (.BoolOp .And (b :: es) pos) (tT (fx X B) W n)) : PW X (.BoolOp .And (a :: b :: es) pos) (tT (fx X B) W (tAndM m n)) := by
  refine PW_imp (pw_and h h2) fun σ H Q t => ?_
  obtain ⟨Z, Fs, ρ, rr, ρ', S, e, k⟩ := t
  have her : ∀ x, rr = .error x → EW (fx X B) W Z Fs H σ x ρ' := fun x q => by subst q; exact k
  refine tT_of S e her fun d ρ1 H1 Z1 Fs1 e1 x1 S1 => ?_
  cases d with
  | true =>
    rw [if_pos rfl] at e1 ⊢
    refine ⟨Z1, Fs1, ρ1, rr, ρ', S1, e1, ?_⟩
    cases rr with
    | ok b => exact fun H' Z' Fs' x2 S2 => k H' Z' Fs' (x1.trans x2) S2
    | error x => exact EW.before x1 k
  | false =>
    rw [if_neg Bool.false_ne_true] at e1 ⊢
    cases e1
    exact k H1 Z1 Fs1 x1 S1
theorem sw_or {m n : EM Bool} (h : PT X a (tT (fx X B) W m)) (h2 : PW X (.BoolOp .Or (b :: es) pos) (tT (fx X B) W n)) : PW X (.BoolOp .Or (a :: b :: es) pos) (tT (fx X B) W (tOrM m n)) := by
  refine PW_imp (pw_or h h2) fun σ H Q t => ?_
  obtain ⟨Z, Fs, ρ, rr, ρ', S, e, k⟩ := t
  have her : ∀ x, rr = .error x → EW (fx X B) W Z Fs H σ x ρ' := fun x q => by subst q; exact k
  refine tT_of S e her fun d ρ1 H1 Z1 Fs1 e1 x1 S1 => ?_
  cases d with
  | false =>
    rw [if_neg Bool.false_ne_true] at e1 ⊢
    refine ⟨Z1, Fs1, ρ1, rr, ρ', S1, e1, ?_⟩
    cases rr with
    | ok b => exact fun H' Z' Fs' x2 S2 => k H' Z' Fs' (x1.trans x2) S2
    | error x => exact EW.before x1 k
  | true =>
    rw [if_pos rfl] at e1 ⊢
    cases e1
    exact k H1 Z1 Fs1 x1 S1
theorem tru_of {C : Fix} {Z : AP'} {H : Hp} {v : V} {d : D} {b : Bool} (r : RpT C.K Z H v d) (h : truD d = some b) : TruV C.K v H b := by
  cases d with
  | none => cases h; rw [r.none]; exact rfl
  | bool x => cases h; rw [r.bool]; exact rfl
  | int x => cases h; rw [r.int]; exact rfl
  | str x =>
    unfold truD at h
    simp only at h
    split at h
    · rename_i hl
      cases h; rw [r.str]
      exact ⟨by rw [sizeL]; exact hl, rfl⟩
    · cases h
  | list ds =>
    cases h
    obtain ⟨a, xs, rfl, h1, h2⟩ := r
    refine .inl ⟨xs, .of h1, ?_⟩
    cases h2 <;> rfl
  | tuple ds =>
    cases h
    obtain ⟨a, xs, rfl, h1, h2⟩ := r.tup
    refine .inr (.inl ⟨xs, h1.sq, ?_⟩)
    cases h2 <;> rfl
  | dict kvs => cases h
theorem st_tru {o : Opd} (h : PE X e (tO (fx X B) W o)) (he : ∀ whole, isTrue e X.env whole = (do let v ← whole; standAt e.pos; holding [v] (truthy v)) := by intro _; rfl) : PT X e (tT (fx X B) W (tTru o)) := by
  refine PT_imp (pt_truth h he) fun σ H Q t => ?_
  obtain ⟨Z, Fs, ρ, rr, ρ', S, e, k⟩ := t
  have her : ∀ x, rr = .error x → EW (fx X B) W Z Fs H σ x ρ' := fun x q => by subst q; exact k
  refine tO_of S e her fun x ρ1 v H1 Z1 Fs1 e1 x1 S1 h1 => ?_
  obtain ⟨d, rd, e3⟩ := h1.fin S1 e1
  obtain ⟨z, ez, rfl, kz⟩ := opt_k e3 k
  exact ⟨z, tru_of rd ez, kz H1 Z1 Fs1 x1 S1⟩
/-! ### values made of tests -/
theorem se_if {m : EM Bool} {m1 m2 : EM D} (h : PT X c (tT (fx X B) W m)) (h1 : PE X a (tE (fx X B) W m1)) (h2 : PE X b (tE (fx X B) W m2)) : PE X (.IfExp c a b pos) (tE (fx X B) W (ifE m m1 m2)) := by
  refine PE_imp (pe_ifExp h h1 h2) fun σ H Q t => ?_
  obtain ⟨Z, Fs, ρ, rr, ρ', S, e, k⟩ := t
  have her : ∀ x, rr = .error x → EW (fx X B) W Z Fs H σ x ρ' := fun x q => by subst q; exact k
  refine tT_of S e her fun d ρ1 H1 Z1 Fs1 e1 x1 S1 => ?_
  have fin : ∀ m3 : EM D, m3 ρ1 = some (rr, ρ') → tE (fx X B) W m3 σ H1 Q := fun m3 e3 => by
    refine ⟨Z1, Fs1, ρ1, rr, ρ', S1, e3, ?_⟩
    cases rr with
    | ok b => exact fun v H' Z' Fs' x2 S2 => k v H' Z' Fs' (x1.trans x2) S2
    | error x => exact EW.before x1 k
  cases d with
  | true => rw [if_pos rfl] at e1 ⊢; exact fin _ e1
  | false => rw [if_neg Bool.false_ne_true] at e1 ⊢; exact fin _ e1
theorem se_not {m : EM D} (h : PE X a (tE (fx X B) W m)) : PE X (.UnaryOp .Not a pos) (tE (fx X B) W (notV (tVal m))) := by
  refine PE_imp (pe_not h) fun σ H Q t => ?_
  obtain ⟨Z, Fs, ρ, rr, ρ', S, e, k⟩ := t
  have her : ∀ x, rr = .error x → EW (fx X B) W Z Fs H σ x ρ' := fun x q => by subst q; exact k
  have e' : bnd m (fun d => bnd (boolOf d) fun x => EM.ret (.bool (!x))) ρ = some (rr, ρ') := by
    rw [← e]
    unfold notV tVal bnd
    cases m ρ with
    | none => rfl
    | some p => obtain ⟨q, ρ1⟩ := p; cases q <;> rfl
  refine tE_of S e' her fun d ρ1 v H1 Z1 Fs1 e1 x1 S1 rp => ?_
  unfold boolOf at e1
  split at e1
  · cases e1
    cases rp
    exact ⟨_, rfl, k _ H1 Z1 Fs1 x1 S1 (.bl _)⟩
  · cases e1
theorem se_one {op : PySem.BoolOp} {m : EM D} (h : PE X a (tE (fx X B) W m)) : PE X (.BoolOp op [a] pos) (tE (fx X B) W m) := pe_one h
theorem se_and {m n : EM D} (h : PE X a (tE (fx X B) W m)) (h2 : PE X (.BoolOp .And (b :: es) pos) (tE (fx X B) W n)) : PE X (.BoolOp .And (a :: b :: es) pos) (tE (fx X B) W (andV m n)) := by
  refine PE_imp (pe_and h h2) fun σ H Q t => ?_
  obtain ⟨Z, Fs, ρ, rr, ρ', S, e, k⟩ := t
  have her : ∀ x, rr = .error x → EW (fx X B) W Z Fs H σ x ρ' := fun x q => by subst q; exact k
  refine tE_of S e her fun d ρ1 v H1 Z1 Fs1 e1 x1 S1 rp => ?_
  unfold boolOf at e1
  split at e1
  · rename_i bb
    cases rp
    refine ⟨bb, rfl, ?_⟩
    cases bb with
    | true =>
      rw [if_pos rfl]
      refine ⟨Z1, Fs1, ρ1, rr, ρ', S1, e1, ?_⟩
      cases rr with
      | ok b => exact fun v H' Z' Fs' x2 S2 => k v H' Z' Fs' (x1.trans x2) S2
      | error x => exact EW.before x1 k
    | false =>
      rw [if_neg Bool.false_ne_true]
      cases e1
      exact k _ H1 Z1 Fs1 x1 S1 (.bl _)
  · cases e1
theorem se_or {m n : EM D} (h : PE X a (tE (fx X B) W m)) (h2 : PE X (.BoolOp .Or (b :: es) pos) (tE (fx X B) W n)) : PE X (.BoolOp .Or (a :: b :: es) pos) (tE (fx X B) W (orV m n)) := by
  refine PE_imp (pe_or h h2) fun σ H Q t => ?_
  obtain ⟨Z, Fs, ρ, rr, ρ', S, e, k⟩ := t
  have her : ∀ x, rr = .error x → EW (fx X B) W Z Fs H σ x ρ' := fun x q => by subst q; exact k
  refine tE_of S e her fun d ρ1 v H1 Z1 Fs1 e1 x1 S1 rp => ?_
  unfold boolOf at e1
  split at e1
  · rename_i bb
    cases rp
    refine ⟨bb, rfl, ?_⟩
    cases bb with
    | false =>
      rw [if_neg Bool.false_ne_true]
      refine ⟨Z1, Fs1, ρ1, rr, ρ', S1, e1, ?_⟩
      cases rr with
      | ok b => exact fun v H' Z' Fs' x2 S2 => k v H' Z' Fs' (x1.trans x2) S2
      | error x => exact EW.before x1 k
    | true =>
      rw [if_pos rfl]
      cases e1
      exact k _ H1 Z1 Fs1 x1 S1 (.bl _)
  · cases e1
/-! ### arguments and displays -/
theorem sa_nil : PA X [] (tA (fx X B) W aNil) := PA_imp pa_nil fun σ H Q t => by
  obtain ⟨Z, Fs, ρ, rr, ρ', S, e, k⟩ := t
  unfold aNil EM.ret at e
  cases e
  exact k _ H Z Fs (Ext.refl _ _ _) S .nil
theorem sa_cons {m : EM D} {n : EM (List D)} (h : PE X e (tE (fx X B) W m)) (h2 : PA X es (tA (fx X B) W n)) (hs : starEach (e :: es) X.env = (false, eval e X.env) :: starEach es X.env := by rfl) : PA X (e :: es) (tA (fx X B) W (aCons m n)) := by
  refine PA_imp (pa_cons h h2 hs) fun σ H Q t => ?_
  obtain ⟨Z, Fs, ρ, rr, ρ', S, e, k⟩ := t
  have her : ∀ x, rr = .error x → EW (fx X B) W Z Fs H σ x ρ' := fun x q => by subst q; exact k
  refine tE_of S e her fun d ρ1 v H1 Z1 Fs1 e1 x1 S1 rp => ?_
  refine tA_of S1 e1 (fun x q => (her x q).before x1) fun ds ρ2 vs H2 Z2 Fs2 e2 x2 S2 rps => ?_
  cases e2
  exact k _ H2 Z2 Fs2 (x1.trans x2) S2 (.cons (rp.keep (S1.keeps x2)) rps)
theorem sa_star {m : EM D} {n : EM (List D)} {p : Pos} (h : PE X e (tE (fx X B) W m)) (h2 : PA X es (tA (fx X B) W n)) (hs : starEach (.Starred e p :: es) X.env = (true, eval e X.env) :: starEach es X.env := by rfl) : PA X (.Starred e p :: es) (tA (fx X B) W (aStar m n)) := by
  refine PA_imp (StX.pa_star h h2 hs) fun σ H Q t => ?_
  obtain ⟨Z, Fs, ρ, rr, ρ', S, e, k⟩ := t
  have her : ∀ x, rr = .error x → EW (fx X B) W Z Fs H σ x ρ' := fun x q => by subst q; exact k
  refine tE_of S e her fun d ρ1 v H1 Z1 Fs1 e1 x1 S1 rp => ?_
  rcases bnd_inv e1 with ⟨es', ρ1', q1, e5⟩ | ⟨x, q1, q2⟩
  · obtain ⟨_, q3, q4, rfl⟩ := opt_inv q1
    cases q4
    have two : ∃ a xs, v = .ref a ∧ (SqT X.K H1 a xs ∨ SqL X.K H1 a xs) ∧ RpAll X.K Z1 H1 xs es' := by
      cases rp with
      | lst h1 h2 => cases q3; exact ⟨_, _, rfl, .inr h1.seq, h2⟩
      | tup h1 h2 => cases q3; exact ⟨_, _, rfl, .inl h1.sq, h2⟩
      | _ => cases q3
    obtain ⟨a, xs, rfl, hsq, rx⟩ := two
    refine ⟨a, xs, rfl, hsq, ?_⟩
    refine tA_of S1 e5 (fun x q => (her x q).before x1) fun ds ρ2 vs H2 Z2 Fs2 e2 x2 S2 rps => ?_
    cases e2
    exact k _ H2 Z2 Fs2 (x1.trans x2) S2 (RpAll.append (RpAll.keep (S1.keeps x2) _ _ rx) rps)
  · obtain ⟨_, _, q4, _⟩ := opt_inv q1
    cases q4
theorem se_tup {n : EM (List D)} {x1 : Nat} (h : PA X es (tA (fx X B) W n)) : PE X (.Tuple es x1 pos) (tE (fx X B) W (eTup n)) := by
  refine PE_imp (pe_tupF h) fun σ H Q t => ?_
  obtain ⟨Z, Fs, ρ, rr, ρ', S, e, k⟩ := t
  have her : ∀ x, rr = .error x → EW (fx X B) W Z Fs H σ x ρ' := fun x q => by subst q; exact k
  refine tA_of S e her fun ds ρ1 vs H1 Z1 Fs1 e1 x1 S1 rp => ?_
  split at e1
  · rename_i hl
    cases e1
    exact ⟨by rw [sizeL, rp.length]; exact hl, finTT S1 rp fun v H' Z' x2 S2 r2 => k v H' Z' Fs1 (x1.trans x2) S2 r2⟩
  · cases e1
/-- where it is no tuple of names -/
def eTupW (m : EM (List D)) : EM D := bnd m fun ds => if ds.length ≤ 16777216 ∧ StrT ds = false then EM.ret (.tuple ds) else stuck
theorem se_tupW {n : EM (List D)} {x1 : Nat} (h : PA X es (tA (fx X B) W n)) : PE X (.Tuple es x1 pos) (tE (fx X B) W (eTupW n)) := by
  refine PE_imp (pe_tup h) fun σ H Q t => ?_
  obtain ⟨Z, Fs, ρ, rr, ρ', S, e, k⟩ := t
  have her : ∀ x, rr = .error x → EW (fx X B) W Z Fs H σ x ρ' := fun x q => by subst q; exact k
  refine tA_of S e her fun ds ρ1 vs H1 Z1 Fs1 e1 x1 S1 rp => ?_
  split at e1
  · rename_i hl
    cases e1
    exact ⟨by rw [sizeL, rp.length]; exact hl.1, fun p hp => finT S1 hp rp hl.2 fun v H' Z' x2 S2 r2 => k v H' Z' Fs1 (x1.trans x2) S2 r2⟩
  · cases e1
theorem se_lst {n : EM (List D)} (h : PA X es (tA (fx X B) W n)) : PE X (.List es pos) (tE (fx X B) W (eLst n)) := by
  refine PE_imp (pe_lst h) fun σ H Q t => ?_
  obtain ⟨Z, Fs, ρ, rr, ρ', S, e, k⟩ := t
  have her : ∀ x, rr = .error x → EW (fx X B) W Z Fs H σ x ρ' := fun x q => by subst q; exact k
  refine tA_of S e her fun ds ρ1 vs H1 Z1 Fs1 e1 x1 S1 rp => ?_
  split at e1
  · rename_i hl
    cases e1
    exact ⟨by rw [sizeL, rp.length]; exact hl, fun p hp => finL S1 hp rp fun v H' Z' x2 S2 r2 => k v H' Z' Fs1 (x1.trans x2) S2 r2⟩
  · cases e1
/-! ### items and cuts -/
theorem atI_of {C : Fix} {Z : AP'} {H : Hp} {xs : List V} {ds : List D} {i : Int} {d : D} (r : RpAll C.K Z H xs ds) (h : atD ds i = some d) : ∃ v, atI xs i = some v ∧ Rp C.K Z H v d := by
  unfold atD at h
  unfold atI
  rw [r.length]
  cases q : ixN ds.length i with
  | none => rw [q] at h; cases h
  | some j => rw [q] at h; exact r.get h
theorem od_idx {C : Fix} : OpD C (rIx C.K) idxD := by
  intro Z Fs ρ σ H x y d e z Q S rx ry h k
  unfold idxD at h
  split at h
  · obtain ⟨p, xs, rfl, h1, r1⟩ := rx
    obtain ⟨v, hv, rv⟩ := atI_of r1 h
    exact .inl ⟨p, xs, _, v, rfl, ry.int, .of h1, hv, fin0 S rv k⟩
  · obtain ⟨p, xs, rfl, h1, r1⟩ := rx.tup
    obtain ⟨v, hv, rv⟩ := atI_of r1 h
    exact .inr (.inl ⟨p, xs, _, v, rfl, ry.int, h1.sq, hv, fin0 S rv k⟩)
  · cases h
def tP (C : Fix) (W : WX) (m : Option (EM D)) : TO := fun σ H Q => ∃ Z Fs ρ r ρ', Sim C Z Fs ρ σ H ∧ partM m ρ = some (r, ρ') ∧
  Out C W Z Fs H σ r ρ' fun o => ∀ H' Z' Fs', Ext Z H (InF Fs) Z' H' (InF Fs') → Sim C Z' Fs' ρ' σ H' → Q o H'
theorem PO_imp {eo : Option Expr} {t t' : TO} (h : PO X eo t) (i : ∀ σ H Q, t' σ H Q → t σ H Q) : PO X eo t' := ⟨fun pins s σ H Q I q => h.run pins s σ H Q I (i σ H Q q)⟩
theorem sp_none : PO X none (tP (fx X B) W none) := PO_imp po_none fun σ H Q t => by
  obtain ⟨Z, Fs, ρ, rr, ρ', S, e, k⟩ := t
  unfold partM EM.ret at e
  cases e
  exact k H Z Fs (Ext.refl _ _ _) S
theorem sp_some {m : EM D} (h : PE X e (tE (fx X B) W m)) : PO X (some e) (tP (fx X B) W (some m)) := PO_imp (po_some h) fun σ H Q t => by
  obtain ⟨Z, Fs, ρ, rr, ρ', S, e, k⟩ := t
  have her : ∀ x, rr = .error x → EW (fx X B) W Z Fs H σ x ρ' := fun x q => by subst q; exact k
  refine tE_of (f := intO) S e her fun d ρ1 v H1 Z1 Fs1 e1 x1 S1 rp => ?_
  unfold intO at e1
  split at e1
  · cases e1
    cases rp
    exact ⟨_, rfl, k H1 Z1 Fs1 x1 S1⟩
  · cases e1
theorem tP_of {C : Fix} {Z : AP'} {Fs : Nat → List Addr} {H : Hp} {σ : L2.St} {ρ ρ' : Env'} {β : Type} {m : Option (EM D)} {f : Option Int → EM β} {r : Except Exn β} {Q : Option Int → Hp → Prop} (S : Sim C Z Fs ρ σ H) (h : bnd (partM m) f ρ = some (r, ρ')) (her : ∀ x, r = .error x → EW C W Z Fs H σ x ρ')
    (hok : ∀ d ρ1 H1 Z1 Fs1, f d ρ1 = some (r, ρ') → Ext Z H (InF Fs) Z1 H1 (InF Fs1) → Sim C Z1 Fs1 ρ1 σ H1 → Q d H1) : tP C W m σ H Q := by
  rcases bnd_inv h with ⟨d, ρ1, e1, e2⟩ | ⟨x, e1, e2⟩
  · exact ⟨Z, Fs, ρ, .ok d, ρ1, S, e1, fun H' Z' Fs' e S' => hok d ρ1 H' Z' Fs' e2 e S'⟩
  · exact ⟨Z, Fs, ρ, .error x, ρ', S, e1, her x e2⟩
def rSl2 (K : PySem.W.Frag) : V → Option Int → Option Int → Hp → VK → Prop := fun x lo hi H Q => rSlL K x lo hi H Q ∨ rSlF K x lo hi H Q
theorem sl_two : L2.SlR X (rSl2 X.K) := sl_list.or sl_tupF
theorem RpAll.cut {C : Fix} {Z : AP'} {H : Hp} {xs : List V} {ds : List D} (r : RpAll C.K Z H xs ds) (lo hi : Option Int) : RpAll C.K Z H (cutV xs lo hi) (cutD ds lo hi) := by
  unfold cutV cutD
  rw [r.length]
  exact (r.drop _).take _
theorem cutD_whole {ds : List D} {lo hi : Option Int} (h1 : HT.sIx ds.length 0 lo = 0) (h2 : HT.sIx ds.length ds.length hi = ds.length) : cutD ds lo hi = ds := by
  unfold cutD
  rw [h1, h2, List.drop_zero, Nat.sub_zero, List.take_length]
theorem se_slice {o : Opd} {lo hi : Option Expr} {l h : Option (EM D)} {p2 : Pos} (he : PE X e (tO (fx X B) W o)) (hl : PO X lo (tP (fx X B) W l)) (hh : PO X hi (tP (fx X B) W h)) : PE X (.Subscript e (.Slice lo hi none p2) pos) (tE (fx X B) W (eSl o l h)) := by
  refine PE_imp (pe_slice sl_two he hl hh) fun σ H Q t => ?_
  obtain ⟨Z, Fs, ρ, rr, ρ', S, e, k⟩ := t
  have her : ∀ x, rr = .error x → EW (fx X B) W Z Fs H σ x ρ' := fun x q => by subst q; exact k
  refine tO_of S e her fun x ρ1 v H1 Z1 Fs1 e1 x1 S1 h1 => ?_
  refine tP_of S1 e1 (fun x q => (her x q).before x1) fun lo' ρ2 H2 Z2 Fs2 e2 x2 S2 => ?_
  refine tP_of S2 e2 (fun x q => (her x q).before (x1.trans x2)) fun hi' ρ3 H3 Z3 Fs3 e3 x3 S3 => ?_
  obtain ⟨d, rd, e4⟩ := ((h1.keep (S1.keeps x2)).keep (S2.keeps x3)).fin S3 e3
  obtain ⟨z, ez, rfl, kz⟩ := opt_k e4 k
  have kz' : ∀ v H' Z', Ext Z3 H3 (InF Fs3) Z' H' (InF Fs3) → Sim (fx X B) Z' Fs3 ρ' σ H' → Rp X.K Z' H' v z → Q v H' := fun w H' Z' x4 S4 rp => kz w H' Z' Fs3 (((x1.trans x2).trans x3).trans x4) S4 rp
  unfold sliceD at ez
  split at ez
  · cases ez
    obtain ⟨a, xs, rfl, ha, r1⟩ := rd
    exact .inl ⟨a, xs, rfl, .of ha, fun p hp => finL S3 hp (r1.cut _ _) kz'⟩
  · cases ez
    obtain ⟨a, xs, rfl, ha, r1⟩ := rd.tup
    refine .inr ⟨a, xs, rfl, ha.sq, fun w => ?_, fun _ => finTT S3 (r1.cut _ _) kz'⟩
    have el := r1.length
    rw [el] at w
    rw [cutD_whole w.1 w.2] at kz'
    exact fin0 S3 (.tup ha r1) kz'
  · cases ez
end
end NH

/-! NhStmt: statements. A value may come with what it owns (tG); a new list is told as one (tF). -/
namespace NH
open PySem Spec PyProof.Rows L2
open EM

/-! ### computations -/
inductive Fl where
  | next | brk | cont
  | ret (k : Nat) (d : D)
def gE (m : EM D) : EM (Nat × D) := bnd m fun d => EM.ret (0, d)
def gF (m : EM (List D)) : EM (Nat × D) := bnd m fun ds => EM.ret (1, .list ds)
def eF (m : EM (List D)) : EM D := bnd m fun ds => EM.ret (.list ds)
/-- one's own list is handed on, its name holds nothing any more -/
def own (i : Nat) : EM (Nat × D) := fun ρ => match slot ρ i with
  | .fz d => some (.ok (0, d), ρ)
  | .ow k d => some (.ok (k, d), ρ.set i .un)
  | _ => none
def mkSl : Nat → D → Sl
  | 0, d => .fz d
  | k + 1, d => .ow (k + 1) d
def setSl (i : Nat) (s : Sl) : EM Unit := fun ρ => match slot ρ i with
  | .rf _ _ _ => none
  | .ro _ _ => none
  | .kn _ => none
  | _ => if i < ρ.length then some (.ok (), ρ.set i s) else none
def sSet (i : Nat) (m : EM (Nat × D)) : EM Fl := bnd m fun p => bnd (setSl i (mkSl p.1 p.2)) fun _ => EM.ret .next
def sRet (m : EM (Nat × D)) : EM Fl := bnd m fun p => EM.ret (.ret p.1 p.2)
def sExpr (m : EM D) : EM Fl := bnd m fun _ => EM.ret .next
def sNext : EM Fl := EM.ret .next
def sSeq (a b : EM Fl) : EM Fl := bnd a fun f => match f with
  | .next => b
  | f => EM.ret f
def sIf (c : EM Bool) (a b : EM Fl) : EM Fl := bnd c fun x => if x = true then a else b
inductive Tg where
  | nm (i : Nat)
  | tp (ts : List Tg)
mutual
def asgT : Tg → D → EM Unit
  | .nm i, d => setSl i (.fz d)
  | .tp ts, .tuple ds => if ds.length = ts.length then asgTs ts ds else stuck
  | .tp _, _ => stuck
def asgTs : List Tg → List D → EM Unit
  | [], [] => EM.ret ()
  | t :: ts, d :: ds => bnd (asgT t d) fun _ => asgTs ts ds
  | _, _ => stuck
end
def sAsg (t : Tg) (m : EM D) : EM Fl := bnd m fun d => bnd (asgT t d) fun _ => EM.ret .next
def forD (t : Tg) (b : EM Fl) : List D → EM Fl
  | [] => EM.ret .next
  | d :: ds => bnd (asgT t d) fun _ => bnd b fun f => match f with
    | .next => forD t b ds
    | .cont => forD t b ds
    | .brk => EM.ret .next
    | .ret k d => EM.ret (.ret k d)
def sFor (t : Tg) (src : EM (List D)) (b : EM Fl) : EM Fl := bnd src fun ds => forD t b ds
def whileF (c : EM Bool) (b : EM Fl) : Nat → EM Fl
  | 0 => stuck
  | n + 1 => bnd c fun x => if x = true then bnd b fun f => (match f with
    | .next => whileF c b n
    | .cont => whileF c b n
    | .brk => EM.ret .next
    | .ret k d => EM.ret (.ret k d)) else EM.ret .next
def sWhile (n : Nat) (c : EM Bool) (b : EM Fl) : EM Fl := whileF c b n

/-! ### readings -/
def FrU (Fs : Nat → List Addr) (Fr : List Addr) : AP' := fun a => InF Fs a ∨ a ∈ Fr
structure OwE (C : Fix) (Z : AP') (H : Hp) (Fs : Nat → List Addr) (Fr : List Addr) (k : Nat) (v : V) (d : D) : Prop where
  ow : Ow C.K Z H k v d Fr
  nd : Fr.Nodup
  fs : ∀ a ∈ Fr, ¬ InF Fs a
  z : ∀ a ∈ Fr, ¬ Z a
def tG (C : Fix) (W : WX) (m : EM (Nat × D)) : TE := fun σ H Q => ∃ Z Fs ρ r ρ', Sim C Z Fs ρ σ H ∧ m ρ = some (r, ρ') ∧
  Out C W Z Fs H σ r ρ' fun p => ∀ v H' Z' Fs' Fr, Ext Z H (InF Fs) Z' H' (FrU Fs' Fr) → Sim C Z' Fs' ρ' σ H' → OwE C Z' H' Fs' Fr p.1 v p.2 → Q v H'
def tF (C : Fix) (W : WX) (m : EM (List D)) : TE := fun σ H Q => ∃ Z Fs ρ r ρ', Sim C Z Fs ρ σ H ∧ m ρ = some (r, ρ') ∧
  Out C W Z Fs H σ r ρ' fun ds => ∀ p xs H' Z' Fs', Ext Z H (InF Fs) Z' H' (FrU Fs' [p]) → Sim C Z' Fs' ρ' σ H' → ¬ Z' p → ¬ InF Fs' p → H' p = some (.lst xs) → RpAll C.K Z' H' xs ds → Q (.ref p) H'
/-- a statement's exception: at the slots as they then are -/
def EWS (C : Fix) (W : WX) (Z : AP') (Fs : Nat → List Addr) (H : Hp) (x : Exn) (ρ' : Env') : Prop :=
  ∀ cls dx σ' H' Z' Fs', Ext Z H (InF Fs) Z' H' (InF Fs') → Sim C Z' Fs' ρ' σ' H' → ExnR C.K C.mg Z' H' x cls dx → W cls dx σ' H'
def OutS (C : Fix) (W : WX) (D' : Ends) (Z : AP') (Fs : Nat → List Addr) (H : Hp) (r : Except Exn Fl) (ρ' : Env') : Prop :=
  match r with
  | .ok .next => ∀ σ' H' Z' Fs', Ext Z H (InF Fs) Z' H' (InF Fs') → Sim C Z' Fs' ρ' σ' H' → D'.nx σ' H'
  | .ok .brk => ∀ σ' H' Z' Fs', Ext Z H (InF Fs) Z' H' (InF Fs') → Sim C Z' Fs' ρ' σ' H' → D'.bk σ' H'
  | .ok .cont => ∀ σ' H' Z' Fs', Ext Z H (InF Fs) Z' H' (InF Fs') → Sim C Z' Fs' ρ' σ' H' → D'.ct σ' H'
  | .ok (.ret k d) => ∀ σ' v H' Z' Fs' Fr, Ext Z H (InF Fs) Z' H' (FrU Fs' Fr) → Sim C Z' Fs' ρ' σ' H' → OwE C Z' H' Fs' Fr k v d → D'.rt v H'
  | .error x => EWS C W Z Fs H x ρ'
def tS (C : Fix) (W : WX) (m : EM Fl) : TS := fun D' σ H => ∃ Z Fs ρ r ρ', Sim C Z Fs ρ σ H ∧ m ρ = some (r, ρ') ∧ OutS C W D' Z Fs H r ρ'
section
variable {C : Fix} {W : WX} {Z Z1 : AP'} {Fs Fs1 : Nat → List Addr} {ρ ρ' : Env'} {σ : L2.St} {H H1 : Hp} {α β : Type} {D' : Ends}
theorem EWS.at {x : Exn} (h : EWS C W Z Fs H x ρ') (σ : L2.St) : EW C W Z Fs H σ x ρ' := fun cls dx H' Z' Fs' e S r => h cls dx σ H' Z' Fs' e S r
theorem EWS.before {x : Exn} (e : Ext Z H (InF Fs) Z1 H1 (InF Fs1)) (h : EWS C W Z Fs H x ρ') : EWS C W Z1 Fs1 H1 x ρ' := fun cls dx σ' H' Z' Fs' e' S' r => h cls dx σ' H' Z' Fs' (e.trans e') S' r
theorem OutS.before {r : Except Exn Fl} (e : Ext Z H (InF Fs) Z1 H1 (InF Fs1)) (h : OutS C W D' Z Fs H r ρ') : OutS C W D' Z1 Fs1 H1 r ρ' := by
  cases r with
  | error x => exact EWS.before e h
  | ok f =>
    cases f with
    | next => exact fun σ' H' Z' Fs' e' S => h σ' H' Z' Fs' (e.trans e') S
    | brk => exact fun σ' H' Z' Fs' e' S => h σ' H' Z' Fs' (e.trans e') S
    | cont => exact fun σ' H' Z' Fs' e' S => h σ' H' Z' Fs' (e.trans e') S
    | ret k d => exact fun σ' v H' Z' Fs' Fr e' S o => h σ' v H' Z' Fs' Fr (e.trans e') S o
theorem OutS.err {r : Except Exn Fl} (h : OutS C W D' Z Fs H r ρ') : ∀ x, r = .error x → EWS C W Z Fs H x ρ' := fun x q => by subst q; exact h
theorem FrU_nil (Fs : Nat → List Addr) : FrU Fs [] = InF Fs := by
  funext a
  unfold FrU
  simp
theorem tG_of {m : EM (Nat × D)} {f : Nat × D → EM β} {r : Except Exn β} {Q : VK} (S : Sim C Z Fs ρ σ H) (h : bnd m f ρ = some (r, ρ')) (her : ∀ x, r = .error x → EW C W Z Fs H σ x ρ')
    (hok : ∀ p ρ1 v H1 Z1 Fs1 Fr, f p ρ1 = some (r, ρ') → Ext Z H (InF Fs) Z1 H1 (FrU Fs1 Fr) → Sim C Z1 Fs1 ρ1 σ H1 → OwE C Z1 H1 Fs1 Fr p.1 v p.2 → Q v H1) : tG C W m σ H Q := by
  rcases bnd_inv h with ⟨d, ρ1, e1, e2⟩ | ⟨x, e1, e2⟩
  · exact ⟨Z, Fs, ρ, .ok d, ρ1, S, e1, fun v H' Z' Fs' Fr e S' r => hok d ρ1 v H' Z' Fs' Fr e2 e S' r⟩
  · exact ⟨Z, Fs, ρ, .error x, ρ', S, e1, her x e2⟩
theorem tF_of {m : EM (List D)} {f : List D → EM β} {r : Except Exn β} {Q : VK} (S : Sim C Z Fs ρ σ H) (h : bnd m f ρ = some (r, ρ')) (her : ∀ x, r = .error x → EW C W Z Fs H σ x ρ')
    (hok : ∀ ds ρ1 p xs H1 Z1 Fs1, f ds ρ1 = some (r, ρ') → Ext Z H (InF Fs) Z1 H1 (FrU Fs1 [p]) → Sim C Z1 Fs1 ρ1 σ H1 → ¬ Z1 p → ¬ InF Fs1 p → H1 p = some (.lst xs) → RpAll C.K Z1 H1 xs ds → Q (.ref p) H1) : tF C W m σ H Q := by
  rcases bnd_inv h with ⟨d, ρ1, e1, e2⟩ | ⟨x, e1, e2⟩
  · exact ⟨Z, Fs, ρ, .ok d, ρ1, S, e1, fun p xs H' Z' Fs' e S' h1 h2 h3 h4 => hok d ρ1 p xs H' Z' Fs' e2 e S' h1 h2 h3 h4⟩
  · exact ⟨Z, Fs, ρ, .error x, ρ', S, e1, her x e2⟩
theorem tS_of {m : EM Fl} {f : Fl → EM β} {r : Except Exn β} {D'' : Ends} (S : Sim C Z Fs ρ σ H) (h : bnd m f ρ = some (r, ρ')) (her : ∀ x, r = .error x → EWS C W Z Fs H x ρ')
    (hok : ∀ fl ρ1, m ρ = some (.ok fl, ρ1) → f fl ρ1 = some (r, ρ') → OutS C W D'' Z Fs H (.ok fl) ρ1) : tS C W m D'' σ H := by
  rcases bnd_inv h with ⟨d, ρ1, e1, e2⟩ | ⟨x, e1, e2⟩
  · exact ⟨Z, Fs, ρ, .ok d, ρ1, S, e1, hok d ρ1 e1 e2⟩
  · exact ⟨Z, Fs, ρ, .error x, ρ', S, e1, her x e2⟩
/-- a list of one's own is not changed any more -/
theorem Sim.freeze1 (S : Sim C Z Fs ρ σ H) {p : Addr} {xs : List V} (h1 : ¬ Z p) (h2 : ¬ InF Fs p) (h3 : H p = some (.lst xs)) : Sim C (zadd Z p) Fs ρ σ H ∧ Keeps Z (zadd Z p) H H := by
  have kp : Keeps Z (zadd Z p) H H := ⟨fun _ _ _ r => r, fun _ _ _ r => r, fun _ _ _ _ _ r => r, fun _ _ r => r, fun _ z => .inl z, fun _ _ _ r => r, fun _ _ r _ _ => r⟩
  refine ⟨S.same kp (fun _ _ _ h => h) (fun a ha z => ?_) (fun a z => ?_) S.tb, kp⟩
  · rcases z with z | rfl
    · obtain ⟨i, hi⟩ := ha; exact S.zf i a hi z
    · exact h2 ha
  · rcases z with z | rfl
    · exact S.zin a z
    · exact ⟨_, h3, fun ps => by intro z; cases z⟩
theorem Ext.freeze1 {p : Addr} (e : Ext Z H (InF Fs) Z1 H1 (FrU Fs1 [p])) : Ext Z H (InF Fs) (zadd Z1 p) H1 (InF Fs1) := by
  refine ⟨e.keep, fun a h => .inl (e.zz a h), fun a h => ?_, fun a h => e.fnew a (.inl h), e.thr⟩
  rcases h with h | rfl
  · exact e.znew a h
  · exact .inr (e.fnew a (.inr (by simp)))
end
section
variable {X : Cx} {B : Bx} {W : WX} {a b c e : Expr} {es : List Expr} {pos : Pos}
theorem tE_tG {C : Fix} {m : EM D} (σ : L2.St) (H : Hp) (Q : VK) (t : tG C W (gE m) σ H Q) : tE C W m σ H Q := by
  obtain ⟨Z, Fs, ρ, rr, ρ', S, e, k⟩ := t
  have her : ∀ x, rr = .error x → EW C W Z Fs H σ x ρ' := fun x q => by subst q; exact k
  refine tE_of S e her fun d ρ1 v H1 Z1 Fs1 e1 x1 S1 rp => ?_
  cases e1
  exact k v H1 Z1 Fs1 [] (by rw [FrU_nil]; exact x1) S1 ⟨⟨rp, rfl⟩, .nil, (fun _ h => nomatch h), (fun _ h => nomatch h)⟩
theorem tF_tG {C : Fix} {m : EM (List D)} (σ : L2.St) (H : Hp) (Q : VK) (t : tG C W (gF m) σ H Q) : tF C W m σ H Q := by
  obtain ⟨Z, Fs, ρ, rr, ρ', S, e, k⟩ := t
  have her : ∀ x, rr = .error x → EW C W Z Fs H σ x ρ' := fun x q => by subst q; exact k
  refine tF_of S e her fun ds ρ1 p xs H1 Z1 Fs1 e1 x1 S1 h1 h2 h3 h4 => ?_
  cases e1
  refine k (.ref p) H1 Z1 Fs1 [p] x1 S1 ⟨.mk1 h3 h4, by simp, fun a h => ?_, fun a h => ?_⟩
  · have e : a = p := by simpa using h
    subst e; exact h2
  · have e : a = p := by simpa using h
    subst e; exact h1
theorem tF_tE {C : Fix} {m : EM (List D)} (σ : L2.St) (H : Hp) (Q : VK) (t : tE C W (eF m) σ H Q) : tF C W m σ H Q := by
  obtain ⟨Z, Fs, ρ, rr, ρ', S, e, k⟩ := t
  have her : ∀ x, rr = .error x → EW C W Z Fs H σ x ρ' := fun x q => by subst q; exact k
  refine tF_of S e her fun ds ρ1 p xs H1 Z1 Fs1 e1 x1 S1 h1 h2 h3 h4 => ?_
  cases e1
  obtain ⟨S2, kp⟩ := S1.freeze1 h1 h2 h3
  exact k (.ref p) H1 _ Fs1 x1.freeze1 S2 (.lst ⟨.inr rfl, h3⟩ (RpAll.keep kp _ _ h4))
theorem sg_e {m : EM D} (h : PE X e (tE (fx X B) W m)) : PE X e (tG (fx X B) W (gE m)) := PE_imp h tE_tG
theorem sg_f {m : EM (List D)} (h : PE X e (tF (fx X B) W m)) : PE X e (tG (fx X B) W (gF m)) := PE_imp h tF_tG
theorem se_f {m : EM (List D)} (h : PE X e (tF (fx X B) W m)) : PE X e (tE (fx X B) W (eF m)) := PE_imp h tF_tE
/-- a slot is emptied -/
theorem Sim.unset {C : Fix} {Z : AP'} {Fs : Nat → List Addr} {ρ : Env'} {σ : L2.St} {H : Hp} (S : Sim C Z Fs ρ σ H) (i : Nat) : Sim C Z (fset Fs i []) (ρ.set i .un) σ H := by
  have nin : ∀ a, a ∉ fset Fs i [] i := fun a => by rw [fset_same]; simp
  refine ⟨fun j => ?_, fun j => ?_, fun j l a h1 h2 => ?_, fun j a h z => ?_, S.zin, S.tb, by rw [List.length_set]; exact S.len⟩
  · rw [slot_set]
    by_cases e : i = j ∧ i < ρ.length
    · rw [if_pos e, ← e.1]; exact fset_same _ _ _
    · rw [if_neg e]
      by_cases e2 : j = i
      · subst e2
        have hn : slot ρ j = .un := by
          apply Classical.byContradiction
          intro hn
          exact e ⟨rfl, slot_lt hn⟩
        rw [hn]; exact fset_same _ _ _
      · rw [fset_ne _ _ e2]; exact S.sl j
  · by_cases e : j = i
    · subst e; rw [fset_same]; exact .nil
    · rw [fset_ne _ _ e]; exact S.nd j
  · by_cases e : j = i
    · subst e; exact absurd h1 (nin a)
    · by_cases e2 : l = i
      · subst e2; exact absurd h2 (nin a)
      · rw [fset_ne _ _ e] at h1; rw [fset_ne _ _ e2] at h2
        exact S.dj j l a h1 h2
  · by_cases e : j = i
    · subst e; exact absurd h (nin a)
    · rw [fset_ne _ _ e] at h; exact S.zf j a h z
theorem tG_own {C : Fix} {i : Nat} (σ : L2.St) (H : Hp) (Q : VK) (t : tG C W (own i) σ H Q) : tVar i σ H Q := by
  obtain ⟨Z, Fs, ρ, r, ρ', S, e, k⟩ := t
  unfold own at e
  have q := S.sl i
  unfold SlR at q
  cases hs : slot ρ i with
  | un => rw [hs] at e; cases e
  | rf _ _ _ => rw [hs] at e; cases e
  | ro _ _ => rw [hs] at e; cases e
  | kn _ => rw [hs] at e; cases e
  | fz d =>
    rw [hs] at e q
    cases e
    obtain ⟨_, v, hv, rp⟩ := q
    exact ⟨v, hv, k v H Z Fs [] (by rw [FrU_nil]; exact Ext.refl _ _ _) S ⟨⟨rp, rfl⟩, .nil, (fun _ h => nomatch h), (fun _ h => nomatch h)⟩⟩
  | ow n d =>
    rw [hs] at e q
    cases e
    obtain ⟨v, hv, o⟩ := q
    refine ⟨v, hv, k v H Z (fset Fs i []) (Fs i) ⟨fun _ _ h _ _ => h, fun _ h => h, fun _ h => .inl h, fun a h => ?_, fun _ o h n => ⟨o, h, n⟩⟩ (S.unset i) ⟨o, S.nd i, fun a ha z => ?_, fun a ha => S.zf i a ha⟩⟩
    · rcases h with h | h
      · exact .inl (inF_nil h).1
      · exact .inl ⟨i, h⟩
    · obtain ⟨j, hj⟩ := z
      by_cases e : j = i
      · subst e; rw [fset_same] at hj; simp at hj
      · rw [fset_ne _ _ e] at hj
        exact e (S.dj j i a hj ha)
theorem sg_own {i : Nat} {x : Str} (h : PE X (.Name x pos) (tVar i)) : PE X (.Name x pos) (tG (fx X B) W (own i)) := PE_imp h tG_own
/-! ### new lists -/
section
variable {C : Fix} {Z : AP'} {Fs : Nat → List Addr} {ρ : Env'} {σ : L2.St} {H : Hp}
/-- a new object of one's own -/
theorem Sim.newF (S : Sim C Z Fs ρ σ H) {p : Addr} {o : HO} (hp : H p = none) (hn : nt o := by intro ps z; cases z) :
    Sim C Z Fs ρ σ (upd H p o) ∧ Ext Z H (InF Fs) Z (upd H p o) (FrU Fs [p]) ∧ Keeps Z Z H (upd H p o) ∧ ¬ Z p ∧ ¬ InF Fs p := by
  have old : ∀ a u, H a = some u → upd H p o a = some u := fun a u h => by rw [upd_ne (ne_of_none h hp)]; exact h
  have rd : ∀ a u, Rd H a u → Rd (upd H p o) a u := fun a u r => r.elim (fun r => .inl (old _ _ r)) fun ⟨ob, r⟩ => .inr ⟨ob, old _ _ r⟩
  have kp : Keeps Z Z H (upd H p o) := ⟨fun a u _ r => old a _ r, fun a u _ r => rd a _ r, fun a u _ _ _ r => old a u r, fun a xs r => old a _ r, fun a h => h, fun a o u r => old a _ r, fun a o r _ _ => old a _ r⟩
  have nz : ¬ Z p := fun z => by
    obtain ⟨u, h, _⟩ := S.zin p z
    rw [hp] at h; cases h
  have nf : ¬ InF Fs p := fun z => by
    obtain ⟨u, h, _⟩ := S.objF z
    rw [hp] at h; cases h
  refine ⟨S.same kp (fun a _ u h => old a u h) (fun a ⟨i, ha⟩ z => S.zf i a ha z) (fun a z => ?_) (S.tb.new hp hn), ⟨fun a u h _ _ => old a u h, fun a h => h, fun a h => .inl h, fun a h => ?_, fun a u h n => ⟨u, old a u h, n⟩⟩, kp, nz, nf⟩
  · obtain ⟨u, h, n⟩ := S.zin a z
    exact ⟨u, old a u h, n⟩
  · rcases h with h | h
    · exact .inl h
    · have e : a = p := by simpa using h
      subst e
      exact .inr (NoO.of hp)
end
/-- an operation that makes a new list -/
def OpF (C : Fix) (r : R2) (op : D → D → Option (List D)) : Prop :=
  ∀ (Z : AP') (Fs : Nat → List Addr) (ρ : Env') (σ : L2.St) (H : Hp) (x y : V) (d e : D) (ds : List D) (Q : VK), Sim C Z Fs ρ σ H → RpT C.K Z H x d → RpT C.K Z H y e → op d e = some ds →
    (∀ p xs, H p = none → RpAll C.K Z H xs ds → Q (.ref p) (upd H p (.lst xs))) → r x y H Q
def UnF (C : Fix) (r : V → Hp → VK → Prop) (op : D → Option (List D)) : Prop :=
  ∀ (Z : AP') (Fs : Nat → List Addr) (ρ : Env') (σ : L2.St) (H : Hp) (x : V) (d : D) (ds : List D) (Q : VK), Sim C Z Fs ρ σ H → RpT C.K Z H x d → op d = some ds →
    (∀ p xs, H p = none → RpAll C.K Z H xs ds → Q (.ref p) (upd H p (.lst xs))) → r x H Q
def binF (a b : Opd) (op : D → D → Option (List D)) : EM (List D) := bnd a.one fun x => bnd b.one fun y => bnd (a.two x) fun x => bnd (b.two y) fun y => opt (op x y)
def unF (a : Opd) (op : D → Option (List D)) : EM (List D) := bnd a.one fun x => bnd (a.two x) fun x => opt (op x)
section
variable {C : Fix} {Z Z1 : AP'} {Fs Fs1 : Nat → List Addr} {ρ ρ' : Env'} {σ : L2.St} {H H1 : Hp}
theorem tF_fin {ds : List D} {Q : VK} (S1 : Sim C Z1 Fs1 ρ' σ H1) (x1 : Ext Z H (InF Fs) Z1 H1 (InF Fs1)) {p : Addr} {xs : List V} (hp : H1 p = none) (rp : RpAll C.K Z1 H1 xs ds)
    (k : ∀ p xs H' Z' Fs', Ext Z H (InF Fs) Z' H' (FrU Fs' [p]) → Sim C Z' Fs' ρ' σ H' → ¬ Z' p → ¬ InF Fs' p → H' p = some (.lst xs) → RpAll C.K Z' H' xs ds → Q (.ref p) H') : Q (.ref p) (upd H1 p (.lst xs)) := by
  obtain ⟨S2, e2, kp, nz, nf⟩ := S1.newF (o := .lst xs) hp
  exact k p xs _ Z1 Fs1 (x1.trans e2) S2 nz nf upd_same (RpAll.keep kp _ _ rp)
end
theorem tF_bin {C : Fix} {o1 o2 : Opd} {op : D → D → Option (List D)} {r : R2} (hop : OpF C r op) (σ : L2.St) (H : Hp) (Q : VK) (t : tF C W (binF o1 o2 op) σ H Q) : tOp r (tO C W o1) (tO C W o2) σ H Q := by
  obtain ⟨Z, Fs, ρ, rr, ρ', S, e, k⟩ := t
  have her : ∀ x, rr = .error x → EW C W Z Fs H σ x ρ' := fun x q => by subst q; exact k
  refine tO_of S e her fun x ρ1 v H1 Z1 Fs1 e1 x1 S1 h1 => ?_
  refine tO_of S1 e1 (fun x q => (her x q).before x1) fun y ρ2 u H2 Z2 Fs2 e2 x2 S2 h2 => ?_
  obtain ⟨d, rd, e3⟩ := (h1.keep (S1.keeps x2)).fin S2 e2
  obtain ⟨d2, rd2, e4⟩ := h2.fin S2 e3
  obtain ⟨z, ez, rfl, kz⟩ := opt_k e4 k
  exact hop Z2 Fs2 _ σ H2 v u d d2 z Q S2 rd rd2 ez fun p xs hp rp => tF_fin S2 (x1.trans x2) hp rp kz
theorem tF_un {C : Fix} {o : Opd} {op : D → Option (List D)} {r : V → Hp → VK → Prop} (hop : UnF C r op) (σ : L2.St) (H : Hp) (Q : VK) (t : tF C W (unF o op) σ H Q) : tO C W o σ H fun x H1 => r x H1 Q := by
  obtain ⟨Z, Fs, ρ, rr, ρ', S, e, k⟩ := t
  have her : ∀ x, rr = .error x → EW C W Z Fs H σ x ρ' := fun x q => by subst q; exact k
  refine tO_of S e her fun x ρ1 v H1 Z1 Fs1 e1 x1 S1 h1 => ?_
  obtain ⟨d, rd, e3⟩ := h1.fin S1 e1
  obtain ⟨z, ez, rfl, kz⟩ := opt_k e3 k
  exact hop Z1 Fs1 _ σ H1 v d z Q S1 rd ez fun p xs hp rp => tF_fin S1 x1 hp rp kz
def catF : D → D → Option (List D)
  | .list a, .list b => if a.length + b.length ≤ 16777216 then some (a ++ b) else none
  | _, _ => none
def repF : D → D → Option (List D)
  | .list a, .int k => if -(2 ^ 63) ≤ k ∧ k < 2 ^ 63 ∧ a.length * k.toNat ≤ 16777216 then some (rep k a) else none
  | _, _ => none
def listF : D → Option (List D)
  | .list a => some a
  | .tuple a => some a
  | _ => none
theorem of_cat {C : Fix} : OpF C rCat catF := by
  intro Z Fs ρ σ H x y d e ds Q S rx ry h k
  unfold catF at h
  split at h
  · split at h
    · rename_i hl
      cases h
      obtain ⟨p, xs, rfl, h1, r1⟩ := rx
      obtain ⟨q, ys, rfl, h2, r2⟩ := ry
      exact ⟨p, q, xs, ys, rfl, rfl, h1, h2, by rw [sizeL, r1.length, r2.length]; exact hl, fun l hl => k l _ hl (r1.append r2)⟩
    · cases h
  · cases h
theorem of_rep {C : Fix} : OpF C rRep repF := by
  intro Z Fs ρ σ H x y d e ds Q S rx ry h k
  unfold repF at h
  split at h
  · split at h
    · rename_i a n hc
      cases h
      obtain ⟨p, xs, rfl, h1, r1⟩ := rx
      exact ⟨p, n, xs, rfl, ry.int, h1, hc.1, hc.2.1, by rw [sizeL, r1.length]; exact hc.2.2, fun l hl => k l _ hl (r1.repeat n.toNat)⟩
    · cases h
  · cases h
theorem uf_list {C : Fix} : UnF C (r1 fun xs H Q => ∃ p ys, xs = [.ref p] ∧ (SqL C.K H p ys ∨ SqT C.K H p ys) ∧ ∀ l, H l = none → Q (.ref l) (upd H l (.lst ys))) listF := by
  intro Z Fs ρ σ H x d ds Q S rx h k
  unfold listF at h
  split at h
  · cases h
    obtain ⟨p, xs, rfl, h1, r1⟩ := rx
    exact ⟨p, xs, rfl, .inl (.of h1), fun l hl => k l _ hl r1⟩
  · cases h
    obtain ⟨p, xs, rfl, h1, r1⟩ := rx.tup
    exact ⟨p, xs, rfl, .inr h1.sq, fun l hl => k l _ hl r1⟩
  · cases h
theorem sf_cat {o1 o2 : Opd} (ha : PE X a (tO (fx X B) W o1)) (hb : PE X b (tO (fx X B) W o2)) : PE X (.BinOp a .Add b pos) (tF (fx X B) W (binF o1 o2 catF)) := PE_imp (pe_op op_cat ha hb) fun σ H Q t => tF_bin of_cat σ H Q t
theorem sf_rep {o1 o2 : Opd} (ha : PE X a (tO (fx X B) W o1)) (hb : PE X b (tO (fx X B) W o2)) : PE X (.BinOp a .Mult b pos) (tF (fx X B) W (binF o1 o2 repF)) := PE_imp (pe_op op_rep ha hb) fun σ H Q t => tF_bin of_rep σ H Q t
theorem bt_list : bootBuiltins "list" = some (.type "list") := by decide +kernel
theorem sf_list {p : Pos} {o : Opd} (hg : Gl X "list") (hm : X.mg "list" = none) (ha : PE X a (tO (fx X B) W o)) (he : starEach [a] X.env = (false, eval a X.env) :: starEach [] X.env := by rfl) (hpl : (backTo pos (starEach [] X.env)).any (·.1) = false := by rfl) :
    PE X (.Call (.Name "list" p) [a] [] pos) (tF (fx X B) W (unF o listF)) := PE_imp (pe_callTy call_list_of hg hm bt_list (pa_cons ha pa_nil he) (by decide) (by decide) he hpl) fun σ H Q t => tF_un uf_list σ H Q t
theorem sf_lst {n : EM (List D)} (h : PA X es (tA (fx X B) W n)) : PE X (.List es pos) (tF (fx X B) W (bnd n fun ds => if ds.length ≤ 16777216 then EM.ret ds else stuck)) := by
  refine PE_imp (pe_lst h) fun σ H Q t => ?_
  obtain ⟨Z, Fs, ρ, rr, ρ', S, e, k⟩ := t
  have her : ∀ x, rr = .error x → EW (fx X B) W Z Fs H σ x ρ' := fun x q => by subst q; exact k
  refine tA_of S e her fun ds ρ1 vs H1 Z1 Fs1 e1 x1 S1 rp => ?_
  split at e1
  · rename_i hl
    cases e1
    exact ⟨by rw [sizeL, rp.length]; exact hl, fun p hp => tF_fin S1 x1 hp rp k⟩
  · cases e1

/-! ### a name is stored -/
section
variable {C : Fix} {Z Z1 : AP'} {Fs Fs1 : Nat → List Addr} {ρ ρ' : Env'} {σ : L2.St} {H H1 : Hp}
theorem setSl_inv {i : Nat} {s : Sl} {r : Except Exn Unit} (h : setSl i s ρ = some (r, ρ')) : r = .ok () ∧ ρ' = ρ.set i s ∧ i < ρ.length := by
  unfold setSl at h
  split at h
  · cases h
  · cases h
  · cases h
  · split at h
    · rename_i hl
      cases h
      exact ⟨rfl, rfl, hl⟩
    · cases h
theorem Sim.store (S : Sim C Z Fs ρ σ H) {i k : Nat} {v : V} {d : D} {Fr : List Addr} (o : OwE C Z H Fs Fr k v d) (hl : i < ρ.length) :
    Sim C Z (fset Fs i Fr) (ρ.set i (mkSl k d)) (σ.set i (some v)) H := by
  have hσ : i < σ.length := by rw [← S.len]; exact hl
  refine ⟨fun j => ?_, fun j => ?_, fun j l a h1 h2 => ?_, fun j a h z => ?_, S.zin, S.tb, by rw [List.length_set, List.length_set]; exact S.len⟩
  · rw [slot_set]
    by_cases e : i = j
    · subst e
      rw [if_pos ⟨rfl, hl⟩, fset_same, List.getElem?_set_self hσ]
      cases k with
      | zero => exact ⟨o.ow.2, v, rfl, o.ow.1⟩
      | succ k => exact ⟨v, rfl, o.ow⟩
    · rw [if_neg (fun z => e z.1), fset_ne _ _ (Ne.symm e), List.getElem?_set_ne e]
      exact S.sl j
  · by_cases e : j = i
    · subst e; rw [fset_same]; exact o.nd
    · rw [fset_ne _ _ e]; exact S.nd j
  · by_cases e : j = i
    · subst e
      rw [fset_same] at h1
      by_cases e2 : l = j
      · exact e2.symm
      · rw [fset_ne _ _ e2] at h2
        exact absurd ⟨l, h2⟩ (o.fs a h1)
    · rw [fset_ne _ _ e] at h1
      by_cases e2 : l = i
      · subst e2
        rw [fset_same] at h2
        exact absurd ⟨j, h1⟩ (o.fs a h2)
      · rw [fset_ne _ _ e2] at h2
        exact S.dj j l a h1 h2
  · by_cases e : j = i
    · subst e; rw [fset_same] at h; exact o.z a h z
    · rw [fset_ne _ _ e] at h; exact S.zf j a h z
theorem inF_set {i : Nat} {Fr : List Addr} {a : Addr} (h : InF (fset Fs i Fr) a) : FrU Fs Fr a := by
  obtain ⟨j, hj⟩ := h
  by_cases e : j = i
  · subst e; rw [fset_same] at hj; exact .inr hj
  · rw [fset_ne _ _ e] at hj; exact .inl ⟨j, hj⟩
theorem Ext.less {F F' : AP'} (e : Ext Z H (InF Fs) Z1 H1 F) (h : ∀ a, F' a → F a) : Ext Z H (InF Fs) Z1 H1 F' := ⟨e.keep, e.zz, e.znew, fun a q => e.fnew a (h a q), e.thr⟩
end
theorem ss_set {i : Nat} {x : Str} {m : EM (Nat × D)} {p : Pos} (hp : ∀ te : TE, PE X e te → PS X (.Assign [.Name x p] e pos) (tAsg te (gName i))) (h : PE X e (tG (fx X B) W m)) : PS X (.Assign [.Name x p] e pos) (tS (fx X B) W (sSet i m)) := by
  refine PS_imp (hp _ h) fun D' σ H t => ?_
  obtain ⟨Z, Fs, ρ, rr, ρ', S, e, k⟩ := t
  refine tG_of S e (fun x q => (k.err x q).at σ) fun q ρ1 v H1 Z1 Fs1 Fr e1 x1 S1 o => ?_
  rcases bnd_inv e1 with ⟨_, ρ2, q1, q2⟩ | ⟨x, q1, q2⟩
  · obtain ⟨_, rfl, hl⟩ := setSl_inv q1
    cases q2
    exact k _ H1 Z1 _ (x1.less fun a => inF_set) (S1.store o hl)
  · obtain ⟨q3, _⟩ := setSl_inv q1
    cases q3
/-- where the value's reading alone is known (a comprehension) -/
theorem tS_set {C : Fix} {i : Nat} {m : EM (Nat × D)} (D' : Ends) (σ : L2.St) (H : Hp) (t : tS C W (sSet i m) D' σ H) : tAsg (tG C W m) (gName i) D' σ H := by
  obtain ⟨Z, Fs, ρ, rr, ρ', S, e, k⟩ := t
  refine tG_of S e (fun x q => (k.err x q).at σ) fun q ρ1 v H1 Z1 Fs1 Fr e1 x1 S1 o => ?_
  rcases bnd_inv e1 with ⟨_, ρ2, q1, q2⟩ | ⟨x, q1, q2⟩
  · obtain ⟨_, rfl, hl⟩ := setSl_inv q1
    cases q2
    exact k _ H1 Z1 _ (x1.less fun a => inF_set) (S1.store o hl)
  · obtain ⟨q3, _⟩ := setSl_inv q1
    cases q3
theorem ss_ret {m : EM (Nat × D)} (h : PE X e (tG (fx X B) W m)) : PS X (.Return (some e) pos) (tS (fx X B) W (sRet m)) := by
  refine PS_imp (ps_ret h) fun D' σ H t => ?_
  obtain ⟨Z, Fs, ρ, rr, ρ', S, e, k⟩ := t
  refine tG_of S e (fun x q => (k.err x q).at σ) fun q ρ1 v H1 Z1 Fs1 Fr e1 x1 S1 o => ?_
  cases e1
  exact k σ v H1 Z1 Fs1 Fr x1 S1 o
theorem ss_retN : PS X (.Return none pos) (tS (fx X B) W (EM.ret (.ret 0 .none))) := by
  refine PS_imp ps_retN fun D' σ H t => ?_
  obtain ⟨Z, Fs, ρ, rr, ρ', S, e, k⟩ := t
  cases e
  exact k σ .non H Z Fs [] (by rw [FrU_nil]; exact Ext.refl _ _ _) S ⟨⟨.non, rfl⟩, .nil, (fun _ h => nomatch h), (fun _ h => nomatch h)⟩
theorem ss_expr {m : EM D} (h : PE X e (tE (fx X B) W m)) (hs : swapsWith e none pos.line X.env = pure false := by rfl) : PS X (.Expr e pos) (tS (fx X B) W (sExpr m)) := by
  refine PS_imp (ps_expr h hs) fun D' σ H t => ?_
  obtain ⟨Z, Fs, ρ, rr, ρ', S, e, k⟩ := t
  refine tE_of S e (fun x q => (k.err x q).at σ) fun d ρ1 v H1 Z1 Fs1 e1 x1 S1 rp => ?_
  cases e1
  exact k σ H1 Z1 Fs1 x1 S1
theorem ss_pass : PS X (.Pass pos) (tS (fx X B) W sNext) := by
  refine PS_imp ps_pass fun D' σ H t => ?_
  obtain ⟨Z, Fs, ρ, rr, ρ', S, e, k⟩ := t
  cases e
  exact k σ H Z Fs (Ext.refl _ _ _) S
theorem ss_break : PS X (.Break pos) (tS (fx X B) W (EM.ret .brk)) := by
  refine PS_imp ps_break fun D' σ H t => ?_
  obtain ⟨Z, Fs, ρ, rr, ρ', S, e, k⟩ := t
  cases e
  exact k σ H Z Fs (Ext.refl _ _ _) S
theorem ss_continue : PS X (.Continue pos) (tS (fx X B) W (EM.ret .cont)) := by
  refine PS_imp ps_continue fun D' σ H t => ?_
  obtain ⟨Z, Fs, ρ, rr, ρ', S, e, k⟩ := t
  cases e
  exact k σ H Z Fs (Ext.refl _ _ _) S
theorem sb_nil : PSs X [] (tS (fx X B) W sNext) := by
  refine PSs_imp pss_nil fun D' σ H t => ?_
  obtain ⟨Z, Fs, ρ, rr, ρ', S, e, k⟩ := t
  cases e
  exact k σ H Z Fs (Ext.refl _ _ _) S
theorem sb_one {st : Stmt} {m : EM Fl} (h : PS X st (tS (fx X B) W m)) : PSs X [st] (tS (fx X B) W m) := pss_one h
theorem tS_seq {C : Fix} {m n : EM Fl} (D' : Ends) (σ : L2.St) (H : Hp) (t : tS C W (sSeq m n) D' σ H) : tSeq (tS C W m) (tS C W n) D' σ H := by
  obtain ⟨Z, Fs, ρ, rr, ρ', S, e, k⟩ := t
  refine tS_of S e k.err fun fl ρ1 e0 e1 => ?_
  cases fl with
  | next => exact fun σ' H' Z' Fs' x1 S1 => ⟨Z', Fs', ρ1, rr, ρ', S1, e1, OutS.before x1 k⟩
  | brk => cases e1; exact k
  | cont => cases e1; exact k
  | ret j d => cases e1; exact k
theorem sb_cons {st : Stmt} {rest : List Stmt} {m n : EM Fl} (h : PS X st (tS (fx X B) W m)) (h2 : PSs X rest (tS (fx X B) W n)) : PSs X (st :: rest) (tS (fx X B) W (sSeq m n)) :=
  PSs_imp (pss_cons h h2) fun D' σ H t => tS_seq D' σ H t
theorem ss_if {sa sb : List Stmt} {m : EM Bool} {m1 m2 : EM Fl} (h : PT X c (tT (fx X B) W m)) (h1 : PSs X sa (tS (fx X B) W m1)) (h2 : PSs X sb (tS (fx X B) W m2)) : PS X (.If c sa sb pos) (tS (fx X B) W (sIf m m1 m2)) := by
  refine PS_imp (ps_if h h1 h2) fun D' σ H t => ?_
  obtain ⟨Z, Fs, ρ, rr, ρ', S, e, k⟩ := t
  refine tT_of S e (fun x q => (k.err x q).at σ) fun d ρ1 H1 Z1 Fs1 e1 x1 S1 => ?_
  cases d with
  | true =>
    rw [if_pos rfl] at e1 ⊢
    exact ⟨Z1, Fs1, ρ1, rr, ρ', S1, e1, OutS.before x1 k⟩
  | false =>
    rw [if_neg Bool.false_ne_true] at e1 ⊢
    exact ⟨Z1, Fs1, ρ1, rr, ρ', S1, e1, OutS.before x1 k⟩

/-! ### targets -/
mutual
def tgS : Tg → List Nat
  | .nm i => [i]
  | .tp ts => tgSs ts
def tgSs : List Tg → List Nat
  | [] => []
  | t :: ts => tgS t ++ tgSs ts
end
/-- all but the slots of vs are as they were -/
def SamS (vs : List Nat) (σ σ' : L2.St) : Prop := σ'.length = σ.length ∧ ∀ j, j ∉ vs → σ'[j]? = σ[j]?
theorem SamS.refl (vs : List Nat) (σ : L2.St) : SamS vs σ σ := ⟨rfl, fun _ _ => rfl⟩
def tTg (C : Fix) (t : Tg) : TG := fun v σ H Q => ∃ Z Fs ρ d ρ', Sim C Z Fs ρ σ H ∧ Rp C.K Z H v d ∧ asgT t d ρ = some (.ok (), ρ') ∧ ∀ σ' Fs', Sim C Z Fs' ρ' σ' H → (∀ a, InF Fs' a → InF Fs a) → SamS (tgS t) σ σ' → Q σ' H
def tTgs (C : Fix) (ts : List Tg) : TGs := fun vs σ H Q => ∃ Z Fs ρ ds ρ', Sim C Z Fs ρ σ H ∧ RpAll C.K Z H vs ds ∧ ds.length = ts.length ∧ asgTs ts ds ρ = some (.ok (), ρ') ∧ ∀ σ' Fs', Sim C Z Fs' ρ' σ' H → (∀ a, InF Fs' a → InF Fs a) → SamS (tgSs ts) σ σ' → Q σ' H
theorem PG_imp {t t' : TG} (h : PG X e t) (i : ∀ v σ H Q, t' v σ H Q → t v σ H Q) : PG X e t' := ⟨fun pins s σ H v u Q I r q => h.run pins s σ H v u Q I r (i v σ H Q q)⟩
theorem PGs_imp {t t' : TGs} (h : PGs X es t) (i : ∀ v σ H Q, t' v σ H Q → t v σ H Q) : PGs X es t' := ⟨fun pins s σ H v u Q I r q => h.run pins s σ H v u Q I r (i v σ H Q q)⟩
theorem st_nm {i : Nat} (h : PG X e (gName i)) : PG X e (tTg (fx X B) (.nm i)) := by
  refine PG_imp h fun v σ H Q t => ?_
  obtain ⟨Z, Fs, ρ, d, ρ', S, rp, e, k⟩ := t
  obtain ⟨_, rfl, hl⟩ := setSl_inv (show setSl i (.fz d) ρ = some (.ok (), ρ') from e)
  exact k _ _ (S.store (k := 0) (Fr := []) ⟨⟨rp, rfl⟩, .nil, (fun _ h => nomatch h), (fun _ h => nomatch h)⟩ hl) (fun a h => by
    have := inF_set h
    rwa [FrU_nil] at this) ⟨by rw [List.length_set], fun j hj => List.getElem?_set_ne (fun z => hj (by rw [tgS, z]; simp))⟩
theorem st_nil : PGs X [] (tTgs (fx X B) []) := by
  refine PGs_imp pgs_nil fun v σ H Q t => ?_
  obtain ⟨Z, Fs, ρ, ds, ρ', S, rp, hl, e, k⟩ := t
  cases rp with
  | nil =>
    cases e
    exact ⟨rfl, k σ Fs S (fun _ h => h) (SamS.refl _ _)⟩
  | cons _ _ => cases hl
theorem st_cons {t : Tg} {ts : List Tg} (h : PG X e (tTg (fx X B) t)) (h2 : PGs X es (tTgs (fx X B) ts)) (hs : (assignEach (e :: es) X.env).map (·.2) = assign e X.env :: (assignEach es X.env).map (·.2) := by rfl) : PGs X (e :: es) (tTgs (fx X B) (t :: ts)) := by
  refine PGs_imp (pgs_cons h h2 hs) fun v σ H Q t' => ?_
  obtain ⟨Z, Fs, ρ, ds, ρ', S, rp, hl, e, k⟩ := t'
  cases rp with
  | nil => cases hl
  | @cons v vs d ds r1 r2 =>
    have e' : bnd (asgT t d) (fun _ => asgTs ts ds) ρ = some (.ok (), ρ') := by
      have q := e
      rw [asgTs] at q
      exact q
    rcases bnd_inv e' with ⟨_, ρ1, q1, q2⟩ | ⟨x, q1, q2⟩
    · refine ⟨v, vs, rfl, Z, Fs, ρ, d, ρ1, S, r1, q1, fun σ1 Fs1 S1 f1 m1 => ?_⟩
      refine ⟨Z, Fs1, ρ1, ds, ρ', S1, r2, by simpa using hl, q2, fun σ2 Fs2 S2 f2 m2 => k σ2 Fs2 S2 (fun a h => f1 a (f2 a h)) ⟨m2.1.trans m1.1, fun j hj => ?_⟩⟩
      rw [tgSs] at hj
      exact (m2.2 j fun z => hj (List.mem_append_right _ z)).trans (m1.2 j fun z => hj (List.mem_append_left _ z))
    · cases q2
theorem st_tup {ts : List Tg} {k : Nat} {n : Nat} (hc : X.calm = true) (h : PGs X es (tTgs (fx X B) ts)) (hm : ts.length = n := by rfl) (hn : (assignEach es X.env).length = n := by rfl) (hst : (assignEach es X.env).findIdx? (·.1) = none := by rfl) : PG X (.Tuple es k pos) (tTg (fx X B) (.tp ts)) := by
  refine PG_imp (pg_tup hc h hn hst) fun v σ H Q t' => ?_
  obtain ⟨Z, Fs, ρ, d, ρ', S, rp, e, q⟩ := t'
  cases d with
  | tuple ds =>
    unfold asgT at e
    split at e
    · rename_i hl
      cases rp with
      | tup h1 h2 => exact ⟨_, _, rfl, h1.sq, by rw [h2.length, hl, hm], Z, Fs, ρ, ds, ρ', S, h2, hl, e, fun σ' Fs' S' f' m' => q σ' Fs' S' f' (by rw [tgS]; exact m')⟩
    · cases e
  | _ => unfold asgT at e; cases e
theorem asgT_err : ∀ (t : Tg) (d : D) (ρ : Env') (x : Exn) (ρ' : Env'), asgT t d ρ ≠ some (.error x, ρ') := by
  have hs : ∀ {i s ρ x ρ'}, setSl i s ρ ≠ some (.error x, ρ') := fun {i s ρ x ρ'} h => by
    have := (setSl_inv h).1
    cases this
  refine fun t => Tg.rec (motive_1 := fun t => ∀ (d : D) (ρ : Env') (x : Exn) (ρ' : Env'), asgT t d ρ ≠ some (.error x, ρ')) (motive_2 := fun ts => ∀ (ds : List D) (ρ : Env') (x : Exn) (ρ' : Env'), asgTs ts ds ρ ≠ some (.error x, ρ')) ?_ ?_ ?_ ?_ t
  · intro i d ρ x ρ' h
    unfold asgT at h
    exact hs h
  · intro ts ih d ρ x ρ' h
    cases d with
    | tuple ds =>
      unfold asgT at h
      split at h
      · exact ih _ _ _ _ h
      · cases h
    | _ => unfold asgT at h; cases h
  · intro ds ρ x ρ' h
    cases ds with
    | nil => unfold asgTs at h; cases h
    | cons d ds => unfold asgTs at h; cases h
  · intro t ts ih1 ih2 ds ρ x ρ' h
    cases ds with
    | nil => unfold asgTs at h; cases h
    | cons d ds =>
      unfold asgTs at h
      rcases bnd_inv h with ⟨_, ρ1, q1, q2⟩ | ⟨x, q1, q2⟩
      · exact ih2 _ _ _ _ q2
      · exact ih1 _ _ _ _ q1
theorem ss_asg {t : Tg} {m : EM D} {tg : Expr} (h : PE X e (tE (fx X B) W m)) (hg : PG X tg (tTg (fx X B) t)) (hs : swapsWithSole [tg] e pos.line X.env = pure false := by rfl) (hw : swappedStores [tg] e X.env = pure none := by rfl)
    (h1 : (assignEach [tg] X.env).map (·.2) = [assign tg X.env] := by rfl) : PS X (.Assign [tg] e pos) (tS (fx X B) W (sAsg t m)) := by
  refine PS_imp (ps_asg h hg hs hw h1) fun D' σ H t' => ?_
  obtain ⟨Z, Fs, ρ, rr, ρ', S, e, k⟩ := t'
  refine tE_of S e (fun x q => (k.err x q).at σ) fun d ρ1 v H1 Z1 Fs1 e1 x1 S1 rp => ?_
  rcases bnd_inv e1 with ⟨_, ρ2, q1, q2⟩ | ⟨x, q1, q2⟩
  · cases q2
    exact ⟨Z1, Fs1, ρ1, d, _, S1, rp, q1, fun σ' Fs' S2 f _ => k σ' H1 Z1 Fs' (x1.less f) S2⟩
  · exact absurd q1 (asgT_err _ _ _ _ _)
end
end NH

/-! NhLoop: what is walked, for, while, comprehensions. -/
namespace NH
open PySem Spec PyProof.Rows L2
open EM

/-! ### what is walked -/
/-- J yields ds, as long as what could be read at Z0, H0 can be read -/
def Yl (C : Fix) (Z0 : AP') (H0 : Hp) (J : It) (ds : List D) : Prop := ∃ (G : Hp → Prop) (Y : Nat → Hp → V → Hp → Prop), Walk J ds.length G Y ∧
  (∀ Z H, Keeps Z0 Z H0 H → G H) ∧
  ∀ i H x H' Z Fs ρ σ, i < ds.length → Y i H x H' → Keeps Z0 Z H0 H → Sim C Z Fs ρ σ H → ∃ d Z', ds[i]? = some d ∧ Ext Z H (InF Fs) Z' H' (InF Fs) ∧ Sim C Z' Fs ρ σ H' ∧ Rp C.K Z' H' x d
def tI (C : Fix) (W : WX) (m : EM (List D)) : TI := fun σ H R => ∃ Z Fs ρ r ρ', Sim C Z Fs ρ σ H ∧ m ρ = some (r, ρ') ∧
  Out C W Z Fs H σ r ρ' fun ds => ∀ J H' Z' Fs', Ext Z H (InF Fs) Z' H' (InF Fs') → Sim C Z' Fs' ρ' σ H' → Yl C Z' H' J ds → R J H'
section
variable {X : Cx} {B : Bx} {W : WX} {tg iter a b e : Expr} {pos : Pos}
theorem PI_imp {t t' : TI} (h : PI X tg iter t) (i : ∀ σ H R, t' σ H R → t σ H R) : PI X tg iter t' := ⟨fun pins s σ H R I q => h.run pins s σ H R I (i σ H R q)⟩
/-- a list or a tuple -/
def iSeq (K : PySem.W.Frag) (tl : TE) : TI := fun σ H R => tl σ H fun x H1 => ∃ a, x = .ref a ∧ (((∃ xs, SqL K H1 a xs) ∧ R (Itl K a) H1) ∨ ((∃ xs, SqT K H1 a xs) ∧ R (Itt K a) H1))
theorem pi_seq {l : Expr} {tl : TE} (hl : PE X l tl) : PI X tg l (iSeq X.K tl) := by
  refine ⟨fun pins s σ H R I h => ?_⟩
  refine thn (hl.run pins s σ H _ I h) fun v s1 ⟨x, H1, I1, r1, a, e, q⟩ => ?_
  subst e
  rcases q with ⟨q1, q2⟩ | ⟨q1, q2⟩
  · cases r1
    obtain ⟨xs, q1⟩ := q1
    obtain ⟨its, rv, p, _⟩ := I1.list q1
    refine wpAny_pyIter_list p.isList ⟨s1.heap.objs.size, [s1.heap.objs.size], _, _, H1, rfl, I1.kept (t' := s1.toks) fun b o e => Heap.get?_push_of_some _ e, turn_list a _, ⟨_, Heap.get?_push_size _ rfl, rfl, rfl⟩, fun b hb => ?_, q2⟩
    obtain rfl : b = s1.heap.objs.size := by simpa using hb
    exact I1.fpOk (Nat.le_refl _) (I1.hok.fresh (Nat.le_refl _))
  · cases r1
    obtain ⟨xs, q1⟩ := q1
    obtain ⟨its, rv, p, _⟩ := I1.tuple q1
    refine wpAny_pyIter_tuple (show s1.heap.IsTuple a its.toArray from p) ⟨s1.heap.objs.size, [s1.heap.objs.size], _, _, H1, rfl, I1.kept (t' := s1.toks) fun b o e => Heap.get?_push_of_some _ e, turn_tuple a _, ⟨_, Heap.get?_push_size _ rfl, rfl, rfl⟩, fun b hb => ?_, q2⟩
    obtain rfl : b = s1.heap.objs.size := by simpa using hb
    exact I1.fpOk (Nat.le_refl _) (I1.hok.fresh (Nat.le_refl _))
theorem Yl.list {C : Fix} {Z : AP'} {H : Hp} {a : Addr} {xs : List V} {ds : List D} (h : FzL Z H a xs) (r : RpAll C.K Z H xs ds) : Yl C Z H (Itl C.K a) ds := by
  refine ⟨fun H => SqL C.K H a xs, YAt xs, by rw [← r.length]; exact walk_list, fun Z' H' k => (k.fzL h).seq, fun i H' x H'' Z' Fs ρ σ hi y k S => ?_⟩
  obtain ⟨rfl, hx⟩ := y
  obtain ⟨d, hd, rd⟩ := r.getV hx
  exact ⟨d, Z', hd, Ext.refl _ _ _, S, rd.keep k⟩
theorem Yl.tuple {C : Fix} {Z : AP'} {H : Hp} {a : Addr} {xs : List V} {ds : List D} (h : SqT C.K H a xs) (r : RpAll C.K Z H xs ds) : Yl C Z H (Itt C.K a) ds := by
  refine ⟨fun H => SqT C.K H a xs, YAt xs, by rw [← r.length]; exact walk_tup, fun Z' H' k => k.sqT h, fun i H' x H'' Z' Fs ρ σ hi y k S => ?_⟩
  obtain ⟨rfl, hx⟩ := y
  obtain ⟨d, hd, rd⟩ := r.getV hx
  exact ⟨d, Z', hd, Ext.refl _ _ _, S, rd.keep k⟩
def iSrc (m : EM D) : EM (List D) := bnd m fun d => opt (itemsD d)
theorem si_seq {m : EM D} (h : PE X iter (tE (fx X B) W m)) : PI X tg iter (tI (fx X B) W (iSrc m)) := by
  refine PI_imp (pi_seq h) fun σ H R t => ?_
  obtain ⟨Z, Fs, ρ, rr, ρ', S, e, k⟩ := t
  have her : ∀ x, rr = .error x → EW (fx X B) W Z Fs H σ x ρ' := fun x q => by subst q; exact k
  refine tE_of S e her fun d ρ1 v H1 Z1 Fs1 e1 x1 S1 rp => ?_
  obtain ⟨ds, hd, rfl, kz⟩ := opt_k e1 k
  cases rp with
  | lst h1 h2 => cases hd; exact ⟨_, rfl, .inl ⟨⟨_, h1.seq⟩, kz _ H1 Z1 Fs1 x1 S1 (Yl.list h1 h2)⟩⟩
  | tup h1 h2 => cases hd; exact ⟨_, rfl, .inr ⟨⟨_, h1.sq⟩, kz _ H1 Z1 Fs1 x1 S1 (Yl.tuple h1.sq h2)⟩⟩
  | _ => cases hd
/-! ranges -/
def rangeL (lo : Int) (n : Nat) : List D := (List.range n).map fun i => PyData.int (lo + (i : Nat))
theorem Yl.range {C : Fix} {Z : AP'} {H : Hp} {lo : Int} {n : Nat} : Yl C Z H (Itr lo n) (rangeL lo n) := by
  have hl : (rangeL lo n).length = n := by unfold rangeL; rw [List.length_map, List.length_range]
  refine ⟨fun _ => True, YFn fun i => .int (lo + i), by rw [hl]; exact walk_range, fun _ _ _ => trivial, fun i H' x H'' Z' Fs ρ σ hi y k S => ?_⟩
  obtain ⟨rfl, rfl⟩ := y
  rw [hl] at hi
  refine ⟨.int (lo + i), Z', ?_, Ext.refl _ _ _, S, .int _⟩
  unfold rangeL
  rw [List.getElem?_map, List.getElem?_range hi]; rfl
def rng1 (m : EM D) : EM (List D) := bnd m fun d => match d with
  | .int n => if -(2 ^ 62) ≤ n ∧ n < 2 ^ 62 then EM.ret (rangeL 0 n.toNat) else stuck
  | _ => stuck
def rng2 (m n : EM D) : EM (List D) := bnd m fun d => bnd n fun e => match d, e with
  | .int i, .int j => if -(2 ^ 62) ≤ i ∧ i < 2 ^ 62 ∧ -(2 ^ 62) ≤ j ∧ j < 2 ^ 62 then EM.ret (rangeL i (j - i).toNat) else stuck
  | _, _ => stuck
theorem si_range1 {p : Pos} {m : EM D} (hg : Gl X "range") (hm : X.mg "range" = none) (h : PE X a (tE (fx X B) W m)) (hs : starEach [a] X.env = [(false, eval a X.env)] := by rfl) (he : starEach [a] X.env = (false, eval a X.env) :: starEach [] X.env := by rfl) :
    PI X tg (.Call (.Name "range" p) [a] [] pos) (tI (fx X B) W (rng1 m)) := by
  refine PI_imp (pi_range1 hg hm (pa_cons h pa_nil he) hs) fun σ H R t => ?_
  obtain ⟨Z, Fs, ρ, rr, ρ', S, e, k⟩ := t
  have her : ∀ x, rr = .error x → EW (fx X B) W Z Fs H σ x ρ' := fun x q => by subst q; exact k
  refine tE_of S e her fun d ρ1 v H1 Z1 Fs1 e1 x1 S1 rp => ?_
  split at e1
  · split at e1
    · rename_i n hc
      cases e1
      cases rp
      exact ⟨n, rfl, hc.1, hc.2, k _ H1 Z1 Fs1 x1 S1 Yl.range⟩
    · cases e1
  · cases e1
theorem si_range2 {p : Pos} {m n : EM D} (hg : Gl X "range") (hm : X.mg "range" = none) (h : PE X a (tE (fx X B) W m)) (h2 : PE X b (tE (fx X B) W n)) (hs : starEach [a, b] X.env = [(false, eval a X.env), (false, eval b X.env)] := by rfl) (hs2 : starEach [b] X.env = [(false, eval b X.env)] := by rfl)
    (he : starEach [a, b] X.env = (false, eval a X.env) :: starEach [b] X.env := by rfl) (he2 : starEach [b] X.env = (false, eval b X.env) :: starEach [] X.env := by rfl) :
    PI X tg (.Call (.Name "range" p) [a, b] [] pos) (tI (fx X B) W (rng2 m n)) := by
  refine PI_imp (pi_range2 hg hm (pa_cons h (pa_cons h2 pa_nil he2) he) hs hs2) fun σ H R t => ?_
  obtain ⟨Z, Fs, ρ, rr, ρ', S, e, k⟩ := t
  have her : ∀ x, rr = .error x → EW (fx X B) W Z Fs H σ x ρ' := fun x q => by subst q; exact k
  refine tE_of S e her fun d ρ1 v H1 Z1 Fs1 e1 x1 S1 rp => ?_
  refine tE_of S1 e1 (fun x q => (her x q).before x1) fun d2 ρ2 v2 H2 Z2 Fs2 e2 x2 S2 rp2 => ?_
  split at e2
  · split at e2
    · rename_i i j hc
      cases e2
      cases rp
      cases rp2
      exact ⟨i, j, rfl, hc, k _ H2 Z2 Fs2 (x1.trans x2) S2 Yl.range⟩
    · cases e2
  · cases e2

/-! ### for -/
theorem tS_for {C : Fix} {t : Tg} {src : EM (List D)} {b : EM Fl} (D' : Ends) (σ : L2.St) (H : Hp) (h : tS C W (sFor t src b) D' σ H) : tFor (tI C W src) (tTg C t) (tS C W b) D' σ H := by
  obtain ⟨Z, Fs, ρ, rr, ρ', S, e, k⟩ := h
  rcases bnd_inv e with ⟨ds, ρ1, e1, e2⟩ | ⟨x, e1, e2⟩
  · refine ⟨Z, Fs, ρ, .ok ds, ρ1, S, e1, fun J H1 Z1 Fs1 x1 S1 y => ?_⟩
    obtain ⟨G, Y, hw, hG, hY⟩ := y
    let Pv : Nat → L2.St → Hp → Prop := fun i σ H2 => ∃ Z2 Fs2 ρ2, Sim C Z2 Fs2 ρ2 σ H2 ∧ Ext Z1 H1 (InF Fs1) Z2 H2 (InF Fs2) ∧ forD t b (ds.drop i) ρ2 = some (rr, ρ')
    have kp : ∀ {Z2 Fs2 H2}, Ext Z1 H1 (InF Fs1) Z2 H2 (InF Fs2) → Keeps Z1 Z2 H1 H2 := fun x => S1.keeps x
    refine for_it hw Pv ⟨Z1, Fs1, ρ1, S1, Ext.refl _ _ _, e2⟩ (fun i σ H2 _ ⟨Z2, Fs2, ρ2, S2, x2, _⟩ => hG Z2 H2 (kp x2)) (fun i x σ2 H2 H3 hi ⟨Z2, Fs2, ρ2, S2, x2, e3⟩ y => ?_) fun σ2 H2 ⟨Z2, Fs2, ρ2, S2, x2, e3⟩ => ?_
    · obtain ⟨d, Z3, hd, x3, S3, rd⟩ := hY i H2 x H3 Z2 Fs2 ρ2 σ2 hi y (kp x2) S2
      have hdr : ds.drop i = d :: ds.drop (i + 1) := by
        rw [List.drop_eq_getElem_cons hi]
        rw [List.getElem?_eq_getElem hi] at hd
        rw [Option.some.inj hd]
      rw [hdr] at e3
      rcases bnd_inv (show bnd (asgT t d) _ ρ2 = some (rr, ρ') from e3) with ⟨_, ρ3, q1, q2⟩ | ⟨x, q1, q2⟩
      · refine ⟨Z3, Fs2, ρ2, d, ρ3, S3, rd, q1, fun σ4 Fs4 S4 f4 _ => ?_⟩
        have x4 : Ext Z H (InF Fs) Z3 H3 (InF Fs4) := (((x1.trans x2).trans x3).less f4)
        have x4' : Ext Z1 H1 (InF Fs1) Z3 H3 (InF Fs4) := ((x2.trans x3).less f4)
        have ks : OutS C W D' Z3 Fs4 H3 rr ρ' := OutS.before x4 k
        refine tS_of S4 q2 ks.err fun fl ρ5 e0 e5 => ?_
        cases fl with
        | next => exact fun σ6 H6 Z6 Fs6 x6 S6 => ⟨Z6, Fs6, ρ5, S6, x4'.trans x6, e5⟩
        | cont => exact fun σ6 H6 Z6 Fs6 x6 S6 => ⟨Z6, Fs6, ρ5, S6, x4'.trans x6, e5⟩
        | brk => cases e5; exact ks
        | ret j dd => cases e5; exact ks
      · exact absurd q1 (asgT_err _ _ _ _ _)
    · rw [List.drop_length] at e3
      cases e3
      exact OutS.before (x1.trans x2) k _ _ _ _ (Ext.refl _ _ _) S2
  · subst e2
    exact ⟨Z, Fs, ρ, .error x, ρ', S, e1, EWS.at k σ⟩
theorem ss_for {t : Tg} {src : EM (List D)} {b : EM Fl} {body : List Stmt} (hp : PassesOwn (model X.prog X.w) X.A X.env X.xe) (hc : X.calm = true) (hi : PI X tg iter (tI (fx X B) W src)) (hg : PG X tg (tTg (fx X B) t)) (hb : PSs X body (tS (fx X B) W b))
    (hs : ∀ x, foldedSetIterable iter X.env x = pure x := by intro _; rfl) : PS X (.For tg iter body [] pos) (tS (fx X B) W (sFor t src b)) :=
  PS_imp (ps_for hp hc hi hg hb hs) fun D' σ H h => tS_for D' σ H h

/-! ### while -/
theorem tS_while {C : Fix} {c : EM Bool} {b : EM Fl} {n : Nat} (D' : Ends) (σ : L2.St) (H : Hp) (h : tS C W (sWhile n c b) D' σ H) : tWhile (tT C W c) (tS C W b) D' σ H := by
  obtain ⟨Z, Fs, ρ, rr, ρ', S, e, k⟩ := h
  refine ⟨fun m σ2 H2 => ∃ Z2 Fs2 ρ2, Sim C Z2 Fs2 ρ2 σ2 H2 ∧ Ext Z H (InF Fs) Z2 H2 (InF Fs2) ∧ whileF c b m ρ2 = some (rr, ρ'), ⟨n, Z, Fs, ρ, S, Ext.refl _ _ _, e⟩, ?_⟩
  rintro m σ2 H2 ⟨Z2, Fs2, ρ2, S2, x2, e2⟩
  cases m with
  | zero => cases e2
  | succ m =>
    have k2 : OutS C W D' Z2 Fs2 H2 rr ρ' := OutS.before x2 k
    refine tT_of S2 (show bnd c _ ρ2 = some (rr, ρ') from e2) (fun x q => (k2.err x q).at σ2) fun d ρ3 H3 Z3 Fs3 e3 x3 S3 => ?_
    cases d with
    | true =>
      rw [if_pos rfl] at e3 ⊢
      have k3 : OutS C W D' Z3 Fs3 H3 rr ρ' := OutS.before x3 k2
      refine ⟨fun σ' H' => ∃ Z4 Fs4 ρ4, Sim C Z4 Fs4 ρ4 σ' H' ∧ Ext Z H (InF Fs) Z4 H' (InF Fs4) ∧ whileF c b m ρ4 = some (rr, ρ'), fun σ' H' q => ⟨m, Nat.lt_succ_self m, q⟩, ?_⟩
      refine tS_of S3 e3 k3.err fun fl ρ5 e0 e5 => ?_
      cases fl with
      | next => exact fun σ6 H6 Z6 Fs6 x6 S6 => ⟨Z6, Fs6, ρ5, S6, (x2.trans x3).trans x6, e5⟩
      | cont => exact fun σ6 H6 Z6 Fs6 x6 S6 => ⟨Z6, Fs6, ρ5, S6, (x2.trans x3).trans x6, e5⟩
      | brk => cases e5; exact k3
      | ret j dd => cases e5; exact k3
    | false =>
      rw [if_neg Bool.false_ne_true] at e3 ⊢
      cases e3
      exact k2 σ2 H3 Z3 Fs3 x3 S3
theorem ss_while {c : Expr} {m : EM Bool} {b : EM Fl} {n : Nat} {body : List Stmt} (hp : PassesOwn (model X.prog X.w) X.A X.env X.xe) (hc : PT X c (tT (fx X B) W m)) (hb : PSs X body (tS (fx X B) W b)) : PS X (.While c body [] pos) (tS (fx X B) W (sWhile n m b)) :=
  PS_imp (ps_while hp hc hb) fun D' σ H h => tS_while D' σ H h
end
end NH

/-! NhComp: list comprehensions. -/
namespace NH
open PySem Spec PyProof.Rows L2
open EM

/-! ### computations -/
/-- the own names of a comprehension hold nothing -/
def clr : List Nat → Env' → Env'
  | [], ρ => ρ
  | i :: vs, ρ => (clr vs ρ).set i .un
/-- .. are what they were -/
def rst (ρ0 : Env') : List Nat → Env' → Env'
  | [], ρ => ρ
  | i :: vs, ρ => (rst ρ0 vs ρ).set i (slot ρ0 i)
def clrM (vs : List Nat) : EM Unit := fun ρ => some (.ok (), clr vs ρ)
/-- no exception -/
def noX {α : Type} (m : EM α) : EM α := fun ρ => match m ρ with
  | some (.error _, _) => none
  | x => x
/-- one turn: its item, or nothing -/
def compT (t : Tg) (c : EM Bool) (m : EM D) (d : D) : EM (Option D) := bnd (asgT t d) fun _ => bnd c fun b => if b = true then bnd m fun y => EM.ret (some y) else EM.ret none
def compD (vs : List Nat) (t : Tg) (c : EM Bool) (m : EM D) : List D → EM (List D)
  | [] => EM.ret []
  | d :: ds => bnd (clrM vs) fun _ => bnd (noX (compT t c m d)) fun o => bnd (compD vs t c m ds) fun r => EM.ret (o.toList ++ r)
def inBlk {α : Type} (vs : List Nat) (m : EM α) : EM α := fun ρ => match m ρ with
  | some (r, ρ') => some (r, rst ρ vs ρ')
  | none => none
def lcM (vs : List Nat) (t : Tg) (src : EM (List D)) (c : EM Bool) (m : EM D) : EM (List D) := bnd src fun ds => if ds.length ≤ 16777216 then inBlk vs (compD vs t c m ds) else stuck
def yes : EM Bool := EM.ret true

/-! ### slots -/
theorem clr_length (ρ : Env') : ∀ vs, (clr vs ρ).length = ρ.length
  | [] => rfl
  | i :: vs => by rw [clr, List.length_set, clr_length ρ vs]
theorem rst_length (ρ0 ρ : Env') : ∀ vs, (rst ρ0 vs ρ).length = ρ.length
  | [] => rfl
  | i :: vs => by rw [rst, List.length_set, rst_length ρ0 ρ vs]
theorem slot_out {ρ : Env'} {j : Nat} (h : ρ.length ≤ j) : slot ρ j = .un := by
  unfold slot
  rw [List.getD_eq_getElem?_getD, List.getElem?_eq_none h]; rfl
theorem slot_clr (ρ : Env') (j : Nat) : ∀ vs, slot (clr vs ρ) j = if j ∈ vs then .un else slot ρ j
  | [] => by rw [clr, if_neg (by simp)]
  | i :: vs => by
    rw [clr, slot_set, slot_clr ρ j vs, clr_length]
    by_cases e : i = j
    · subst e
      rw [if_pos (List.mem_cons_self : i ∈ i :: vs)]
      by_cases hl : i < ρ.length
      · rw [if_pos ⟨rfl, hl⟩]
      · rw [if_neg (fun z => hl z.2)]
        split
        · rfl
        · exact slot_out (Nat.le_of_not_lt hl)
    · rw [if_neg (fun z => e z.1)]
      by_cases hm : j ∈ vs
      · rw [if_pos hm, if_pos (List.mem_cons_of_mem _ hm)]
      · rw [if_neg hm, if_neg (fun z => (List.mem_cons.mp z).elim (fun q => e q.symm) hm)]
theorem slot_rst (ρ0 ρ : Env') (hl : ρ0.length = ρ.length) (j : Nat) : ∀ vs, slot (rst ρ0 vs ρ) j = if j ∈ vs then slot ρ0 j else slot ρ j
  | [] => by rw [rst, if_neg (by simp)]
  | i :: vs => by
    rw [rst, slot_set, slot_rst ρ0 ρ hl j vs, rst_length]
    by_cases e : i = j
    · subst e
      rw [if_pos (List.mem_cons_self : i ∈ i :: vs)]
      by_cases hl2 : i < ρ.length
      · rw [if_pos ⟨rfl, hl2⟩]
      · rw [if_neg (fun z => hl2 z.2)]
        have h1 : slot ρ0 i = .un := slot_out (by omega)
        have h2 : slot ρ i = .un := slot_out (by omega)
        rw [h1, h2]
        split <;> rfl
    · rw [if_neg (fun z => e z.1)]
      by_cases hm : j ∈ vs
      · rw [if_pos hm, if_pos (List.mem_cons_of_mem _ hm)]
      · rw [if_neg hm, if_neg (fun z => (List.mem_cons.mp z).elim (fun q => e q.symm) hm)]
theorem wipe_in {σ : L2.St} {i : Nat} : ∀ {vs : List Nat}, i ∈ vs → (wipe σ vs)[i]? = if i < σ.length then some none else none
  | [], h => by simp at h
  | v :: vs, h => by
    unfold wipe
    by_cases e : v = i
    · subst e
      by_cases hl : v < σ.length
      · rw [List.getElem?_set_self (by rw [wipe_length]; exact hl), if_pos hl]
      · rw [List.getElem?_eq_none (by rw [List.length_set, wipe_length]; omega), if_neg hl]
    · rw [List.getElem?_set_ne e]
      exact wipe_in ((List.mem_cons.mp h).elim (fun q => absurd q.symm e) id)
theorem SamS.wipe {vs ws : List Nat} {σ σ2 : L2.St} (m : SamS ws (L2.wipe σ vs) σ2) (h : ∀ i ∈ ws, i ∈ vs) : L2.wipe σ2 vs = L2.wipe σ vs := by
  have hl : σ2.length = σ.length := by rw [m.1, wipe_length]
  refine List.ext_getElem? fun j => ?_
  by_cases hj : j ∈ vs
  · rw [wipe_in hj, wipe_in hj, hl]
  · rw [wipe_out hj, m.2 j (fun z => hj (h j z))]
/-- footprints without those of vs -/
def fclr (vs : List Nat) (Fs : Nat → List Addr) : Nat → List Addr := fun j => if j ∈ vs then [] else Fs j
section
variable {C : Fix} {Z Z1 Z2 : AP'} {Fs Fs1 Fs2 : Nat → List Addr} {ρ ρ1 ρ2 : Env'} {σ : L2.St} {H H1 H2 : Hp} {vs : List Nat}
theorem SlR.at {s : Sl} {o o' : Option (Option V)} {F : List Addr} (h : SlR C Z H s o F) (e : o' = o) : SlR C Z H s o' F := by rw [e]; exact h
theorem Sim.clear (S : Sim C Z Fs ρ σ H) (vs : List Nat) : Sim C Z (fclr vs Fs) (clr vs ρ) (wipe σ vs) H := by
  refine ⟨fun j => ?_, fun j => ?_, fun j l a h1 h2 => ?_, fun j a h => ?_, S.zin, S.tb, by rw [clr_length, wipe_length]; exact S.len⟩
  · rw [slot_clr]
    unfold fclr
    by_cases hj : j ∈ vs
    · rw [if_pos hj, if_pos hj]; exact rfl
    · rw [if_neg hj, if_neg hj, wipe_out hj]; exact S.sl j
  · unfold fclr
    split
    · exact .nil
    · exact S.nd j
  · unfold fclr at h1 h2
    by_cases hj : j ∈ vs
    · rw [if_pos hj] at h1; simp at h1
    · by_cases hl : l ∈ vs
      · rw [if_pos hl] at h2; simp at h2
      · rw [if_neg hj] at h1; rw [if_neg hl] at h2
        exact S.dj j l a h1 h2
  · unfold fclr at h
    by_cases hj : j ∈ vs
    · rw [if_pos hj] at h; simp at h
    · rw [if_neg hj] at h; exact S.zf j a h
theorem inF_clr {a : Addr} (h : InF (fclr vs Fs) a) : InF Fs a := by
  obtain ⟨j, hj⟩ := h
  unfold fclr at hj
  by_cases hm : j ∈ vs
  · rw [if_pos hm] at hj; simp at hj
  · rw [if_neg hm] at hj; exact ⟨j, hj⟩
theorem Ext.clear (e : Ext Z H (InF Fs) Z1 H1 (InF Fs1)) : Ext Z H (InF Fs) Z1 H1 (InF (fclr vs Fs1)) := e.less fun _ => inF_clr
/-- the hidden slots come back -/
theorem Sim.back (S1 : Sim C Z1 Fs1 ρ1 σ H1) (S2 : Sim C Z2 Fs2 ρ2 (wipe σ vs) H2) (x : Ext Z1 H1 (InF (fclr vs Fs1)) Z2 H2 (InF Fs2)) (hu : ∀ j ∈ vs, slot ρ2 j = .un) :
    Sim C Z2 (fun j => if j ∈ vs then Fs1 j else Fs2 j) (rst ρ1 vs ρ2) σ H2 ∧ Ext Z1 H1 (InF Fs1) Z2 H2 (InF fun j => if j ∈ vs then Fs1 j else Fs2 j) := by
  have hl : ρ1.length = ρ2.length := by rw [S1.len, S2.len, wipe_length]
  have kp : Keeps Z1 Z2 H1 H2 := (S1.clear vs).keeps x
  have hid : ∀ j ∈ vs, ∀ a ∈ Fs1 j, ¬ InF (fclr vs Fs1) a := fun j hj a ha ⟨l, hl⟩ => by
    unfold fclr at hl
    by_cases hm : l ∈ vs
    · rw [if_pos hm] at hl; simp at hl
    · rw [if_neg hm] at hl
      have := S1.dj j l a ha hl
      subst this
      exact hm hj
  have hnew : ∀ j ∈ vs, ∀ a ∈ Fs1 j, ¬ InF Fs2 a := fun j hj a ha z => by
    rcases x.fnew a z with q | q
    · exact hid j hj a ha q
    · obtain ⟨o, h, l⟩ := S1.obj ha
      exact l.no q h
  have hz : ∀ j ∈ vs, ∀ a ∈ Fs1 j, ¬ Z2 a := fun j hj a ha z => by
    rcases x.znew a z with q | q | q
    · exact S1.zf j a ha q
    · exact hid j hj a ha q
    · obtain ⟨o, h, l⟩ := S1.obj ha
      exact l.no q h
  refine ⟨⟨fun j => ?_, fun j => ?_, fun j l a h1 h2 => ?_, fun j a h => ?_, S2.zin, S2.tb, by rw [rst_length, ← hl]; exact S1.len⟩, ⟨fun a o h n t => x.keep a o h (fun z => n (inF_clr z)) t, x.zz, fun a h => ?_, fun a ⟨j, h⟩ => ?_, x.thr⟩⟩
  · rw [slot_rst ρ1 ρ2 hl]
    by_cases hj : j ∈ vs
    · simp only [if_pos hj]
      have q := S1.sl j
      have ow : ∀ a ∈ Fs1 j, ∀ o, H1 a = some o → H2 a = some o := fun a ha o h => x.keep a o h (hid j hj a ha) (by
        obtain ⟨o', h', l⟩ := S1.obj ha
        rw [h] at h'; cases h'; exact l.nt)
      unfold SlR at q ⊢
      cases hs : slot ρ1 j with
      | un => rw [hs] at q; exact q
      | fz d => rw [hs] at q; obtain ⟨e, v, hv, r⟩ := q; exact ⟨e, v, hv, r.keep kp⟩
      | ow k d => rw [hs] at q; obtain ⟨v, hv, r⟩ := q; exact ⟨v, hv, r.keep kp ow⟩
      | rf t k d => rw [hs] at q; exact ⟨q.1, q.2.keep kp ow⟩
      | ro t d => rw [hs] at q; obtain ⟨e, hv, a, xs, ds, ht, hd, h1, h2⟩ := q; exact ⟨e, hv, a, xs, ds, ht, hd, kp.roL h1, RpAll.keep kp _ _ h2⟩
      | kn t => rw [hs] at q; exact ⟨q.1, q.2.1, fun p hp => ⟨kp.ks _ _ (q.2.2 p hp).1 (q.2.2 p hp).2.1 (q.2.2 p hp).2.2, (q.2.2 p hp).2⟩⟩
    · simp only [if_neg hj]
      have q := S2.sl j
      rw [wipe_out hj] at q
      exact q
  · by_cases hj : j ∈ vs
    · simp only [if_pos hj]; exact S1.nd j
    · simp only [if_neg hj]; exact S2.nd j
  · by_cases hj : j ∈ vs
    · simp only [if_pos hj] at h1
      by_cases hm : l ∈ vs
      · simp only [if_pos hm] at h2; exact S1.dj j l a h1 h2
      · simp only [if_neg hm] at h2; exact absurd ⟨l, h2⟩ (hnew j hj a h1)
    · simp only [if_neg hj] at h1
      by_cases hm : l ∈ vs
      · simp only [if_pos hm] at h2; exact absurd ⟨j, h1⟩ (hnew l hm a h2)
      · simp only [if_neg hm] at h2; exact S2.dj j l a h1 h2
  · by_cases hj : j ∈ vs
    · simp only [if_pos hj] at h; exact hz j hj a h
    · simp only [if_neg hj] at h; exact S2.zf j a h
  · rcases x.znew a h with q | q | q
    · exact .inl q
    · exact .inr (.inl (inF_clr q))
    · exact .inr (.inr q)
  · by_cases hj : j ∈ vs
    · simp only [if_pos hj] at h; exact .inl ⟨j, h⟩
    · simp only [if_neg hj] at h
      rcases x.fnew a ⟨j, h⟩ with q | q
      · exact .inl (inF_clr q)
      · exact .inr q
/-- the list that is being made grows -/
theorem Sim.grow (S : Sim C Z Fs ρ σ H) {L : Addr} {acc acc' : List V} (hL : H L = some (.lst acc)) (nz : ¬ Z L) (nf : ¬ InF Fs L) : Sim C Z Fs ρ σ (upd H L (.lst acc')) ∧ Keeps Z Z H (upd H L (.lst acc')) := by
  have old : ∀ a, a ≠ L → upd H L (.lst acc') a = H a := fun a h => upd_ne h
  have zn : ∀ a, Z a → a ≠ L := fun a h e => by subst e; exact nz h
  have kp : Keeps Z Z H (upd H L (.lst acc')) := by
    refine ⟨fun a xs h r => by rw [old a (zn a h)]; exact r, fun a xs h r => ?_, fun a o es h _ r => ?_, fun a xs r => ?_, fun a h => h, fun a o u r => by rw [old a (fun e => by subst e; rw [hL] at r; cases r)]; exact r, fun a o r l _ => by rw [old a (fun e => by subst e; rw [hL] at r; cases r; exact l (.inl ⟨_, rfl⟩))]; exact r⟩
    · unfold Rd at r ⊢; rw [old a (zn a h)]; exact r
    · rw [old a (zn a h)]; exact r
    · have ne : a ≠ L := fun e => by
        subst e
        rw [hL] at r; cases r
      rw [old a ne]; exact r
  refine ⟨S.same kp (fun a ha o h => by rw [old a (fun e => by subst e; exact nf ha)]; exact h) (fun a ⟨i, h⟩ => S.zf i a h) (fun a h => ?_) ?_, kp⟩
  · obtain ⟨o, q, n⟩ := S.zin a h
    exact ⟨o, by rw [old a (zn a h)]; exact q, n⟩
  · exact S.tb.set hL (.inl ⟨_, rfl⟩)
end

/-! ### the rule -/
abbrev W0 : WX := fun _ _ _ _ => False
theorem noX_inv {α : Type} {m : EM α} {ρ ρ' : Env'} {r : Except Exn α} (h : noX m ρ = some (r, ρ')) : m ρ = some (r, ρ') ∧ ∃ a, r = .ok a := by
  unfold noX at h
  split at h
  · cases h
  · rename_i q
    refine ⟨h, ?_⟩
    cases r with
    | ok a => exact ⟨a, rfl⟩
    | error x => exact absurd h (q x ρ')
theorem compD_ok {vs : List Nat} {t : Tg} {c : EM Bool} {m : EM D} : ∀ {ds : List D} {ρ ρ' : Env'} {r : Except Exn (List D)}, compD vs t c m ds ρ = some (r, ρ') → ∃ ys, r = .ok ys
  | [], _, _, _, h => by cases h; exact ⟨[], rfl⟩
  | d :: ds, ρ, ρ', r, h => by
    rcases bnd_inv (show bnd (clrM vs) _ ρ = some (r, ρ') from h) with ⟨_, ρ1, q1, q2⟩ | ⟨x, q1, q2⟩
    · rcases bnd_inv q2 with ⟨o, ρ2, q3, q4⟩ | ⟨x, q3, q4⟩
      · rcases bnd_inv q4 with ⟨o, ρ2, q5, q6⟩ | ⟨x, q5, q6⟩
        · cases q6; exact ⟨_, rfl⟩
        · obtain ⟨ys, e⟩ := compD_ok q5
          cases e
      · obtain ⟨_, a, e⟩ := noX_inv q3
        cases e
    · cases q1
theorem slot_unset {ρ : Env'} {σ : L2.St} {C : Fix} {Z : AP'} {Fs : Nat → List Addr} {H : Hp} {vs : List Nat} (S : Sim C Z Fs ρ (wipe σ vs) H) : ∀ j ∈ vs, slot ρ j = .un := fun j hj => by
  apply Classical.byContradiction
  intro hn
  obtain ⟨v, hv⟩ := S.has hn
  rw [wipe_in hj] at hv
  split at hv <;> cases hv
theorem Sim.congr {C : Fix} {Z : AP'} {Fs : Nat → List Addr} {ρ ρ' : Env'} {σ : L2.St} {H : Hp} (S : Sim C Z Fs ρ σ H) (h : ∀ j, slot ρ' j = slot ρ j) (hl : ρ'.length = ρ.length) : Sim C Z Fs ρ' σ H :=
  ⟨fun j => by rw [h]; exact S.sl j, S.nd, S.dj, S.zf, S.zin, S.tb, hl.trans S.len⟩
theorem Ext.wid {Z Z1 : AP'} {H H1 : Hp} {F F1 : AP'} (e : Ext Z H F Z1 H1 F1) (L : Addr) : Ext Z H (fun a => F a ∨ a = L) Z1 H1 (fun a => F1 a ∨ a = L) := by
  refine ⟨fun a o h n t => e.keep a o h (fun z => n (.inl z)) t, e.zz, fun a h => ?_, fun a h => ?_, e.thr⟩
  · rcases e.znew a h with q | q | q
    · exact .inl q
    · exact .inr (.inl (.inl q))
    · exact .inr (.inr q)
  · rcases h with h | h
    · rcases e.fnew a h with q | q
      · exact .inl (.inl q)
      · exact .inr q
    · exact .inl (.inr h)
theorem Ext.growL {Z : AP'} {H : Hp} {F : AP'} {L : Addr} {o : HO} (hn : nt o := by intro ps z; cases z) : Ext Z H (fun a => F a ∨ a = L) Z (upd H L o) (fun a => F a ∨ a = L) := by
  refine ⟨fun a u h n _ => by rw [upd_ne (fun e => n (.inr e))]; exact h, fun a h => h, fun a h => .inl h, fun a h => .inl h, fun a u h n => ?_⟩
  by_cases e : a = L
  · subst e; exact ⟨o, upd_same, hn⟩
  · exact ⟨u, by rw [upd_ne e]; exact h, n⟩
theorem tF_lc {C : Fix} {W : WX} {vs : List Nat} {t : Tg} {src : EM (List D)} {c : EM Bool} {m : EM D} (hv : ∀ i ∈ tgS t, i ∈ vs) (σ : L2.St) (H : Hp) (Q : VK) (h : tF C W (lcM vs t src c m) σ H Q) :
    tLc (tI C W src) (tTg C t) (tT C W0 c) (tE C W0 m) vs σ H Q := by
  obtain ⟨Z, Fs, ρ, rr, ρ', S, e, k⟩ := h
  rcases bnd_inv e with ⟨ds, ρ1, e1, e2⟩ | ⟨x, e1, e2⟩
  · by_cases hsz : ds.length ≤ 16777216
    · rw [if_pos hsz] at e2
      refine ⟨Z, Fs, ρ, .ok ds, ρ1, S, e1, fun J H1 Z1 Fs1 x1 S1 y L hL => ?_⟩
      obtain ⟨G, Y, hw, hG, hY⟩ := y
      unfold inBlk at e2
      cases e3 : compD vs t c m ds ρ1 with
      | none => rw [e3] at e2; cases e2
      | some p =>
        obtain ⟨r2, ρ2⟩ := p
        rw [e3] at e2
        cases e2
        obtain ⟨ys, rfl⟩ := compD_ok e3
        obtain ⟨S2, x2, kp2, nz2, nf2⟩ := S1.newF (o := .lst []) hL
        have nfc : ¬ InF (fclr vs Fs1) L := fun z => nf2 (inF_clr z)
        let Pv : Nat → Hp → Prop := fun i H2 => ∃ Z3 Fs3 ρ3 acc as rest, Sim C Z3 Fs3 (clr vs ρ3) (wipe σ vs) H2 ∧ Ext Z1 H1 (InF (fclr vs Fs1)) Z3 H2 (fun a => InF Fs3 a ∨ a = L) ∧
          H2 L = some (.lst acc) ∧ RpAll C.K Z3 H2 acc as ∧ acc.length ≤ i ∧ ¬ Z3 L ∧ ¬ InF Fs3 L ∧ compD vs t c m (ds.drop i) ρ3 = some (.ok rest, ρ2) ∧ ys = as ++ rest
        have kpx : ∀ {Z3 H2 F3}, Ext Z1 H1 (InF (fclr vs Fs1)) Z3 H2 F3 → Keeps Z1 Z3 H1 H2 := fun x => (S1.clear vs).keeps x
        have x20 : Ext Z1 H1 (InF (fclr vs Fs1)) Z1 (upd H1 L (.lst [])) (fun a => InF (fclr vs Fs1) a ∨ a = L) := by
          obtain ⟨_, x2', _⟩ := (S1.clear vs).newF (o := .lst []) hL
          exact x2'.less fun a h => h.elim .inl fun e => .inr (by rw [e]; simp)
        refine lc_it hw Pv ⟨Z1, fclr vs Fs1, ρ1, [], [], ys, S2.clear vs, x20, upd_same, .nil, Nat.le_refl _, nz2, nfc, e3, rfl⟩ (fun i H2 _ ⟨Z3, Fs3, ρ3, acc, as, rest, S3, x3, _⟩ => hG Z3 H2 (kpx x3)) (fun i x H2 H3 hi ⟨Z3, Fs3, ρ3, acc, as, rest, S3, x3, h1, h2, h3, h4, h5, h6, h7⟩ y => ?_) fun H2 ⟨Z3, Fs3, ρ3, acc, as, rest, S3, x3, h1, h2, h3, h4, h5, h6, h7⟩ => ?_
        · -- a turn
          obtain ⟨d, Z4, hd, x4, S4, rd⟩ := hY i H2 x H3 Z3 Fs3 _ _ hi y (kpx x3) S3
          have hdr : ds.drop i = d :: ds.drop (i + 1) := by
            rw [List.drop_eq_getElem_cons hi]
            rw [List.getElem?_eq_getElem hi] at hd
            rw [Option.some.inj hd]
          rw [hdr] at h6
          rcases bnd_inv (show bnd (clrM vs) _ ρ3 = some (.ok rest, ρ2) from h6) with ⟨_, ρ4, q1, q2⟩ | ⟨x, q1, q2⟩
          · cases q1
            rcases bnd_inv q2 with ⟨o, ρ5, q3, q4⟩ | ⟨x, q3, q4⟩
            · obtain ⟨q3, _⟩ := noX_inv q3
              rcases bnd_inv q4 with ⟨r5, ρ6, q5, q6⟩ | ⟨x, q5, q6⟩
              · cases q6
                have L4 : H3 L = some (.lst acc) := x4.keep L _ h1 h5 (fun ps => by intro z; cases z)
                have nz4 : ¬ Z4 L := fun z => by
                  rcases x4.znew L z with q | q | q
                  · exact h4 q
                  · exact h5 q
                  · exact q.lst h1
                rcases bnd_inv (show bnd (asgT t d) _ (clr vs ρ3) = some (.ok o, ρ5) from q3) with ⟨_, ρ7, g1, g2⟩ | ⟨x, g1, g2⟩
                · refine ⟨Z4, Fs3, _, d, ρ7, S4, rd, g1, fun σ8 Fs8 S8 f8 m8 => ⟨m8.wipe hv, ?_⟩⟩
                  have x8 : Ext Z3 H2 (InF Fs3) Z4 H3 (InF Fs8) := x4.less f8
                  have nf8 : ¬ InF Fs8 L := fun z => h5 (f8 L z)
                  refine tT_of S8 g2 (fun x q => by cases q) fun b ρ9 H9 Z9 Fs9 e9 x9 S9 => ?_
                  have L9 : H9 L = some (.lst acc) := x9.keep L _ L4 nf8 (fun ps => by intro z; cases z)
                  have nz9 : ¬ Z9 L := fun z => by
                    rcases x9.znew L z with q | q | q
                    · exact nz4 q
                    · exact nf8 q
                    · exact q.lst L4
                  have nf9 : ¬ InF Fs9 L := fun z => by
                    rcases x9.fnew L z with q | q
                    · exact nf8 q
                    · exact q.lst L4
                  have ka : Keeps Z3 Z9 H2 H9 := S3.keeps (x8.trans x9)
                  cases b with
                  | true =>
                    rw [if_pos rfl] at e9 ⊢
                    refine tE_of S9 e9 (fun x q => by cases q) fun y ρa v Ha Za Fsa ea xa Sa ra => ?_
                    cases ea
                    have La : Ha L = some (.lst acc) := xa.keep L _ L9 nf9 (fun ps => by intro z; cases z)
                    have nza : ¬ Za L := fun z => by
                      rcases xa.znew L z with q | q | q
                      · exact nz9 q
                      · exact nf9 q
                      · exact q.lst L9
                    have nfa : ¬ InF Fsa L := fun z => by
                      rcases xa.fnew L z with q | q
                      · exact nf9 q
                      · exact q.lst L9
                    refine ⟨acc, La, by rw [sizeL]; omega, ?_⟩
                    have Sc := Sa.clear vs
                    rw [m8.wipe hv] at Sc
                    have nfc' : ¬ InF (fclr vs Fsa) L := fun z => nfa (inF_clr z)
                    obtain ⟨Sg, kg⟩ := Sc.grow (acc' := acc ++ [v]) La nza nfc'
                    have kall : Keeps Z3 Za H2 Ha := S3.keeps ((x8.trans x9).trans xa)
                    refine ⟨Za, fclr vs Fsa, _, acc ++ [v], as ++ [y], r5, Sg, (x3.trans ((((x8.trans x9).trans xa).clear).wid L)).trans Ext.growL, upd_same, ?_, by rw [List.length_append, List.length_singleton]; omega, nza, nfc', q5, ?_⟩
                    · exact RpAll.keep kg _ _ ((RpAll.keep kall _ _ h2).append (.cons ra .nil))
                    · rw [h7]; show as ++ ([y] ++ r5) = _; rw [List.append_assoc]
                  | false =>
                    rw [if_neg Bool.false_ne_true] at e9 ⊢
                    cases e9
                    have Sc := S9.clear vs
                    rw [m8.wipe hv] at Sc
                    exact ⟨Z9, fclr vs Fs9, _, acc, as, r5, Sc, x3.trans (((x8.trans x9).clear).wid L), L9, RpAll.keep ka _ _ h2, Nat.le_succ_of_le h3, nz9, fun z => nf9 (inF_clr z), q5, h7⟩
                · exact absurd g1 (asgT_err _ _ _ _ _)
              · cases q6
            · cases q4
          · cases q1
        · -- the end
          rw [List.drop_length] at h6
          cases h6
          rw [List.append_nil] at h7
          subst h7
          have xb : Ext Z1 H1 (InF (fclr vs Fs1)) Z3 H2 (InF Fs3) := x3.less fun a h => .inl h
          obtain ⟨Sb, xb'⟩ := S1.back S3 xb fun j hj => by rw [slot_clr, if_pos hj]
          have hl : ρ1.length = ρ2.length := by
            have := S3.len
            rw [clr_length, wipe_length] at this
            rw [S1.len, this]
          have Sf := Sb.congr (ρ' := rst ρ1 vs ρ2) (fun j => by
            rw [slot_rst ρ1 ρ2 hl, slot_rst ρ1 (clr vs ρ2) (by rw [clr_length]; exact hl), slot_clr]
            by_cases hj : j ∈ vs
            · rw [if_pos hj, if_pos hj]
            · rw [if_neg hj, if_neg hj, if_neg hj]) (by rw [rst_length, rst_length, clr_length])
          refine k L acc H2 Z3 _ (x1.trans ?_) Sf h4 ?_ h1 h2
          · refine ⟨xb'.keep, xb'.zz, xb'.znew, fun a h => ?_, xb'.thr⟩
            rcases h with h | h
            · exact xb'.fnew a h
            · have ea : a = L := by simpa using h
              subst ea
              exact .inr (NoO.of hL)
          · rintro ⟨j, hj⟩
            by_cases hm : j ∈ vs
            · simp only [if_pos hm] at hj; exact nf2 ⟨j, hj⟩
            · simp only [if_neg hm] at hj; exact h5 ⟨j, hj⟩
    · rw [if_neg hsz] at e2; cases e2
  · subst e2
    exact ⟨Z, Fs, ρ, .error x, ρ', S, e1, k⟩

section
variable {X : Cx} {B : Bx} {W : WX} {elt tg iter : Expr} {ifs : List Expr} {scope : Scope} {pos : Pos}
theorem PTs_imp {t t' : TT} (h : PTs X ifs t) (i : ∀ σ H Q, t' σ H Q → t σ H Q) : PTs X ifs t' := ⟨fun pins s σ H Q I q => h.run pins s σ H Q I (i σ H Q q)⟩
theorem sc_nil : PTs X [] (tT (fx X B) W yes) := PTs_imp pts_nil fun σ H Q t => by
  obtain ⟨Z, Fs, ρ, rr, ρ', S, e, k⟩ := t
  cases e
  exact k H Z Fs (Ext.refl _ _ _) S
theorem sc_one {c : Expr} {m : EM Bool} (h : PT X c (tT (fx X B) W m)) : PTs X [c] (tT (fx X B) W m) := pts_one h
theorem sf_lc {own : List (Str × Nat)} {t : Tg} {src : EM (List D)} {c : EM Bool} {m : EM D} (hc : X.calm = true) (hN : X.N.Nodup) (hi : PI X tg iter (tI (fx X B) W src)) (ok : BlkOk X.N X.env.scope scope own)
    (hg : ∀ (s : Shared) (H : Hp) (C : Addr) (cl : List (Str × Addr)) (fp : List Addr), PG (X.blk s H scope (compEnvC scope cl C X.env) fp) tg (tTg (fx X B) t)) (ht : ∀ (s : Shared) (H : Hp) (C : Addr) (cl : List (Str × Addr)) (fp : List Addr), PTs (X.blk s H scope (compEnvC scope cl C X.env) fp) ifs (tT (fx X B) W0 c))
    (he : ∀ (s : Shared) (H : Hp) (C : Addr) (cl : List (Str × Addr)) (fp : List Addr), PE (X.blk s H scope (compEnvC scope cl C X.env) fp) elt (tE (fx X B) W0 m)) (hv : ∀ i ∈ tgS t, i ∈ own.map (·.2)) (hs : ∀ x, foldedSetIterable iter X.env x = pure x := by intro _; rfl) :
    PE X (.ListComp elt [⟨tg, iter, ifs, 0⟩] scope pos) (tF (fx X B) W (lcM (own.map (·.2)) t src c m)) := PE_imp (pe_lc hc hN hi ok hg ht he hs) fun σ H Q h => tF_lc hv σ H Q h
theorem ss_setLc {i : Nat} {y : Str} {py spos : Pos} {own : List (Str × Nat)} {t : Tg} {src : EM (List D)} {c : EM Bool} {m : EM D} (hc : X.calm = true) (hN : X.N.Nodup) (hy : X.N[i]? = some y) (hyl : X.env.scope.names.lookup y = some .local)
    (hsw : swapsWith (.ListComp elt [⟨tg, iter, ifs, 0⟩] scope pos) (some (.Name y py)) spos.line X.env = pure true) (hi : PI X tg iter (tI (fx X B) W src)) (ok : BlkOk X.N X.env.scope scope own)
    (hg : ∀ (s : Shared) (H : Hp) (C : Addr) (cl : List (Str × Addr)) (fp : List Addr), PG (X.blk s H scope (compEnvC scope cl C X.env) fp) tg (tTg (fx X B) t)) (ht : ∀ (s : Shared) (H : Hp) (C : Addr) (cl : List (Str × Addr)) (fp : List Addr), PTs (X.blk s H scope (compEnvC scope cl C X.env) fp) ifs (tT (fx X B) W0 c))
    (he : ∀ (s : Shared) (H : Hp) (C : Addr) (cl : List (Str × Addr)) (fp : List Addr), PE (X.blk s H scope (compEnvC scope cl C X.env) fp) elt (tE (fx X B) W0 m)) (hv : ∀ i ∈ tgS t, i ∈ own.map (·.2)) (hs : ∀ x, foldedSetIterable iter X.env x = pure x := by intro _; rfl) :
    PS X (.Assign [.Name y py] (.ListComp elt [⟨tg, iter, ifs, 0⟩] scope pos) spos) (tS (fx X B) W (sSet i (gF (lcM (own.map (·.2)) t src c m)))) := by
  refine PS_imp (ps_setLc hc hN hy hyl hsw hi ok hg ht he hs) fun D' σ H h => ?_
  have q := tS_set D' σ H h
  exact tF_lc hv σ H _ (tF_tG σ H _ q)
end
end NH

/-! NhFn: a def as the hand layer's FnOk has it, but also where it is only called with no repr under way (gd = true): repr wants to know that. -/
namespace NH
open PySem Spec PyProof.Rows L2

def GOk (gd : Bool) (A : Around) : Prop := gd = true → A.guards = some []
theorem GOk.off (A : Around) : GOk false A := fun h => Bool.noConfusion h
theorem GOk.deeper {gd : Bool} {A : Around} (h : GOk gd A) (env : Env) : GOk gd (A.deeper env) := h
theorem GOk.less {gd gd' : Bool} {A : Around} (h : GOk gd A) (i : gd' = true → gd = true) : GOk gd' A := fun z => h (i z)
structure FnG (P : Program) (w : World) (K : PySem.W.Frag) (mg : Str → Option Value) (base : Heap) (gd : Bool) (k : Nat) (f : Addr) (fd : FuncData) (ps : List Str) (sp : Sp) : Prop where
  wide : ∀ vs H Q E, sp vs H Q E → vs.length = ps.length
  goes : ∀ (A : Around) (out : List Env) (s : Shared) (H : Hp) (ar : Args) (us : List Value) (vs : List V) (Q : VK) (E : XK), Room k A → GOk gd A → Env0 P w K mg base A out s H → BindsTo s fd ar (ps.zip us) →
    Vals vs us → sp vs H Q E → codeAny (model P w) A (.call (.ref f) ar) (CR (L2.CX P w) out P w H s Q E) s
theorem FnG.ok {P : Program} {w : World} {K : PySem.W.Frag} {mg : Str → Option Value} {base : Heap} {k : Nat} {f : Addr} {fd : FuncData} {ps : List Str} {sp : Sp} (F : FnG P w K mg base false k f fd ps sp) : FnOk P w K mg base (L2.CX P w) k f fd ps sp :=
  ⟨F.wide, fun A out s H ar us vs Q E hr => F.goes A out s H ar us vs Q E hr (GOk.off A)⟩
theorem FnG.mono {P : Program} {w : World} {K : PySem.W.Frag} {mg : Str → Option Value} {base : Heap} {gd : Bool} {j k : Nat} {f : Addr} {fd : FuncData} {ps : List Str} {sp : Sp} (F : FnG P w K mg base gd j f fd ps sp) (h : j ≤ k) : FnG P w K mg base gd k f fd ps sp :=
  ⟨F.wide, fun A out s H ar us vs Q E hr => F.goes A out s H ar us vs Q E (hr.mono h)⟩
section
variable {P : Program} {w : World} {K : PySem.W.Frag} {mg : Str → Option Value} {base : Heap}
/-- a def of the text; of its code object's value Pc is known -/
structure FunP (K : PySem.W.Frag) (x qual : Str) (st : Stmt) (f : Addr) (fd : FuncData) (Pc : Value → Prop) : Prop where
  ex : ∃ (oc : Value) (od : Option Addr) (kV doc pm : Value) (an : Option Addr) (cdv ct : Value) (osl : Array (Option Value)),
    fd = PySem.W.fnOf x qual (defArgs st) (defBody st) (defScope st) .none kV doc pm an cdv ct ∧ K.lookup f = some ⟨oc, od, .func fd, osl⟩ ∧ PySem.W.codeIn K cdv qual = true ∧ Pc cdv
  kp : PySem.W.keepIn K (.ref f) = true
theorem funP {K : PySem.W.Frag} {x qual : Str} {st : Stmt} {f : Addr} {fd : FuncData} (F : Fun K x qual st f fd) : FunP K x qual st f fd fun _ => True := by
  obtain ⟨oc, od, kV, doc, pm, an, cdv, ct, osl, h1, h2, h3⟩ := F.ex
  exact ⟨⟨oc, od, kV, doc, pm, an, cdv, ct, osl, h1, h2, h3, trivial⟩, F.kp⟩
/-- a def of the text, by its body -/
theorem fnG_ofC {Pc : Value → Prop} {gd : Bool} {k : Nat} {x qual : Str} {st : Stmt} {f : Addr} {fd : FuncData} {N ps : List Str} {sp : Sp} (F : FunP K x qual st f fd Pc) (S : FnScope N ps (defScope st)) (wide : ∀ vs H Q E, sp vs H Q E → vs.length = ps.length)
    (hbody : ∀ (cdv : Value), Pc cdv → ∀ (A : Around) (out : List Env) (s : Shared) (H : Hp) (vs : List V) (Q : VK) (E : XK), Room k (A.deeper (envOfC qual (defScope st) s.heap.objs.size f cdv)) → GOk gd A → sp vs H Q E →
      ∃ t, PSs (cxOf (L2.CX P w) P w K mg base N qual (defScope st) f cdv A out s H E) (defBody st) t ∧ t { nx := fun _ H' => Q .non H', rt := Q } (start N vs) H) : FnG P w K mg base gd (k + 1) f fd ps sp := by
  obtain ⟨oc, od, kV, doc, pm, an, cdv, ct, osl, rfl, atF, isC, hPc⟩ := F.ex
  refine ⟨wide, fun A out s H ar us vs Q E room gk e0 bi rv pr => ?_⟩
  have wd := wide _ _ _ _ pr
  have inS : K.In s.heap := e0.mod.kin.keeps fun b o z => (e0.bs b o z).1
  have noL : s.heap.NoLimit := e0.mod.nolimit.keeps fun b o z => (e0.bs b o z).1
  have slots : ∀ y ∈ ps.zip us, (defScope st).names.lookup y.1 = some .local ∨ ((defScope st).names.lookup y.1 = some .cell ∧ ((cellsFrom (s.heap.objs.size + 1) (defScope st).names []).lookup y.1).isSome = true) := by
    rintro ⟨n, v⟩ hy
    cases S.par n (List.of_mem_zip hy).1 with
    | inl q => exact Or.inl q
    | inr q => exact Or.inr ⟨q, PySem.W.cellsFrom_some _ _ _ (Or.inl q)⟩
  refine codeAny_call_function room.depth (inS _ _ atF) rfl S.co S.gen rfl (PySem.W.codeRec_of inS isC) (bi _ _ _ _ ?_)
  refine wpAny_newFunctionEnv_cells S.kind slots fun env eq1 s1 x1 => ?_
  subst eq1
  refine ⟨noL.keeps x1.toInCall.keep, codeAny_func ?_⟩
  obtain ⟨t, runs, at0⟩ := hbody cdv hPc A out s H vs Q E (room.deeper _) gk pr
  have I0 : Inv (cxOf (L2.CX P w) P w K mg base N qual (defScope st) f cdv A out s H E) [] (start N vs) H s1 := inv_start S room.hd e0 wd rv x1
  refine wpAny_mono (runs.run [] s1 (start N vs) H _ I0 at0) (fun fl s2 q => ?_) fun e s2 q => q
  cases fl with
  | ret u => exact let ⟨v, _, H2, J, r2, q2⟩ := q; ⟨v, H2, J.os, J.bare, J.base, J.hok, r2, q2⟩
  | next => exact let ⟨_, H2, J, q2⟩ := q; ⟨V.non, H2, J.os, J.bare, J.base, J.hok, rfl, q2⟩
  | brk => exact let ⟨_, _, _, q2⟩ := q; q2.elim
  | cont => exact let ⟨_, _, _, q2⟩ := q; q2.elim
end
section
variable {X : Cx} {gd : Bool} {k : Nat} {f : Addr} {fd : FuncData} {ps : List Str} {sp : Sp} {E : L2.St → XK} {x : Str} {p pos : Pos} {e : Expr} {es : List Expr} {t : TA}
/-- the callee runs -/
theorem runG {pins : List (Addr × Obj)} {σ : L2.St} {H : Hp} {s : Shared} {Q : VK} {us : List Value} {vs : List V} (F : FnG X.prog X.w X.K X.mg X.base gd k f fd ps sp) (room : Room k X.A) (gk : GOk gd X.A) (bi : Binds X.K fd ps []) (px : PassesAt (L2.CX X.prog X.w) X σ (E σ))
    (I : Inv X pins σ H s) (rv : Vals vs us) (pr : sp vs H Q (E σ)) : wpAny (model X.prog X.w) X.A (call (.ref f) us) (EP X pins σ Q) X.xe s := by
  have wd : us.length = ps.length := by rw [← rv.length]; exact F.wide _ _ _ _ pr
  have b0 := bi s us I.kIn (by rw [List.append_nil]; exact wd)
  rw [List.append_nil] at b0
  refine wpAny_call (codeAny_mono (F.goes X.A X.stack s H ⟨us, []⟩ us vs Q (E σ) room gk I.env0 b0 rv pr) fun r s2 q => ?_)
  cases r with
  | error z => exact px pins H s z s2 I q
  | ok fl =>
    cases fl with
    | ret u => exact I.after q
    | next => exact False.elim q
    | brk => exact False.elim q
    | cont => exact False.elim q
theorem pe_callG (F : FnG X.prog X.w X.K X.mg X.base gd k f fd ps sp) (room : Room k X.A) (gk : GOk gd X.A) (hg : Gl X x) (hm : X.mg x = some (.ref f)) (hk : PySem.W.keepIn X.K (.ref f) = true) (bi : Binds X.K fd ps []) (px : ∀ σ, PassesAt (L2.CX X.prog X.w) X σ (E σ))
    (ha : PA X (e :: es) t) (hdb : (x == ("__debug__" : Str)) = false := by decide) (he : starEach (e :: es) X.env = (false, eval e X.env) :: starEach es X.env := by rfl) (hpl : (backTo pos (starEach es X.env)).any (·.1) = false := by rfl) :
    PE X (.Call (.Name x p) (e :: es) [] pos) (tCallS sp E t) := by
  refine ⟨fun pins s σ H Q I h => ?_⟩
  refine wpAny_Call_Name_kw (ld_glob I hg hm (PySem.W.callWith_K (h₀ := X.base) I.ok.mod.kin hk (thn (ha.run pos pins s σ H _ I h) fun us s1 z => ?_) he hpl) hdb)
  obtain ⟨vs, H1, I1, rv, pr⟩ := z
  exact ⟨I1.kIn, runG F room gk bi (px σ) I1 rv pr⟩
end
end NH

/-! NhCall: a def as a function of its arguments' slots; its call; its body. -/
namespace NH
open PySem Spec PyProof.Rows L2
open EM

abbrev Fn := List Sl → Option (Except Exn (Nat × D) × List Sl)
/-! ### a def's promise -/
def tvOf (vs : List V) : Nat → V := fun i => vs.getD i .non
def fixA (K : PySem.W.Frag) (mg : Str → Option Value) (T : List (Addr × Str)) (vs : List V) : Fix := ⟨K, mg, T, tvOf vs, fun _ => []⟩
def spF (K : PySem.W.Frag) (mg : Str → Option Value) (T : List (Addr × Str)) (n : Nat) (F : Fn) : Sp := fun vs H Q E => vs.length = n ∧ ∃ Z Gs sl r outs, Sim (fixA K mg T vs) Z Gs sl (vs.map some) H ∧ F sl = some (r, outs) ∧
  match r with
  | .ok p => ∀ v H' Z' Gs' Fr, Ext Z H (InF Gs) Z' H' (FrU Gs' Fr) → Sim (fixA K mg T vs) Z' Gs' outs (vs.map some) H' → OwE (fixA K mg T vs) Z' H' Gs' Fr p.1 v p.2 → Q v H'
  | .error x => ∀ cls dx H' Z' Gs', Ext Z H (InF Gs) Z' H' (InF Gs') → Sim (fixA K mg T vs) Z' Gs' outs (vs.map some) H' → ExnR K mg Z' H' x cls dx → E cls dx H'
/-- the def of that name does F -/
structure Df (P : Program) (w : World) (K : PySem.W.Frag) (mg : Str → Option Value) (base : Heap) (T : List (Addr × Str)) (gd : Bool) (x : Str) (k n : Nat) (F : Fn) : Prop where
  ex : ∃ f fd ps, FnG P w K mg base gd k f fd ps (spF K mg T n F) ∧ mg x = some (.ref f) ∧ PySem.W.keepIn K (.ref f) = true ∧ Binds K fd ps [] ∧ ps.length = n
theorem Df.mono {P : Program} {w : World} {K : PySem.W.Frag} {mg : Str → Option Value} {base : Heap} {T : List (Addr × Str)} {gd : Bool} {x : Str} {j k n : Nat} {F : Fn} (D : Df P w K mg base T gd x j n F) (h : j ≤ k) : Df P w K mg base T gd x k n F := by
  obtain ⟨f, fd, ps, h1, h2⟩ := D.ex
  exact ⟨f, fd, ps, h1.mono h, h2⟩

theorem Df.to {P : Program} {w : World} {K : PySem.W.Frag} {mg : Str → Option Value} {base : Heap} {T T' : List (Addr × Str)} {gd : Bool} {x : Str} {j n : Nat} {F : Fn} (D : Df P w K mg base T gd x j n F) (h : T' = T) : Df P w K mg base T' gd x j n F := by
  rw [h]; exact D

/-! ### the body -/
def fin1 (s o : Sl) : Option Sl := match s with
  | .rf t k _ => (match o with
    | .rf t' k' d' => if t' = t ∧ k' = k then some (.rf t k d') else none
    | _ => none)
  | .ow _ _ => none
  | s => some s
def finS : List Sl → Env' → Nat → Option (List Sl)
  | [], _, _ => some []
  | s :: sl, ρ, j => (fin1 s (slot ρ j)).bind fun o => (finS sl ρ (j + 1)).map fun os => o :: os
def isRf : Sl → Bool
  | .rf _ _ _ => true
  | _ => false
def fnOf (n nl : Nat) (b : EM Fl) : Fn := fun sl => if sl.length = n then
    (match b (sl ++ List.replicate nl .un) with
    | some (.ok (.ret k d), ρ') => (finS sl ρ' 0).map fun o => (.ok (k, d), o)
    | some (.ok .next, ρ') => (finS sl ρ' 0).map fun o => (.ok (0, .none), o)
    | some (.error x, ρ') => (finS sl ρ' 0).map fun o => (.error x, o)
    | _ => none) else none
section
variable {C : Fix} {Z Z1 : AP'} {Fs Fs1 : Nat → List Addr} {ρ ρ' : Env'} {σ : L2.St} {H H1 : Hp}
theorem finS_slot : ∀ {sl : List Sl} {ρ : Env'} {j : Nat} {outs : List Sl}, finS sl ρ j = some outs → outs.length = sl.length ∧ ∀ i, i < sl.length →
    (∃ t k d d', slot sl i = .rf t k d ∧ slot ρ (j + i) = .rf t k d' ∧ slot outs i = .rf t k d') ∨ ((∀ t k d, slot sl i ≠ .rf t k d) ∧ (∀ k d, slot sl i ≠ .ow k d) ∧ slot outs i = slot sl i)
  | [], ρ, j, outs, h => by cases h; exact ⟨rfl, fun i hi => absurd hi (Nat.not_lt_zero _)⟩
  | s :: sl, ρ, j, outs, h => by
    unfold finS at h
    rw [Option.bind_eq_some_iff] at h
    obtain ⟨o, h1, h2⟩ := h
    rw [Option.map_eq_some_iff] at h2
    obtain ⟨os, h2, rfl⟩ := h2
    obtain ⟨l, q⟩ := finS_slot h2
    refine ⟨by simp [l], fun i hi => ?_⟩
    cases i with
    | zero =>
      cases s with
      | rf t k d =>
        unfold fin1 at h1
        simp only at h1
        split at h1
        · rename_i t' k' d' e
          split at h1
          · rename_i c
            cases h1
            obtain ⟨rfl, rfl⟩ := c
            exact .inl ⟨_, _, d, d', rfl, by simpa using e, rfl⟩
          · cases h1
        · cases h1
      | ow k d => cases h1
      | un => cases h1; exact .inr ⟨(by intro t k d z; cases z), (by intro k d z; cases z), rfl⟩
      | fz d => cases h1; exact .inr ⟨(by intro t k d z; cases z), (by intro k d z; cases z), rfl⟩
      | ro t d => cases h1; exact .inr ⟨(by intro t k d z; cases z), (by intro k d z; cases z), rfl⟩
      | kn t => cases h1; exact .inr ⟨(by intro t k d z; cases z), (by intro k d z; cases z), rfl⟩
    | succ i =>
      have q' := q i (by simpa using hi)
      have e : j + 1 + i = j + (i + 1) := by omega
      rw [e] at q'
      exact q'
theorem slot_app_lt {a b : List Sl} {i : Nat} (h : i < a.length) : slot (a ++ b) i = slot a i := by
  unfold slot
  rw [List.getD_eq_getElem?_getD, List.getD_eq_getElem?_getD, List.getElem?_append_left h]
theorem slot_app_ge {a : List Sl} {n i : Nat} (h : a.length ≤ i) : slot (a ++ List.replicate n .un) i = .un := by
  unfold slot
  rw [List.getD_eq_getElem?_getD, List.getElem?_append_right h, List.getElem?_replicate]
  split <;> rfl
/-- the entry -/
theorem Sim.enter {vs : List V} {sl : List Sl} {N : List Str} {n : Nat} (S : Sim C Z Fs sl (vs.map some) H) (hl : sl.length + n = N.length) : Sim C Z Fs (sl ++ List.replicate n .un) (L2.start N vs) H := by
  have e := S.len
  rw [List.length_map] at e
  refine ⟨fun i => ?_, S.nd, S.dj, S.zf, S.zin, S.tb, by unfold L2.start; simp; omega⟩
  by_cases hi : i < sl.length
  · rw [slot_app_lt hi]
    have hs : (L2.start N vs)[i]? = (vs.map some)[i]? := by
      unfold L2.start
      rw [List.getElem?_append_left (by rw [List.length_map]; omega)]
    rw [hs]
    exact S.sl i
  · rw [slot_app_ge (Nat.le_of_not_lt hi)]
    have q := S.sl i
    rw [slot_out (Nat.le_of_not_lt hi)] at q
    exact q
/-- the arguments' slots behind the body -/
theorem Sim.leave {vs : List V} {sl outs : List Sl} {N : List Str} (S0 : Sim (fixA C.K C.mg C.T vs) Z Fs sl (vs.map some) H) (S : Sim (fixA C.K C.mg C.T vs) Z1 Fs1 ρ' σ H1) (x : Ext Z H (InF Fs) Z1 H1 (InF Fs1)) (hf : finS sl ρ' 0 = some outs) (ht : ∀ i t k d, slot sl i = .rf t k d → t = i) :
    Sim (fixA C.K C.mg C.T vs) Z1 (fun i => if isRf (slot sl i) = true then Fs1 i else []) outs (vs.map some) H1 := by
  obtain ⟨ol, q⟩ := finS_slot hf
  have kp := S0.keeps x
  have sub : ∀ i a, a ∈ (if isRf (slot sl i) = true then Fs1 i else []) → a ∈ Fs1 i := fun i a h => by
    split at h
    · exact h
    · simp at h
  refine ⟨fun i => ?_, fun i => ?_, fun i j a h1 h2 => S.dj i j a (sub i a h1) (sub j a h2), fun i a h => S.zf i a (sub i a h), S.zin, S.tb, by rw [ol]; exact S0.len⟩
  · by_cases hi : i < sl.length
    · rcases q i hi with ⟨t, k, d, d', h1, h2, h3⟩ | ⟨h1, h2, h3⟩
      · have et := ht i t k d h1
        subst et
        rw [h3, if_pos (by rw [h1]; rfl)]
        have q1 := S.sl t
        rw [Nat.zero_add] at h2
        rw [h2] at q1
        have q0 := S0.sl t
        rw [h1] at q0
        exact ⟨q0.1, q1.2⟩
      · have hn : ¬ isRf (slot sl i) = true := fun z => by
          cases hs : slot sl i with
          | rf t k d => exact h1 t k d hs
          | _ => rw [hs] at z; cases z
        rw [h3, if_neg hn]
        have q0 := S0.sl i
        unfold SlR at q0 ⊢
        cases hs : slot sl i with
        | un => rfl
        | fz d => rw [hs] at q0; obtain ⟨_, v, hv, r⟩ := q0; exact ⟨rfl, v, hv, r.keep kp⟩
        | ow k d => exact absurd hs (h2 k d)
        | rf t k d => exact absurd hs (h1 t k d)
        | ro t d => rw [hs] at q0; obtain ⟨_, hv, a, xs, ds, e1, e2, e3, e4⟩ := q0; exact ⟨rfl, hv, a, xs, ds, e1, e2, kp.roL e3, RpAll.keep kp _ _ e4⟩
        | kn t => rw [hs] at q0; exact ⟨rfl, q0.2.1, fun p hp => by simp [fixA] at hp⟩
    · rw [slot_out (by omega), if_neg (fun z => by rw [slot_out (by omega)] at z; cases z)]
      exact rfl
  · split
    · exact S.nd i
    · exact .nil
end
/-- tags as they should be -/
def tagsOk : List Sl → Nat → Bool
  | [], _ => true
  | .rf t _ _ :: sl, j => t == j && tagsOk sl (j + 1)
  | .ro t _ :: sl, j => t == j && tagsOk sl (j + 1)
  | _ :: sl, j => tagsOk sl (j + 1)
theorem tagsOk_rf : ∀ {sl : List Sl} {j i t k : Nat} {d : D}, tagsOk sl j = true → slot sl i = .rf t k d → t = j + i
  | [], _, i, _, _, _, _, h => by rw [slot_out (by simp)] at h; cases h
  | s :: sl, j, i, t, k, d, h, e => by
    cases i with
    | zero =>
      have e' : s = .rf t k d := e
      subst e'
      have := (Bool.and_eq_true_iff.mp (show (t == j && tagsOk sl (j + 1)) = true from h)).1
      have e2 : t = j := by simpa using this
      omega
    | succ i =>
      have h' : tagsOk sl (j + 1) = true := by
        cases s with
        | rf t' k' d' => exact (Bool.and_eq_true_iff.mp (show (t' == j && tagsOk sl (j + 1)) = true from h)).2
        | ro t' d' => exact (Bool.and_eq_true_iff.mp (show (t' == j && tagsOk sl (j + 1)) = true from h)).2
        | kn t' => exact h
        | un => exact h
        | fz _ => exact h
        | ow _ _ => exact h
      have := tagsOk_rf (i := i) h' e
      omega
def guardF (F : Fn) : Fn := fun sl => if tagsOk sl 0 = true then F sl else none
/-- THE RULE of a def -/
theorem df_ofC {Pc : Value → Prop} {P : Program} {w : World} {K : PySem.W.Frag} {mg : Str → Option Value} {base : Heap} {T : List (Addr × Str)} {gd : Bool} {x qual : Str} {st : Stmt} {f : Addr} {fd : FuncData} {N ps : List Str} {k n nl : Nat} {b : EM Fl}
    (F : FunP K x qual st f fd Pc) (S : FnScope N ps (defScope st)) (hm : mg x = some (.ref f)) (hb : Binds K fd ps []) (hn : ps.length = n) (hN : n + nl = N.length)
    (hbody : ∀ (cdv : Value), Pc cdv → ∀ (A : Around) (outer : List Env) (s : Shared) (H : Hp) (E : XK) (B : Bx) (W : WX), B.T = T → Room k (A.deeper (envOfC qual (defScope st) s.heap.objs.size f cdv)) → GOk gd A →
      Takes (cxOf (L2.CX P w) P w K mg base N qual (defScope st) f cdv A outer s H E) W →
      PSs (cxOf (L2.CX P w) P w K mg base N qual (defScope st) f cdv A outer s H E) (defBody st) (tS (fx (cxOf (L2.CX P w) P w K mg base N qual (defScope st) f cdv A outer s H E) B) W b)) :
    Df P w K mg base T gd x (k + 1) n (guardF (fnOf n nl b)) := by
  refine ⟨f, fd, ps, fnG_ofC F S (fun vs H Q E h => by rw [h.1, hn]) (fun cdv hPc A outer s H vs Q E hr gk h => ?_), hm, F.kp, hb, hn⟩
  obtain ⟨hl, Z, Gs, sl, r, outs, S0, e, k⟩ := h
  unfold guardF at e
  split at e
  · rename_i ht
    unfold fnOf at e
    split at e
    · rename_i hsl
      have ht' : ∀ i t k d, slot sl i = .rf t k d → t = i := fun i t k d h => by
        have := tagsOk_rf ht h
        omega
      let CXx := cxOf (L2.CX P w) P w K mg base N qual (defScope st) f cdv A outer s H E
      let B : Bx := ⟨T, tvOf vs, fun _ => []⟩
      let W : WX := fun cls d _ H => E cls d H
      have tk : Takes CXx W := takes_of rfl rfl rfl rfl
      refine ⟨_, hbody cdv hPc A outer s H E B W rfl hr gk tk, ?_⟩
      have Se : Sim (fx CXx B) Z Gs (sl ++ List.replicate nl .un) (L2.start N vs) H := S0.enter (by rw [hsl, hN])
      cases hbd : b (sl ++ List.replicate nl .un) with
      | none => rw [hbd] at e; cases e
      | some p =>
        obtain ⟨rb, ρ'⟩ := p
        rw [hbd] at e
        refine ⟨Z, Gs, _, rb, ρ', Se, hbd, ?_⟩
        have fin : ∀ {σ' H' Z' Fs' F'}, Ext Z H (InF Gs) Z' H' F' → (∀ a, InF Fs' a → F' a) → Sim (fx CXx B) Z' Fs' ρ' σ' H' → finS sl ρ' 0 = some outs →
            ∃ Gs', Sim (fixA K mg T vs) Z' Gs' outs (vs.map some) H' ∧ ∀ a, InF Gs' a → InF Fs' a := fun {σ' H' Z' Fs' F'} x hF S' hf => by
          have q := Sim.leave (C := fixA K mg T vs) (N := N) S0 S' (x.less hF) hf ht'
          exact ⟨_, q, fun a ⟨i, hi⟩ => by
            have hi : a ∈ (if isRf (slot sl i) = true then Fs' i else []) := hi
            split at hi
            · exact ⟨i, hi⟩
            · simp at hi⟩
        cases rb with
        | error x =>
          simp only [Option.map_eq_some_iff] at e
          obtain ⟨o, hf, e⟩ := e
          cases e
          intro cls dx σ' H' Z' Fs' x1 S1 r1
          obtain ⟨Gs', q1, q2⟩ := fin x1 (fun _ h => h) S1 hf
          exact k cls dx H' Z' Gs' (x1.less q2) q1 r1
        | ok fl =>
          cases fl with
          | next =>
            simp only [Option.map_eq_some_iff] at e
            obtain ⟨o, hf, e⟩ := e
            cases e
            intro σ' H' Z' Fs' x1 S1
            obtain ⟨Gs', q1, q2⟩ := fin x1 (fun _ h => h) S1 hf
            exact k .non H' Z' Gs' [] (by rw [FrU_nil]; exact x1.less q2) q1 ⟨⟨.non, rfl⟩, .nil, (fun _ h => nomatch h), (fun _ h => nomatch h)⟩
          | ret j d =>
            simp only [Option.map_eq_some_iff] at e
            obtain ⟨o, hf, e⟩ := e
            cases e
            intro σ' v H' Z' Fs' Fr x1 S1 o1
            obtain ⟨Gs', q1, q2⟩ := fin x1 (fun _ h => .inl h) S1 hf
            refine k v H' Z' Gs' Fr (x1.less fun a h => ?_) q1 ⟨o1.ow, o1.nd, fun a h z => o1.fs a h (q2 a z), o1.z⟩
            rcases h with h | h
            · exact .inl (q2 a h)
            · exact .inr h
          | brk => cases e
          | cont => cases e
    · cases e
  · cases e

/-- where nothing is asked of the code object -/
theorem df_of {P : Program} {w : World} {K : PySem.W.Frag} {mg : Str → Option Value} {base : Heap} {T : List (Addr × Str)} {gd : Bool} {x qual : Str} {st : Stmt} {f : Addr} {fd : FuncData} {N ps : List Str} {k n nl : Nat} {b : EM Fl}
    (F : Fun K x qual st f fd) (S : FnScope N ps (defScope st)) (hm : mg x = some (.ref f)) (hb : Binds K fd ps []) (hn : ps.length = n) (hN : n + nl = N.length)
    (hbody : ∀ (cdv : Value) (A : Around) (outer : List Env) (s : Shared) (H : Hp) (E : XK) (B : Bx) (W : WX), B.T = T → Room k (A.deeper (envOfC qual (defScope st) s.heap.objs.size f cdv)) → GOk gd A →
      Takes (cxOf (L2.CX P w) P w K mg base N qual (defScope st) f cdv A outer s H E) W →
      PSs (cxOf (L2.CX P w) P w K mg base N qual (defScope st) f cdv A outer s H E) (defBody st) (tS (fx (cxOf (L2.CX P w) P w K mg base N qual (defScope st) f cdv A outer s H E) B) W b)) :
    Df P w K mg base T gd x (k + 1) n (guardF (fnOf n nl b)) :=
  df_ofC (funP F) S hm hb hn hN fun cdv _ A outer s H E B W hB hr gk tk => hbody cdv A outer s H E B W hB hr gk tk
/-! ### a call -/
inductive Ag where
  | val (m : EM D)
  | ref (i : Nat)
def argsM : List Ag → EM (List (Option D))
  | [] => EM.ret []
  | .val m :: as => bnd m fun d => bnd (argsM as) fun r => EM.ret (some d :: r)
  | .ref i :: as => chk i (bnd (argsM as) fun r => EM.ret (none :: r))
def argS (s : Sl) (j : Nat) : Option Sl := match s with
  | .fz d => some (.fz d)
  | .ow k d => some (.rf j k d)
  | .rf _ k d => some (.rf j k d)
  | .ro _ d => some (.ro j d)
  | .kn _ => none
  | .un => none
def mkArgs : List Ag → List (Option D) → Env' → Nat → Option (List Sl)
  | [], [], _, _ => some []
  | .val _ :: as, some d :: ds, ρ, j => (mkArgs as ds ρ (j + 1)).map fun r => .fz d :: r
  | .ref i :: as, none :: ds, ρ, j => (argS (slot ρ i) j).bind fun s => (mkArgs as ds ρ (j + 1)).map fun r => s :: r
  | _, _, _, _ => none
def bakS (s o : Sl) : Option Sl := match s with
  | .fz d => some (.fz d)
  | .ro t d => some (.ro t d)
  | .kn _ => none
  | .ow k _ => (match o with
    | .rf _ k' d' => if k' = k then some (.ow k d') else none
    | _ => none)
  | .rf t k _ => (match o with
    | .rf _ k' d' => if k' = k then some (.rf t k d') else none
    | _ => none)
  | .un => none
def backA : List Ag → List Sl → Env' → Option Env'
  | [], [], ρ => some ρ
  | .val _ :: as, _ :: os, ρ => backA as os ρ
  | .ref i :: as, o :: os, ρ => (bakS (slot ρ i) o).bind fun s => backA as os (ρ.set i s)
  | _, _, _ => none
def refsOf : List Ag → List Nat
  | [] => []
  | .val _ :: as => refsOf as
  | .ref i :: as => i :: refsOf as
def callM (F : Fn) (as : List Ag) : EM (Nat × D) := bnd (argsM as) fun ds => fun ρ => (mkArgs as ds ρ 0).bind fun sl => (F sl).bind fun p => (backA as p.2 ρ).map fun ρ' => (p.1, ρ')
/-- the arguments as they were reckoned -/
inductive ArR (K : PySem.W.Frag) (Z : AP') (H : Hp) (σ : L2.St) : List Ag → List (Option D) → List V → Prop
  | nil : ArR K Z H σ [] [] []
  | val {m : EM D} {d : D} {v : V} {as : List Ag} {ds : List (Option D)} {vs : List V} : Rp K Z H v d → ArR K Z H σ as ds vs → ArR K Z H σ (.val m :: as) (some d :: ds) (v :: vs)
  | ref {i : Nat} {v : V} {as : List Ag} {ds : List (Option D)} {vs : List V} : σ[i]? = some (some v) → ArR K Z H σ as ds vs → ArR K Z H σ (.ref i :: as) (none :: ds) (v :: vs)
theorem ArR.keep {K : PySem.W.Frag} {Z Z' : AP'} {H H' : Hp} {σ : L2.St} (k : Keeps Z Z' H H') : ∀ {as : List Ag} {ds : List (Option D)} {vs : List V}, ArR K Z H σ as ds vs → ArR K Z' H' σ as ds vs
  | _, _, _, .nil => .nil
  | _, _, _, .val r t => .val (r.keep k) (t.keep k)
  | _, _, _, .ref r t => .ref r (t.keep k)
def tAr (C : Fix) (W : WX) (as : List Ag) : TA := fun σ H Q => ∃ Z Fs ρ r ρ', Sim C Z Fs ρ σ H ∧ argsM as ρ = some (r, ρ') ∧
  Out C W Z Fs H σ r ρ' fun ds => ∀ vs H' Z' Fs', Ext Z H (InF Fs) Z' H' (InF Fs') → Sim C Z' Fs' ρ' σ H' → ArR C.K Z' H' σ as ds vs → Q vs H'
theorem tAr_of {C : Fix} {W : WX} {Z : AP'} {Fs : Nat → List Addr} {ρ ρ' : Env'} {σ : L2.St} {H : Hp} {β : Type} {as : List Ag} {f : List (Option D) → EM β} {r : Except Exn β} {Q : List V → Hp → Prop} (S : Sim C Z Fs ρ σ H) (h : bnd (argsM as) f ρ = some (r, ρ')) (her : ∀ x, r = .error x → EW C W Z Fs H σ x ρ')
    (hok : ∀ ds ρ1 vs H1 Z1 Fs1, f ds ρ1 = some (r, ρ') → Ext Z H (InF Fs) Z1 H1 (InF Fs1) → Sim C Z1 Fs1 ρ1 σ H1 → ArR C.K Z1 H1 σ as ds vs → Q vs H1) : tAr C W as σ H Q := by
  rcases bnd_inv h with ⟨d, ρ1, e1, e2⟩ | ⟨x, e1, e2⟩
  · exact ⟨Z, Fs, ρ, .ok d, ρ1, S, e1, fun v H' Z' Fs' e S' r => hok d ρ1 v H' Z' Fs' e2 e S' r⟩
  · exact ⟨Z, Fs, ρ, .error x, ρ', S, e1, her x e2⟩
section
variable {X : Cx} {B : Bx} {W : WX} {e : Expr} {es : List Expr} {pos : Pos}
theorem ra_nil : PA X [] (tAr (fx X B) W []) := PA_imp pa_nil fun σ H Q t => by
  obtain ⟨Z, Fs, ρ, rr, ρ', S, e, k⟩ := t
  cases e
  exact k _ H Z Fs (Ext.refl _ _ _) S .nil
theorem ra_val {m : EM D} {as : List Ag} (h : PE X e (tE (fx X B) W m)) (h2 : PA X es (tAr (fx X B) W as)) (hs : starEach (e :: es) X.env = (false, eval e X.env) :: starEach es X.env := by rfl) : PA X (e :: es) (tAr (fx X B) W (.val m :: as)) := by
  refine PA_imp (pa_cons h h2 hs) fun σ H Q t => ?_
  obtain ⟨Z, Fs, ρ, rr, ρ', S, e, k⟩ := t
  have her : ∀ x, rr = .error x → EW (fx X B) W Z Fs H σ x ρ' := fun x q => by subst q; exact k
  refine tE_of S (show bnd m _ ρ = some (rr, ρ') from e) her fun d ρ1 v H1 Z1 Fs1 e1 x1 S1 rp => ?_
  refine tAr_of S1 e1 (fun x q => (her x q).before x1) fun ds ρ2 vs H2 Z2 Fs2 e2 x2 S2 rps => ?_
  cases e2
  exact k _ H2 Z2 Fs2 (x1.trans x2) S2 (.val (rp.keep (S1.keeps x2)) rps)
theorem ra_ref {i : Nat} {x : Str} {p : Pos} {as : List Ag} (h : PE X (.Name x p) (tVar i)) (h2 : PA X es (tAr (fx X B) W as)) (hs : starEach (.Name x p :: es) X.env = (false, eval (.Name x p) X.env) :: starEach es X.env := by rfl) : PA X (.Name x p :: es) (tAr (fx X B) W (.ref i :: as)) := by
  refine PA_imp (pa_cons h h2 hs) fun σ H Q t => ?_
  obtain ⟨Z, Fs, ρ, rr, ρ', S, e, k⟩ := t
  have her : ∀ x, rr = .error x → EW (fx X B) W Z Fs H σ x ρ' := fun x q => by subst q; exact k
  have e' : chk i (bnd (argsM as) fun r => EM.ret (none :: r)) ρ = some (rr, ρ') := e
  have hn : slot ρ i ≠ .un := fun z => by
    unfold chk at e'
    rw [z] at e'; cases e'
  obtain ⟨v, hv⟩ := S.has hn
  have e2 : bnd (argsM as) (fun r => EM.ret (none :: r)) ρ = some (rr, ρ') := by
    unfold chk at e'
    cases q : slot ρ i with
    | un => exact absurd q hn
    | _ => rw [q] at e'; exact e'
  refine ⟨v, hv, tAr_of S e2 her fun ds ρ2 vs H2 Z2 Fs2 e3 x2 S2 rps => ?_⟩
  cases e3
  exact k _ H2 Z2 Fs2 x2 S2 (.ref hv rps)
end
/-- what an argument brings along -/
def gsOf (as : List Ag) (Fs : Nat → List Addr) : Nat → List Addr := fun j => match as[j]? with
  | some (.ref i) => Fs i
  | _ => []
def ownS : Sl → Bool
  | .ow _ _ => true
  | .rf _ _ _ => true
  | _ => false
def fsB : List Ag → Nat → (Nat → List Addr) → Env' → (Nat → List Addr) → Nat → List Addr
  | [], _, _, _, Fs => Fs
  | .val _ :: as, j, G, ρ, Fs => fsB as (j + 1) G ρ Fs
  | .ref i :: as, j, G, ρ, Fs => fsB as (j + 1) G ρ (fset Fs i (if ownS (slot ρ i) = true then G j else []))
section
variable {C : Fix} {Z Z1 : AP'} {Fs Fs1 : Nat → List Addr} {ρ ρ' : Env'} {σ : L2.St} {H H1 : Hp}
theorem mkArgs_sl {T : List (Addr × Str)} {mg : Str → Option Value} {tv : Nat → V} (S : Sim C Z Fs ρ σ H) : ∀ {as : List Ag} {ds : List (Option D)} {vs : List V} {j : Nat} {sl : List Sl}, ArR C.K Z H σ as ds vs → mkArgs as ds ρ j = some sl → (∀ i v, vs[i]? = some v → tv (j + i) = v) →
    sl.length = vs.length ∧ ∀ i, SlR ⟨C.K, mg, T, tv, fun _ => []⟩ Z H (slot sl i) (vs.map some)[i]? (gsOf as Fs i)
  | _, _, _, j, sl, .nil, h, _ => by
    cases h
    exact ⟨rfl, fun i => by rw [slot_out (by simp)]; unfold gsOf; simp; rfl⟩
  | _, _, _, j, sl, @ArR.val _ _ _ _ m d v as ds vs r t, h, ht => by
    unfold mkArgs at h
    rw [Option.map_eq_some_iff] at h
    obtain ⟨r', h, rfl⟩ := h
    obtain ⟨l, q⟩ := mkArgs_sl (T := T) (mg := mg) (tv := tv) S t h (fun i w hw => by
      have := ht (i + 1) w (by simpa using hw)
      rw [← this]; congr 1; omega)
    refine ⟨by simp [l], fun i => ?_⟩
    cases i with
    | zero => exact ⟨rfl, v, rfl, r⟩
    | succ i => exact q i
  | _, _, _, j, sl, @ArR.ref _ _ _ _ n v as ds vs r t, h, ht => by
    unfold mkArgs at h
    rw [Option.bind_eq_some_iff] at h
    obtain ⟨s, h1, h⟩ := h
    rw [Option.map_eq_some_iff] at h
    obtain ⟨r', h, rfl⟩ := h
    obtain ⟨l, q⟩ := mkArgs_sl (T := T) (mg := mg) (tv := tv) S t h (fun i w hw => by
      have := ht (i + 1) w (by simpa using hw)
      rw [← this]; congr 1; omega)
    have h0 : tv j = v := ht 0 v rfl
    refine ⟨by simp [l], fun i => ?_⟩
    cases i with
    | zero =>
      have q1 := S.sl n
      show SlR _ Z H s (some (some v)) (Fs n)
      unfold SlR at q1
      unfold argS at h1
      cases hs : slot ρ n with
      | un => rw [hs] at h1; cases h1
      | fz d =>
        rw [hs] at h1 q1; cases h1
        obtain ⟨e, w, hw, rp⟩ := q1
        rw [r] at hw; cases hw
        exact ⟨e, v, rfl, rp⟩
      | ow k d =>
        rw [hs] at h1 q1; cases h1
        obtain ⟨w, hw, rp⟩ := q1
        rw [r] at hw; cases hw
        refine ⟨by show some (some v) = some (some (tv j)); rw [h0], ?_⟩
        show Ow C.K Z H k (tv j) d (Fs n)
        rw [h0]; exact rp
      | rf t' k d =>
        rw [hs] at h1 q1; cases h1
        obtain ⟨hw, rp⟩ := q1
        rw [r] at hw
        have ew : v = C.tv t' := Option.some.inj (Option.some.inj hw)
        refine ⟨by show some (some v) = some (some (tv j)); rw [h0], ?_⟩
        show Ow C.K Z H k (tv j) d (Fs n)
        rw [h0, ew]; exact rp
      | ro t' d =>
        rw [hs] at h1 q1; cases h1
        obtain ⟨e, hw, a, xs, ds', e1, e2, e3, e4⟩ := q1
        rw [r] at hw
        have ew : v = C.tv t' := Option.some.inj (Option.some.inj hw)
        refine ⟨e, by show some (some v) = some (some (tv j)); rw [h0], a, xs, ds', ?_, e2, e3, e4⟩
        show tv j = .ref a
        rw [h0, ew]; exact e1
      | kn t' => rw [hs] at h1; cases h1
    | succ i => exact q i
theorem mem_refs : ∀ {as : List Ag} {i : Nat}, i ∈ refsOf as → ∃ j : Nat, as[j]? = some (Ag.ref i)
  | [], _, h => by simp [refsOf] at h
  | .val _ :: as, i, h => by
    obtain ⟨j, hj⟩ := mem_refs (as := as) h
    exact ⟨j + 1, by simpa using hj⟩
  | .ref n :: as, i, h => by
    rcases List.mem_cons.mp (show i ∈ n :: refsOf as from h) with e | h
    · subst e; exact ⟨0, rfl⟩
    · obtain ⟨j, hj⟩ := mem_refs (as := as) h
      exact ⟨j + 1, by simpa using hj⟩
theorem refs_mem : ∀ {as : List Ag} {i j : Nat}, as[j]? = some (.ref i) → i ∈ refsOf as
  | [], _, _, h => by simp at h
  | .val _ :: as, i, 0, h => by simp at h
  | .val _ :: as, i, j + 1, h => refs_mem (as := as) (by simpa using h)
  | .ref n :: as, i, 0, h => by
    have e : n = i := by simpa using h
    subst e; exact List.mem_cons_self
  | .ref n :: as, i, j + 1, h => List.mem_cons_of_mem _ (refs_mem (as := as) (by simpa using h))
theorem refs_inj : ∀ {as : List Ag} {i j l : Nat}, (refsOf as).Nodup → as[j]? = some (Ag.ref i) → as[l]? = some (Ag.ref i) → j = l
  | [], _, _, _, _, h, _ => by simp at h
  | .val _ :: as, i, 0, _, _, h, _ => by simp at h
  | .val _ :: as, i, _ + 1, 0, _, _, h => by simp at h
  | .val _ :: as, i, j + 1, l + 1, nd, h1, h2 => congrArg (· + 1) (refs_inj (as := as) (i := i) (j := j) (l := l) nd (by simpa using h1) (by simpa using h2))
  | .ref n :: as, i, 0, 0, _, _, _ => rfl
  | .ref n :: as, i, 0, l + 1, nd, h1, h2 => by
    have e : n = i := by simpa using h1
    subst e
    exact absurd (refs_mem (as := as) (by simpa using h2)) (List.nodup_cons.mp nd).1
  | .ref n :: as, i, j + 1, 0, nd, h1, h2 => by
    have e : n = i := by simpa using h2
    subst e
    exact absurd (refs_mem (as := as) (by simpa using h1)) (List.nodup_cons.mp nd).1
  | .ref n :: as, i, j + 1, l + 1, nd, h1, h2 => congrArg (· + 1) (refs_inj (as := as) (i := i) (j := j) (l := l) (List.nodup_cons.mp nd).2 (by simpa using h1) (by simpa using h2))
theorem fsB_out : ∀ {as : List Ag} {j : Nat} {G : Nat → List Addr} {ρ : Env'} {Fs : Nat → List Addr} {i : Nat}, i ∉ refsOf as → fsB as j G ρ Fs i = Fs i
  | [], _, _, _, _, _, _ => rfl
  | .val _ :: as, j, G, ρ, Fs, i, h => fsB_out (as := as) h
  | .ref n :: as, j, G, ρ, Fs, i, h => by
    have h1 : i ≠ n := fun e => h (by rw [e]; exact List.mem_cons_self)
    have h2 : i ∉ refsOf as := fun e => h (List.mem_cons_of_mem _ e)
    show fsB as (j + 1) G ρ _ i = _
    rw [fsB_out (as := as) h2, fset_ne _ _ h1]
theorem fsB_in : ∀ {as : List Ag} {j : Nat} {G : Nat → List Addr} {ρ : Env'} {Fs : Nat → List Addr} {i l : Nat}, (refsOf as).Nodup → as[l]? = some (.ref i) → fsB as j G ρ Fs i = if ownS (slot ρ i) = true then G (j + l) else []
  | [], _, _, _, _, _, _, _, h => by simp at h
  | .val _ :: as, j, G, ρ, Fs, i, 0, _, h => by simp at h
  | .val _ :: as, j, G, ρ, Fs, i, l + 1, nd, h => by
    show fsB as (j + 1) G ρ Fs i = _
    rw [fsB_in (as := as) nd (by simpa using h), show j + 1 + l = j + (l + 1) by omega]
  | .ref n :: as, j, G, ρ, Fs, i, 0, nd, h => by
    have e : n = i := by simpa using h
    subst e
    show fsB as (j + 1) G ρ _ n = _
    rw [fsB_out (List.nodup_cons.mp nd).1, fset_same]; rfl
  | .ref n :: as, j, G, ρ, Fs, i, l + 1, nd, h => by
    show fsB as (j + 1) G ρ _ i = _
    rw [fsB_in (as := as) (List.nodup_cons.mp nd).2 (by simpa using h), show j + 1 + l = j + (l + 1) by omega]
theorem back_slot : ∀ {as : List Ag} {os : List Sl} {ρ ρ' : Env'}, (refsOf as).Nodup → backA as os ρ = some ρ' → ρ'.length = ρ.length ∧
    (∀ i, i ∉ refsOf as → slot ρ' i = slot ρ i) ∧ ∀ i j, as[j]? = some (.ref i) → ∃ s, bakS (slot ρ i) (slot os j) = some s ∧ slot ρ' i = s
  | [], [], ρ, ρ', _, h => by cases h; exact ⟨rfl, fun _ _ => rfl, fun i j h => by simp at h⟩
  | [], _ :: _, _, _, _, h => by cases h
  | .val _ :: as, [], _, _, _, h => by cases h
  | .ref _ :: as, [], _, _, _, h => by cases h
  | .val _ :: as, o :: os, ρ, ρ', nd, h => by
    obtain ⟨l, q1, q2⟩ := back_slot (as := as) nd (show backA as os ρ = some ρ' from h)
    refine ⟨l, q1, fun i j hj => ?_⟩
    cases j with
    | zero => simp at hj
    | succ j => exact q2 i j (by simpa using hj)
  | .ref n :: as, o :: os, ρ, ρ', nd, h => by
    have h' : (bakS (slot ρ n) o).bind (fun s => backA as os (ρ.set n s)) = some ρ' := h
    rw [Option.bind_eq_some_iff] at h'
    obtain ⟨s, h1, h2⟩ := h'
    have nd' := List.nodup_cons.mp nd
    obtain ⟨l, q1, q2⟩ := back_slot (as := as) nd'.2 h2
    have hn : n < ρ.length := by
      refine slot_lt fun z => ?_
      rw [z] at h1; cases h1
    have sn : slot (ρ.set n s) n = s := by rw [slot_set, if_pos ⟨rfl, hn⟩]
    refine ⟨by rw [l, List.length_set], fun i hi => ?_, fun i j hj => ?_⟩
    · have h3 : i ≠ n := fun e => hi (by rw [e]; exact List.mem_cons_self)
      rw [q1 i (fun e => hi (List.mem_cons_of_mem _ e)), slot_set, if_neg (fun z => h3 z.1.symm)]
    · cases j with
      | zero =>
        have e : n = i := by simpa using hj
        subst e
        exact ⟨s, h1, by rw [q1 n nd'.1, sn]⟩
      | succ j =>
        have hm := refs_mem (as := as) (i := i) (j := j) (by simpa using hj)
        have h3 : i ≠ n := fun e => nd'.1 (by rw [← e]; exact hm)
        obtain ⟨s', h4, h5⟩ := q2 i j (by simpa using hj)
        rw [slot_set, if_neg (fun z => h3 z.1.symm)] at h4
        exact ⟨s', h4, h5⟩
theorem ArR.at {K : PySem.W.Frag} : ∀ {as : List Ag} {ds : List (Option D)} {vs : List V} {i j : Nat}, ArR K Z H σ as ds vs → as[j]? = some (Ag.ref i) → ∃ v, vs[j]? = some v ∧ σ[i]? = some (some v)
  | _, _, _, _, _, .nil, h => by simp at h
  | _, _, _, _, 0, .val _ _, h => by simp at h
  | _, _, _, _, 0, .ref r _, h => by
    have e := Ag.ref.inj (Option.some.inj h)
    subst e; exact ⟨_, rfl, r⟩
  | _, _, _, _, j + 1, .val _ t, h => t.at (j := j) (by simpa using h)
  | _, _, _, _, j + 1, .ref _ t, h => t.at (j := j) (by simpa using h)
theorem gsOf_in {as : List Ag} {j : Nat} {a : Addr} (h : a ∈ gsOf as Fs j) : ∃ i, as[j]? = some (Ag.ref i) ∧ a ∈ Fs i := by
  unfold gsOf at h
  split at h
  · rename_i i e; exact ⟨i, e, h⟩
  · simp at h
theorem gsOf_sub {as : List Ag} {a : Addr} (h : InF (gsOf as Fs) a) : ∃ i, i ∈ refsOf as ∧ a ∈ Fs i := by
  obtain ⟨j, hj⟩ := h
  obtain ⟨i, e, ha⟩ := gsOf_in hj
  exact ⟨i, refs_mem e, ha⟩
/-- the callee's view -/
theorem Sim.give_args {as : List Ag} {ds : List (Option D)} {vs : List V} {sl : List Sl} (S : Sim C Z Fs ρ σ H) (r : ArR C.K Z H σ as ds vs) (h : mkArgs as ds ρ 0 = some sl) (nd : (refsOf as).Nodup) :
    Sim (fixA C.K C.mg C.T vs) Z (gsOf as Fs) sl (vs.map some) H := by
  obtain ⟨l, q⟩ := mkArgs_sl (T := C.T) (mg := C.mg) (tv := tvOf vs) S r h (fun i v hv => by
    rw [Nat.zero_add]
    unfold tvOf
    rw [List.getD_eq_getElem?_getD, hv]; rfl)
  refine ⟨q, fun j => ?_, fun j1 j2 a h1 h2 => ?_, fun j a h => ?_, S.zin, S.tb, by rw [l, List.length_map]⟩
  · unfold gsOf
    split
    · exact S.nd _
    · exact .nil
  · obtain ⟨i1, e1, a1⟩ := gsOf_in h1
    obtain ⟨i2, e2, a2⟩ := gsOf_in h2
    have := S.dj i1 i2 a a1 a2
    subst this
    exact refs_inj nd e1 e2
  · obtain ⟨i, _, ha⟩ := gsOf_in h
    exact S.zf i a ha
theorem fsB_mem {as : List Ag} {G : Nat → List Addr} (nd : (refsOf as).Nodup) {i : Nat} {a : Addr} (h : a ∈ fsB as 0 G ρ Fs i) : (i ∉ refsOf as ∧ a ∈ Fs i) ∨ ∃ j, as[j]? = some (Ag.ref i) ∧ a ∈ G j := by
  by_cases hi : i ∈ refsOf as
  · obtain ⟨j, hj⟩ := mem_refs hi
    rw [fsB_in nd hj] at h
    split at h
    · rw [Nat.zero_add] at h; exact .inr ⟨j, hj, h⟩
    · simp at h
  · rw [fsB_out hi] at h
    exact .inl ⟨hi, h⟩
/-- the caller's view after it -/
theorem Sim.take_back {as : List Ag} {ds : List (Option D)} {vs : List V} {sl outs : List Sl} {G : Nat → List Addr} {F' : AP'} (S : Sim C Z Fs ρ σ H) (r : ArR C.K Z H σ as ds vs) (nd : (refsOf as).Nodup)
    (S0 : Sim (fixA C.K C.mg C.T vs) Z (gsOf as Fs) sl (vs.map some) H) (x : Ext Z H (InF (gsOf as Fs)) Z1 H1 F') (hF : ∀ a, InF G a → F' a) (S1 : Sim (fixA C.K C.mg C.T vs) Z1 G outs (vs.map some) H1) (hb : backA as outs ρ = some ρ') :
    Sim C Z1 (fsB as 0 G ρ Fs) ρ' σ H1 ∧ ∀ a, F' a → ¬ (∃ i, i ∉ refsOf as ∧ a ∈ Fs i) := by
  have kp : Keeps Z Z1 H H1 := S0.keeps x
  obtain ⟨l, q1, q2⟩ := back_slot nd hb
  have far : ∀ a, F' a → ¬ (∃ i, i ∉ refsOf as ∧ a ∈ Fs i) := fun a h ⟨i, hi, ha⟩ => by
    rcases x.fnew a h with h | h
    · obtain ⟨i', hi', ha'⟩ := gsOf_sub h
      have := S.dj i i' a ha ha'
      subst this
      exact hi hi'
    · obtain ⟨o, ho, l⟩ := S.obj ha
      exact l.no h ho
  have st : ∀ i, i ∉ refsOf as → ∀ a ∈ Fs i, ∀ o, H a = some o → H1 a = some o := fun i hi a ha o ho => by
    obtain ⟨o', ho', ld⟩ := S.obj ha
    rw [ho] at ho'; cases ho'
    refine x.keep a o ho (fun z => ?_) ld.nt
    obtain ⟨i', hi', ha'⟩ := gsOf_sub z
    have := S.dj i i' a ha ha'
    subst this
    exact hi hi'
  refine ⟨⟨fun i => ?_, fun i => ?_, fun i1 i2 a h1 h2 => ?_, fun i a h z => ?_, S1.zin, S1.tb, by rw [l]; exact S.len⟩, far⟩
  · by_cases hi : i ∈ refsOf as
    · obtain ⟨j, hj⟩ := mem_refs hi
      obtain ⟨s, h1, h2⟩ := q2 i j hj
      rw [h2, fsB_in nd hj, Nat.zero_add]
      obtain ⟨v, hv, hσ⟩ := r.at hj
      have qS := S.sl i
      have q1S := S1.sl j
      unfold SlR at qS q1S
      unfold bakS at h1
      cases hs : slot ρ i with
      | un => rw [hs] at h1; cases h1
      | fz d =>
        rw [hs] at h1 qS; cases h1
        obtain ⟨_, w, hw, rp⟩ := qS
        rw [if_neg (by intro z; cases z)]
        exact ⟨rfl, w, hw, rp.keep kp⟩
      | ro t d =>
        rw [hs] at h1 qS; cases h1
        rw [if_neg (by intro z; cases z)]
        obtain ⟨_, hv, a, xs, ds', e1, e2, e3, e4⟩ := qS
        exact ⟨rfl, hv, a, xs, ds', e1, e2, kp.roL e3, RpAll.keep kp _ _ e4⟩
      | kn t => rw [hs] at h1; cases h1
      | ow k d =>
        rw [hs] at h1 qS
        rw [if_pos (show ownS _ = true from rfl)]
        cases ho : slot outs j with
        | rf t' k' d' =>
          rw [ho] at h1 q1S
          simp only at h1
          split at h1
          · rename_i ek
            subst ek
            cases h1
            obtain ⟨e1, e2⟩ := q1S
            rw [List.getElem?_map, hv] at e1
            have ew : v = (fixA C.K C.mg C.T vs).tv t' := Option.some.inj (Option.some.inj e1)
            refine ⟨v, hσ, ?_⟩
            rw [ew]; exact e2
          · cases h1
        | _ => rw [ho] at h1; cases h1
      | rf t k d =>
        rw [hs] at h1 qS
        rw [if_pos (show ownS _ = true from rfl)]
        cases ho : slot outs j with
        | rf t' k' d' =>
          rw [ho] at h1 q1S
          simp only at h1
          split at h1
          · rename_i ek
            subst ek
            cases h1
            obtain ⟨e1, e2⟩ := q1S
            rw [List.getElem?_map, hv] at e1
            have ew : v = (fixA C.K C.mg C.T vs).tv t' := Option.some.inj (Option.some.inj e1)
            have eo := qS.1
            rw [hσ] at eo
            have ev : v = C.tv t := Option.some.inj (Option.some.inj eo)
            refine ⟨qS.1, ?_⟩
            rw [← ev, ew]; exact e2
          · cases h1
        | _ => rw [ho] at h1; cases h1
    · rw [q1 i hi, fsB_out hi]
      have q := S.sl i
      unfold SlR at q ⊢
      cases hs : slot ρ i with
      | un => rw [hs] at q; exact q
      | fz d => rw [hs] at q; obtain ⟨e, v, hv, r⟩ := q; exact ⟨e, v, hv, r.keep kp⟩
      | ow k d => rw [hs] at q; obtain ⟨v, hv, r⟩ := q; exact ⟨v, hv, r.keep kp (st i hi)⟩
      | rf t k d => rw [hs] at q; exact ⟨q.1, q.2.keep kp (st i hi)⟩
      | ro t d => rw [hs] at q; obtain ⟨e, hv, a, xs, ds', e1, e2, e3, e4⟩ := q; exact ⟨e, hv, a, xs, ds', e1, e2, kp.roL e3, RpAll.keep kp _ _ e4⟩
      | kn t => rw [hs] at q; exact ⟨q.1, q.2.1, fun p hp => ⟨kp.ks _ _ (q.2.2 p hp).1 (q.2.2 p hp).2.1 (q.2.2 p hp).2.2, (q.2.2 p hp).2⟩⟩
  · by_cases hi : i ∈ refsOf as
    · obtain ⟨j, hj⟩ := mem_refs hi
      rw [fsB_in nd hj]
      split
      · exact S1.nd _
      · exact .nil
    · rw [fsB_out hi]; exact S.nd i
  · rcases fsB_mem nd h1 with ⟨n1, a1⟩ | ⟨j1, e1, a1⟩
    · rcases fsB_mem nd h2 with ⟨n2, a2⟩ | ⟨j2, e2, a2⟩
      · exact S.dj i1 i2 a a1 a2
      · exact absurd ⟨i1, n1, a1⟩ (far a (hF a ⟨j2, a2⟩))
    · rcases fsB_mem nd h2 with ⟨n2, a2⟩ | ⟨j2, e2, a2⟩
      · exact absurd ⟨i2, n2, a2⟩ (far a (hF a ⟨j1, a1⟩))
      · have := S1.dj j1 j2 a a1 a2
        subst this
        rw [e1] at e2
        exact Ag.ref.inj (Option.some.inj e2)
  · rcases fsB_mem nd h with ⟨n, ha⟩ | ⟨j, e, ha⟩
    · rcases x.znew a z with z | z | z
      · exact S.zf i a ha z
      · obtain ⟨i', hi', ha'⟩ := gsOf_sub z
        have := S.dj i i' a ha ha'
        subst this
        exact n hi'
      · obtain ⟨o, ho, l⟩ := S.obj ha
        exact l.no z ho
    · exact S1.zf j a ha z
theorem Ext.call {as : List Ag} {G : Nat → List Addr} {Fr : List Addr} (nd : (refsOf as).Nodup) (x : Ext Z H (InF (gsOf as Fs)) Z1 H1 (FrU G Fr)) : Ext Z H (InF Fs) Z1 H1 (FrU (fsB as 0 G ρ Fs) Fr) := by
  have sub : ∀ a, InF (gsOf as Fs) a → InF Fs a := fun a h => by
    obtain ⟨i, _, ha⟩ := gsOf_sub h
    exact ⟨i, ha⟩
  refine ⟨fun a o h n t => x.keep a o h (fun z => n (sub a z)) t, x.zz, fun a h => ?_, fun a h => ?_, x.thr⟩
  · rcases x.znew a h with h | h | h
    · exact .inl h
    · exact .inr (.inl (sub a h))
    · exact .inr (.inr h)
  · have un : FrU G Fr a → InF Fs a ∨ NoO H a := fun h => by
      rcases x.fnew a h with h | h
      · exact .inl (sub a h)
      · exact .inr h
    rcases h with ⟨i, h⟩ | h
    · rcases fsB_mem nd h with ⟨_, ha⟩ | ⟨j, _, ha⟩
      · exact .inl ⟨i, ha⟩
      · exact un (.inl ⟨j, ha⟩)
    · exact un (.inr h)
end
/-! ### the call's rule -/
section
variable {X : Cx} {B : Bx} {W : WX} {e : Expr} {es : List Expr} {pos : Pos}
theorem spF_call {C : Fix} {Z1 : AP'} {Fs1 : Nat → List Addr} {ρ1 : Env'} {σ : L2.St} {H1 : Hp} {F : Fn} {as : List Ag} {n : Nat} {ds : List (Option D)} {vs : List V} {r : Except Exn (Nat × D)} {ρ' : Env'} {Q : VK} (nd : (refsOf as).Nodup) (S1 : Sim C Z1 Fs1 ρ1 σ H1)
    (hn : as.length = n) (hm : ((mkArgs as ds ρ1 0).bind fun sl => (F sl).bind fun p => (backA as p.2 ρ1).map fun ρ' => (p.1, ρ')) = some (r, ρ')) (ra : ArR C.K Z1 H1 σ as ds vs)
    (k : Out C W Z1 Fs1 H1 σ r ρ' fun p => ∀ v H' Z' Fs' Fr, Ext Z1 H1 (InF Fs1) Z' H' (FrU Fs' Fr) → Sim C Z' Fs' ρ' σ H' → OwE C Z' H' Fs' Fr p.1 v p.2 → Q v H') : spF C.K C.mg C.T n F vs H1 Q (WE W σ) := by
  rw [Option.bind_eq_some_iff] at hm
  obtain ⟨sl, h1, hm⟩ := hm
  rw [Option.bind_eq_some_iff] at hm
  obtain ⟨⟨r', outs⟩, h2, hm⟩ := hm
  rw [Option.map_eq_some_iff] at hm
  obtain ⟨ρ2, h3, h4⟩ := hm
  cases h4
  have S0 := S1.give_args ra h1 nd
  have lv : vs.length = n := by
    have : ∀ {as : List Ag} {ds : List (Option D)} {vs : List V}, ArR C.K Z1 H1 σ as ds vs → vs.length = as.length := by
      intro as ds vs h
      induction h with
      | nil => rfl
      | val _ _ ih => simp [ih]
      | ref _ _ ih => simp [ih]
    rw [this ra, hn]
  refine ⟨lv, Z1, gsOf as Fs1, sl, r', outs, S0, h2, ?_⟩
  cases r' with
  | ok p =>
    intro v H' Z' Gs' Fr x Sx o
    obtain ⟨S2, far⟩ := S1.take_back ra nd S0 x (fun a h => .inl h) Sx h3
    refine k v H' Z' _ Fr (Ext.call nd x) S2 ⟨o.ow, o.nd, fun a ha ⟨i, hi⟩ => ?_, o.z⟩
    rcases fsB_mem nd hi with ⟨n, h⟩ | ⟨j, _, h⟩
    · exact far a (.inr ha) ⟨i, n, h⟩
    · exact o.fs a ha ⟨j, h⟩
  | error y =>
    intro cls dx H' Z' Gs' x Sx o
    obtain ⟨S2, far⟩ := S1.take_back ra nd S0 x (fun a h => h) Sx h3
    have x2 := Ext.call (ρ := ρ1) (Fr := []) nd (by rw [FrU_nil]; exact x)
    rw [FrU_nil] at x2
    exact k cls dx H' Z' _ x2 S2 o
theorem tG_call {C : Fix} {F : Fn} {as : List Ag} {n : Nat} {σ : L2.St} {H : Hp} {Q : VK} (nd : (refsOf as).Nodup) (hn : as.length = n) (t : tG C W (callM F as) σ H Q) : tCallS (spF C.K C.mg C.T n F) (WE W) (tAr C W as) σ H Q := by
  obtain ⟨Z, Fs, ρ, rr, ρ', S, e, k⟩ := t
  have her : ∀ x, rr = .error x → EW C W Z Fs H σ x ρ' := fun x q => by subst q; exact k
  have S0 := S
  refine tAr_of S e her fun ds ρ1 vs H1 Z1 Fs1 e1 x1 S1 ra => ?_
  refine spF_call nd S1 hn e1 ra ?_
  cases rr with
  | ok p => exact fun v H' Z' Fs' Fr x S' o => k v H' Z' Fs' Fr (x1.trans x) S' o
  | error y => exact fun cls dx H' Z' Fs' x S' o => k cls dx H' Z' Fs' (x1.trans x) S' o
/-- a def that is called: its value and what it owns -/
theorem sg_call {gd : Bool} {x : Str} {k n : Nat} {F : Fn} {as : List Ag} {p : Pos} (D : Df X.prog X.w X.K X.mg X.base B.T gd x k n F) (hr : Room k X.A) (gk : GOk gd X.A) (hg : Gl X x) (tk : Takes X W) (ha : PA X (e :: es) (tAr (fx X B) W as)) (hn : as.length = n) (nd : (refsOf as).Nodup)
    (hdb : (x == ("__debug__" : Str)) = false := by decide) (he : starEach (e :: es) X.env = (false, eval e X.env) :: starEach es X.env := by rfl) (hpl : (backTo pos (starEach es X.env)).any (·.1) = false := by rfl) :
    PE X (.Call (.Name x p) (e :: es) [] pos) (tG (fx X B) W (callM F as)) := by
  obtain ⟨f, fd, ps, h1, h2, h3, h4, h5⟩ := D.ex
  exact PE_imp (pe_callG h1 hr gk hg h2 h3 h4 (fun σ => passAt tk σ) ha hdb he hpl) fun σ H Q t => tG_call (C := fx X B) nd hn t
/-- what it owns is frozen -/
def frz (m : EM (Nat × D)) : EM D := bnd m fun p => EM.ret p.2
theorem Sim.freezeN {C : Fix} {Z : AP'} {Fs : Nat → List Addr} {ρ : Env'} {σ : L2.St} {H : Hp} {Fr : List Addr} {k : Nat} {v : V} {d : D} (S : Sim C Z Fs ρ σ H) (o : OwE C Z H Fs Fr k v d) : ∃ Z', Sim C Z' Fs ρ σ H ∧ Rp C.K Z' H v d ∧ (∀ a, Z' a → Z a ∨ a ∈ Fr) ∧ ∀ a, Z a → Z' a := by
  refine ⟨fun a => Z a ∨ a ∈ Fr, ?_, o.ow.give (fun a h => .inl h) (fun a h => .inr h), fun a h => h, fun a h => .inl h⟩
  have kp : Keeps Z (fun a => Z a ∨ a ∈ Fr) H H := ⟨fun _ _ _ r => r, fun _ _ _ r => r, fun _ _ _ _ _ r => r, fun _ _ r => r, fun _ z => .inl z, fun _ _ _ r => r, fun _ _ r _ _ => r⟩
  refine S.same kp (fun _ _ _ h => h) (fun a ha z => ?_) (fun a z => ?_) S.tb
  · rcases z with z | z
    · obtain ⟨i, hi⟩ := ha; exact S.zf i a hi z
    · exact o.fs a z ha
  · rcases z with z | z
    · exact S.zin a z
    · obtain ⟨u, h, l⟩ := o.ow.obj a z
      exact ⟨u, h, l.nt⟩
theorem Ext.freezeN {Z Z1 Z2 : AP'} {Fs Fs1 : Nat → List Addr} {H H1 : Hp} {Fr : List Addr} (e : Ext Z H (InF Fs) Z1 H1 (FrU Fs1 Fr)) (h1 : ∀ a, Z2 a → Z1 a ∨ a ∈ Fr) (h2 : ∀ a, Z1 a → Z2 a) : Ext Z H (InF Fs) Z2 H1 (InF Fs1) := by
  refine ⟨e.keep, fun a h => h2 a (e.zz a h), fun a h => ?_, fun a h => e.fnew a (.inl h), e.thr⟩
  rcases h1 a h with h | h
  · exact e.znew a h
  · exact .inr (e.fnew a (.inr h))
theorem tG_frz {C : Fix} {m : EM (Nat × D)} {σ : L2.St} {H : Hp} {Q : VK} (t : tE C W (frz m) σ H Q) : tG C W m σ H Q := by
  obtain ⟨Z, Fs, ρ, rr, ρ', S, e, k⟩ := t
  have her : ∀ x, rr = .error x → EW C W Z Fs H σ x ρ' := fun x q => by subst q; exact k
  refine tG_of S e her fun p ρ1 v H1 Z1 Fs1 Fr e1 x1 S1 o => ?_
  cases e1
  obtain ⟨Z2, S2, r2, z1, z2⟩ := S1.freezeN o
  exact k v H1 Z2 Fs1 (x1.freezeN z1 z2) S2 r2
theorem se_frz {m : EM (Nat × D)} (h : PE X e (tG (fx X B) W m)) : PE X e (tE (fx X B) W (frz m)) := PE_imp h fun _ _ _ t => tG_frz t
end
end NH

/-! NhMut: a list of one's own (or one handed in to be changed) is changed: append, extend, insert, pop, l[i] = v, l[i] += v; a name is counted up. -/
namespace NH
open PySem Spec PyProof.Rows L2
open EM

/-! ### computations -/
def hasL (i : Nat) : EM Unit := fun ρ => match slot ρ i with
  | .ow 1 (.list _) => some (.ok (), ρ)
  | .rf _ 1 (.list _) => some (.ok (), ρ)
  | _ => none
def getL (i : Nat) : EM (List D) := fun ρ => match slot ρ i with
  | .ow 1 (.list ds) => some (.ok ds, ρ)
  | .rf _ 1 (.list ds) => some (.ok ds, ρ)
  | _ => none
def setL (i : Nat) (ds : List D) : EM Unit := fun ρ => if ds.length ≤ 16777216 then (match slot ρ i with
  | .ow 1 (.list _) => some (.ok (), ρ.set i (.ow 1 (.list ds)))
  | .rf t 1 (.list _) => some (.ok (), ρ.set i (.rf t 1 (.list ds)))
  | _ => none) else none
def eApp (i : Nat) (m : EM D) : EM D := bnd (hasL i) fun _ => bnd m fun d => bnd (getL i) fun ds => bnd (setL i (ds ++ [d])) fun _ => EM.ret .none
def intD : D → Option Int
  | .int i => some i
  | _ => none
def lstD : D → Option (List D)
  | .list es => some es
  | _ => none
def fitI (k : Int) : Option Nat := if 0 ≤ k ∧ k < 2 ^ 63 then some k.toNat else none
def fitZ (k : Int) (n : Nat) : Option Nat := if -(2 ^ 63) ≤ k ∧ k < 2 ^ 63 then seqIndex? k n else none
def eExt (i : Nat) (m : EM D) : EM D := bnd (hasL i) fun _ => bnd m fun d => bnd (getL i) fun ds => bnd (opt (lstD d)) fun es => bnd (setL i (ds ++ es)) fun _ => EM.ret .none
def eIns (i : Nat) (a m : EM D) : EM D := bnd (hasL i) fun _ => bnd a fun n => bnd m fun d => bnd (getL i) fun ds => bnd (opt ((intD n).bind fitI)) fun k => bnd (setL i (ds.take k ++ d :: ds.drop k)) fun _ => EM.ret .none
def ePop (i : Nat) : EM D := bnd (getL i) fun ds => bnd (opt ds[ds.length - 1]?) fun d => bnd (setL i ds.dropLast) fun _ => EM.ret d
def ePopAt (i : Nat) (a : EM D) : EM D := bnd (hasL i) fun _ => bnd a fun n => bnd (getL i) fun ds => bnd (opt ((intD n).bind fun k => fitZ k ds.length)) fun j => bnd (opt ds[j]?) fun d => bnd (setL i (ds.eraseIdx j)) fun _ => EM.ret d
def sPut (i : Nat) (a m : EM D) : EM Fl := bnd m fun d => bnd (hasL i) fun _ => bnd a fun n => bnd (getL i) fun ds => bnd (opt ((intD n).bind fun k => ixN ds.length k)) fun j => bnd (setL i (ds.set j d)) fun _ => EM.ret .next
def sPutOp (i : Nat) (op : D → D → Option D) (a m : EM D) : EM Fl := bnd (hasL i) fun _ => bnd a fun n => bnd (getL i) fun ds => bnd (opt ((intD n).bind fun k => atD ds k)) fun x => bnd m fun y => bnd (opt (op x y)) fun z => bnd (getL i) fun es => bnd (opt ((intD n).bind fun k => ixN es.length k)) fun j => bnd (setL i (es.set j z)) fun _ => EM.ret .next
def sAug (i : Nat) (op : D → D → Option D) (m : EM D) : EM Fl := fun ρ => match slot ρ i with
  | .fz x => bnd m (fun y => bnd (opt (op x y)) fun z => bnd (setSl i (.fz z)) fun _ => EM.ret .next) ρ
  | _ => none
theorem bnd_opt {α β : Type} {o : Option α} {f : α → EM β} {ρ ρ' : Env'} {r : Except Exn β} (h : bnd (opt o) f ρ = some (r, ρ')) : ∃ z, o = some z ∧ f z ρ = some (r, ρ') := by
  rcases bnd_inv h with ⟨z, ρ4, q1, q2⟩ | ⟨x, q1, q2⟩
  · unfold opt at q1
    split at q1
    · cases q1; exact ⟨_, rfl, q2⟩
    · cases q1
  · unfold opt at q1
    split at q1
    · cases q1
    · cases q1
theorem int_bind {α : Type} {n : D} {f : Int → Option α} {z : α} (h : (intD n).bind f = some z) : ∃ k, n = .int k ∧ f k = some z := by
  cases n with
  | int k => exact ⟨k, rfl, h⟩
  | _ => cases h
section
variable {C : Fix} {Z Z1 : AP'} {Fs Fs1 : Nat → List Addr} {ρ ρ' : Env'} {σ : L2.St} {H H1 : Hp}
theorem hasL_inv {i : Nat} {r : Except Exn Unit} (h : hasL i ρ = some (r, ρ')) : r = .ok () ∧ ρ' = ρ ∧ ∃ ds, getL i ρ = some (.ok ds, ρ) := by
  unfold hasL at h
  unfold getL
  split at h
  · rename_i e; cases h; exact ⟨rfl, rfl, _, rfl⟩
  · rename_i e; cases h; exact ⟨rfl, rfl, _, rfl⟩
  · cases h
/-- the list as it lies -/
theorem Sim.getL (S : Sim C Z Fs ρ σ H) {i : Nat} {r : Except Exn (List D)} (h : getL i ρ = some (r, ρ')) :
    ∃ ds a xs, r = .ok ds ∧ ρ' = ρ ∧ σ[i]? = some (some (.ref a)) ∧ H a = some (.lst xs) ∧ RpAll C.K Z H xs ds ∧ Fs i = [a] := by
  have q := S.sl i
  unfold SlR at q
  unfold NH.getL at h
  split at h
  · rename_i ds e
    cases h
    rw [e] at q
    obtain ⟨v, hv, o⟩ := q
    obtain ⟨a, xs, rfl, ha, rp, hF⟩ := o.one
    exact ⟨ds, a, xs, rfl, rfl, hv, ha, rp, hF⟩
  · rename_i t ds e
    cases h
    rw [e] at q
    obtain ⟨hv, o⟩ := q
    obtain ⟨a, xs, ea, ha, rp, hF⟩ := o.one
    rw [ea] at hv
    exact ⟨ds, a, xs, rfl, rfl, hv, ha, rp, hF⟩
  · cases h
/-- it is changed -/
theorem Sim.setL (S : Sim C Z Fs ρ σ H) {i : Nat} {a : Addr} {xs ys : List V} {ds : List D} {r : Except Exn Unit} (h : setL i ds ρ = some (r, ρ')) (ha : H a = some (.lst xs)) (hF : Fs i = [a]) (rp : RpAll C.K Z H ys ds) :
    r = .ok () ∧ ds.length ≤ 16777216 ∧ Sim C Z Fs ρ' σ (upd H a (.lst ys)) ∧ Ext Z H (InF Fs) Z (upd H a (.lst ys)) (InF Fs) := by
  unfold NH.setL at h
  split at h
  · rename_i hl
    have hi : a ∈ Fs i := by rw [hF]; simp
    have hz : ¬ Z a := S.zf i a hi
    have ne : ∀ b o, H b = some o → b ≠ a → upd H a (.lst ys) b = some o := fun b o hb n => by rw [upd_ne n]; exact hb
    have rd : ∀ b o, Rd H b o → b ≠ a → Rd (upd H a (.lst ys)) b o := fun b o hb n => hb.elim (fun q => .inl (ne _ _ q n)) fun ⟨u, q⟩ => .inr ⟨u, ne _ _ q n⟩
    have zn : ∀ b, Z b → b ≠ a := fun b hb e => hz (e ▸ hb)
    have kp : Keeps Z Z H (upd H a (.lst ys)) := ⟨fun b u z q => ne b _ q (zn b z), fun b u z q => rd b _ q (zn b z), fun b o es z _ q => ne b o q (zn b z), fun b u q => ne b _ q (fun e => by subst e; rw [ha] at q; cases q), fun b z => z, fun b o u q => ne b _ q (fun e => by subst e; rw [ha] at q; cases q), fun b o q l _ => ne b _ q (fun e => by subst e; rw [ha] at q; cases q; exact l (.inl ⟨_, rfl⟩))⟩
    have ex : Ext Z H (InF Fs) Z (upd H a (.lst ys)) (InF Fs) := by
      refine ⟨fun b o hb n _ => ne b o hb (fun e => n ⟨i, e ▸ hi⟩), fun b z => z, fun b z => .inl z, fun b z => .inl z, fun b o hb n => ?_⟩
      by_cases e : b = a
      · subst e; exact ⟨_, upd_same, fun ps z => by cases z⟩
      · exact ⟨o, ne b o hb e, n⟩
    have rp' := RpAll.keep kp _ _ rp
    have other : ∀ j, j ≠ i → SlR C Z (upd H a (.lst ys)) (slot ρ j) σ[j]? (Fs j) := fun j hj => by
      have q := S.sl j
      have st : ∀ b ∈ Fs j, ∀ o, H b = some o → upd H a (.lst ys) b = some o := fun b hb o ho => ne b o ho (fun e => hj (S.dj j i b hb (e ▸ hi)))
      unfold SlR at q ⊢
      cases hs : slot ρ j with
      | un => rw [hs] at q; exact q
      | fz d => rw [hs] at q; obtain ⟨e, v, hv, r⟩ := q; exact ⟨e, v, hv, r.keep kp⟩
      | ow k d => rw [hs] at q; obtain ⟨v, hv, r⟩ := q; exact ⟨v, hv, r.keep kp st⟩
      | rf t k d => rw [hs] at q; exact ⟨q.1, q.2.keep kp st⟩
      | ro t d => rw [hs] at q; obtain ⟨e, hv, a, xs, ds', e1, e2, e3, e4⟩ := q; exact ⟨e, hv, a, xs, ds', e1, e2, kp.roL e3, RpAll.keep kp _ _ e4⟩
      | kn t => rw [hs] at q; exact ⟨q.1, q.2.1, fun p hp => ⟨kp.ks _ _ (q.2.2 p hp).1 (q.2.2 p hp).2.1 (q.2.2 p hp).2.2, (q.2.2 p hp).2⟩⟩
    have zi : ∀ b, Z b → ∃ o, upd H a (.lst ys) b = some o ∧ nt o := fun b z => by
      obtain ⟨o, ho, n⟩ := S.zin b z
      exact ⟨o, ne b o ho (zn b z), n⟩
    have tb : TbO C.T (upd H a (.lst ys)) := S.tb.set ha (.inl ⟨_, rfl⟩)
    have q := S.sl i
    unfold SlR at q
    split at h
    · rename_i e
      cases h
      rw [e] at q
      have hr : i < ρ.length := slot_lt (by rw [e]; intro z; cases z)
      obtain ⟨v, hv, o⟩ := q
      obtain ⟨b, xs', rfl, hb, _, hFb⟩ := o.one
      have eb : b = a := by rw [hF] at hFb; exact (List.cons.inj hFb).1.symm
      subst eb
      refine ⟨rfl, hl, ⟨fun j => ?_, S.nd, S.dj, S.zf, zi, tb, by rw [List.length_set]; exact S.len⟩, ex⟩
      by_cases ej : j = i
      · subst ej
        rw [slot_set, if_pos ⟨rfl, hr⟩, hF]
        exact ⟨_, hv, Ow.mk1 upd_same rp'⟩
      · rw [slot_set, if_neg (fun z => ej z.1.symm)]
        exact other j ej
    · rename_i t _ e
      cases h
      rw [e] at q
      have hr : i < ρ.length := slot_lt (by rw [e]; intro z; cases z)
      obtain ⟨hv, o⟩ := q
      obtain ⟨b, xs', eb', hb, _, hFb⟩ := o.one
      have eb : b = a := by rw [hF] at hFb; exact (List.cons.inj hFb).1.symm
      subst eb
      refine ⟨rfl, hl, ⟨fun j => ?_, S.nd, S.dj, S.zf, zi, tb, by rw [List.length_set]; exact S.len⟩, ex⟩
      by_cases ej : j = i
      · subst ej
        rw [slot_set, if_pos ⟨rfl, hr⟩, hF]
        refine ⟨hv, ?_⟩
        rw [eb']
        exact Ow.mk1 upd_same rp'
      · rw [slot_set, if_neg (fun z => ej z.1.symm)]
        exact other j ej
    · cases h
  · cases h
end
/-! ### the rules -/
theorem bnd_hasL {α : Type} {i : Nat} {f : Unit → EM α} {ρ ρ' : Env'} {r : Except Exn α} (h : bnd (hasL i) f ρ = some (r, ρ')) : (∃ ds, getL i ρ = some (.ok ds, ρ)) ∧ f () ρ = some (r, ρ') := by
  rcases bnd_inv h with ⟨_, ρ1, e1, e2⟩ | ⟨x, e1, e2⟩
  · obtain ⟨_, rfl, q⟩ := hasL_inv e1
    exact ⟨q, e2⟩
  · obtain ⟨q, _⟩ := hasL_inv e1
    cases q
section
variable {C : Fix} {W : WX} {Z Z1 : AP'} {Fs Fs1 : Nat → List Addr} {ρ ρ' : Env'} {σ : L2.St} {H H1 : Hp} {α : Type}
/-- the list is read where it then stands -/
theorem bnd_getL (S : Sim C Z Fs ρ σ H) {i : Nat} {f : List D → EM α} {r : Except Exn α} (h : bnd (NH.getL i) f ρ = some (r, ρ')) :
    ∃ ds a xs, f ds ρ = some (r, ρ') ∧ σ[i]? = some (some (.ref a)) ∧ H a = some (.lst xs) ∧ RpAll C.K Z H xs ds ∧ Fs i = [a] := by
  rcases bnd_inv h with ⟨_, ρ1, e1, e2⟩ | ⟨x, e1, e2⟩
  · obtain ⟨ds, a, xs, q1, q2, q3, q4, q5, q6⟩ := S.getL e1
    cases q1
    subst q2
    exact ⟨_, a, xs, e2, q3, q4, q5, q6⟩
  · obtain ⟨ds, a, xs, q1, _⟩ := S.getL e1
    cases q1
theorem bnd_setL (S : Sim C Z Fs ρ σ H) {i : Nat} {a : Addr} {xs ys : List V} {ds : List D} {f : Unit → EM α} {r : Except Exn α} (h : bnd (setL i ds) f ρ = some (r, ρ')) (ha : H a = some (.lst xs)) (hF : Fs i = [a]) (rp : RpAll C.K Z H ys ds) :
    ∃ ρ1, f () ρ1 = some (r, ρ') ∧ ds.length ≤ 16777216 ∧ Sim C Z Fs ρ1 σ (upd H a (.lst ys)) ∧ Ext Z H (InF Fs) Z (upd H a (.lst ys)) (InF Fs) := by
  rcases bnd_inv h with ⟨_, ρ1, e1, e2⟩ | ⟨x, e1, e2⟩
  · obtain ⟨q1, q2, q3, q4⟩ := S.setL e1 ha hF rp
    exact ⟨ρ1, e2, q2, q3, q4⟩
  · obtain ⟨q1, _⟩ := S.setL e1 ha hF rp
    cases q1
theorem ref_eq {i : Nat} {v : V} {a : Addr} (h : σ[i]? = some (some v)) (h2 : σ[i]? = some (some (.ref a))) : v = .ref a := by
  rw [h] at h2
  exact Option.some.inj (Option.some.inj h2)
end
section
variable {X : Cx} {B : Bx} {W : WX} {o e e2 : Expr} {pos apos cpos : Pos} {i : Nat} {x : Str}
theorem se_app {m : EM D} (ho : PE X (.Name x pos) (tVar i)) (h : PE X e (tE (fx X B) W m)) (hs : starEach (e :: []) X.env = (false, eval e X.env) :: starEach [] X.env := by rfl)
    (hbase : attributeBase (.Name x pos) "append" X.env (eval (.Name x pos) X.env) = eval (.Name x pos) X.env := by rfl)
    (hfew : ((backTo cpos (starEach (e :: []) X.env)).all (fun x => !x.1) && (backToKw cpos (keywordEach [] X.env)).all (fun x => x.1.isSome)
      && decide ((e :: []).length + ([] : List Keyword).length + (if ([] : List Keyword).isEmpty then 0 else 1) < 30)) = true := by rfl)
    (hline : (apos.endLine == cpos.line) = true := by rfl) (hplain : (backTo cpos (starEach [] X.env)).any (·.1) = false := by rfl) :
    PE X (.Call (.Attribute (.Name x pos) "append" apos) [e] [] cpos) (tE (fx X B) W (eApp i m)) := by
  refine PE_imp (pe_bm PySem.F.plainAttrs_list PySem.F.slot_list_append PySem.F.type_list_append mt_append ho (pa_cons h pa_nil hs) hbase hfew hline hs hplain) fun σ H Q t => ?_
  obtain ⟨Z, Fs, ρ, rr, ρ', S, e, k⟩ := t
  have her : ∀ x, rr = .error x → EW (fx X B) W Z Fs H σ x ρ' := fun x q => by subst q; exact k
  obtain ⟨⟨ds0, hd⟩, e0⟩ := bnd_hasL e
  obtain ⟨_, a, xs, _, _, hv, ha, _, _⟩ := S.getL hd
  refine ⟨_, hv, .inl ⟨rfl, xs, .of ha⟩, tE_of S e0 her fun d ρ1 v H1 Z1 Fs1 e1 x1 S1 rp => ?_⟩
  obtain ⟨ds, a', ys, e2, hv', ha', rps, hF⟩ := bnd_getL S1 e1
  have ea := V.ref.inj (ref_eq hv hv')
  subst ea
  obtain ⟨ρ2, e3, hl, S2, x2⟩ := bnd_setL S1 e2 ha' hF (rps.append (.cons rp .nil))
  cases e3
  refine ⟨a, ys, v, rfl, rfl, ha', ?_, k _ _ Z1 Fs1 (x1.trans x2) S2 .non⟩
  have := rps.length
  rw [sizeL]
  simp at hl
  omega
theorem se_ext {m : EM D} (ho : PE X (.Name x pos) (tVar i)) (h : PE X e (tE (fx X B) W m)) (hs : starEach (e :: []) X.env = (false, eval e X.env) :: starEach [] X.env := by rfl)
    (hbase : attributeBase (.Name x pos) "extend" X.env (eval (.Name x pos) X.env) = eval (.Name x pos) X.env := by rfl)
    (hfew : ((backTo cpos (starEach (e :: []) X.env)).all (fun x => !x.1) && (backToKw cpos (keywordEach [] X.env)).all (fun x => x.1.isSome)
      && decide ((e :: []).length + ([] : List Keyword).length + (if ([] : List Keyword).isEmpty then 0 else 1) < 30)) = true := by rfl)
    (hline : (apos.endLine == cpos.line) = true := by rfl) (hplain : (backTo cpos (starEach [] X.env)).any (·.1) = false := by rfl) :
    PE X (.Call (.Attribute (.Name x pos) "extend" apos) [e] [] cpos) (tE (fx X B) W (eExt i m)) := by
  refine PE_imp (pe_bm PySem.F.plainAttrs_list PySem.F.slot_list_extend PySem.F.type_list_extend mt_extend ho (pa_cons h pa_nil hs) hbase hfew hline hs hplain) fun σ H Q t => ?_
  obtain ⟨Z, Fs, ρ, rr, ρ', S, e, k⟩ := t
  have her : ∀ x, rr = .error x → EW (fx X B) W Z Fs H σ x ρ' := fun x q => by subst q; exact k
  obtain ⟨⟨ds0, hd⟩, e0⟩ := bnd_hasL e
  obtain ⟨_, a, xs, _, _, hv, ha, _, _⟩ := S.getL hd
  refine ⟨_, hv, .inl ⟨rfl, xs, .of ha⟩, tE_of S e0 her fun d ρ1 v H1 Z1 Fs1 e1 x1 S1 rp => ?_⟩
  obtain ⟨ds, a', ys, e2, hv', ha', rps, hF⟩ := bnd_getL S1 e1
  have ea := V.ref.inj (ref_eq hv hv')
  subst ea
  obtain ⟨es, he, e2⟩ := bnd_opt e2
  cases d with
  | list es =>
    cases he
    cases rp with
    | lst z rq =>
      obtain ⟨ρ2, e3, hl, S2, x2⟩ := bnd_setL S1 e2 ha' hF (rps.append rq)
      cases e3
      refine ⟨a, _, ys, _, rfl, rfl, ha', z.2, ?_, k _ _ Z1 Fs1 (x1.trans x2) S2 .non⟩
      have := rps.length
      have := rq.length
      rw [sizeL]
      simp at hl
      omega
  | _ => cases he
theorem se_ins {a m : EM D} (ho : PE X (.Name x pos) (tVar i)) (h : PE X e (tE (fx X B) W a)) (h2 : PE X e2 (tE (fx X B) W m)) (hs : starEach (e :: [e2]) X.env = (false, eval e X.env) :: starEach [e2] X.env := by rfl) (hs2 : starEach (e2 :: []) X.env = (false, eval e2 X.env) :: starEach [] X.env := by rfl)
    (hbase : attributeBase (.Name x pos) "insert" X.env (eval (.Name x pos) X.env) = eval (.Name x pos) X.env := by rfl)
    (hfew : ((backTo cpos (starEach (e :: [e2]) X.env)).all (fun x => !x.1) && (backToKw cpos (keywordEach [] X.env)).all (fun x => x.1.isSome)
      && decide ((e :: [e2]).length + ([] : List Keyword).length + (if ([] : List Keyword).isEmpty then 0 else 1) < 30)) = true := by rfl)
    (hline : (apos.endLine == cpos.line) = true := by rfl) (hplain : (backTo cpos (starEach [e2] X.env)).any (·.1) = false := by rfl) :
    PE X (.Call (.Attribute (.Name x pos) "insert" apos) [e, e2] [] cpos) (tE (fx X B) W (eIns i a m)) := by
  refine PE_imp (pe_bm PySem.F.plainAttrs_list PySem.F.slot_list_insert PySem.F.type_list_insert mt_insert ho (pa_cons h (pa_cons h2 pa_nil hs2) hs) hbase hfew hline hs hplain) fun σ H Q t => ?_
  obtain ⟨Z, Fs, ρ, rr, ρ', S, e, k⟩ := t
  have her : ∀ x, rr = .error x → EW (fx X B) W Z Fs H σ x ρ' := fun x q => by subst q; exact k
  obtain ⟨⟨ds0, hd⟩, e0⟩ := bnd_hasL e
  obtain ⟨_, a, xs, _, _, hv, ha, _, _⟩ := S.getL hd
  refine ⟨_, hv, .inl ⟨rfl, xs, .of ha⟩, tE_of S e0 her fun n ρ1 vn H1 Z1 Fs1 e1 x1 S1 rn => ?_⟩
  refine tE_of S1 e1 (fun x q => (her x q).before x1) fun d ρ2 v H2 Z2 Fs2 e2 x2 S2 rp => ?_
  obtain ⟨ds, a', ys, e2, hv', ha', rps, hF⟩ := bnd_getL S2 e2
  have ea := V.ref.inj (ref_eq hv hv')
  subst ea
  obtain ⟨n', hn, e2⟩ := bnd_opt e2
  obtain ⟨j, rfl, hj⟩ := int_bind hn
  cases rn
  unfold fitI at hj
  split at hj
  · rename_i hj2
    cases hj
    obtain ⟨ρ2, e3, hl, S3, x3⟩ := bnd_setL S2 e2 ha' hF (rps.insert j.toNat rp)
    cases e3
    refine ⟨a, ys, j, v, rfl, rfl, ha', ?_, hj2.1, hj2.2, ?_⟩
    · have := rps.length
      rw [sizeL]
      simp at hl
      omega
    · have e5 : ys.take j.toNat ++ [v] ++ ys.drop j.toNat = ys.take j.toNat ++ v :: ys.drop j.toNat := by simp
      rw [e5]
      exact k _ _ Z2 Fs2 ((x1.trans x2).trans x3) S3 .non
  · cases hj
theorem RpAll.dropLast {K : PySem.W.Frag} {Z : AP'} {H : Hp} : ∀ {ds : List D} {vs : List V}, RpAll K Z H vs ds → RpAll K Z H vs.dropLast ds.dropLast
  | _, _, .nil => .nil
  | _, _, .cons r .nil => .nil
  | _, _, .cons r (.cons q t) => .cons r (RpAll.dropLast (.cons q t))
theorem se_pop (ho : PE X (.Name x pos) (tVar i))
    (hbase : attributeBase (.Name x pos) "pop" X.env (eval (.Name x pos) X.env) = eval (.Name x pos) X.env := by rfl) (hline : (apos.endLine == cpos.line) = true := by rfl) :
    PE X (.Call (.Attribute (.Name x pos) "pop" apos) [] [] cpos) (tE (fx X B) W (ePop i)) := by
  refine PE_imp (pe_bm0 PySem.F.plainAttrs_list PySem.F.slot_list_pop PySem.F.type_list_pop mt_pop ho hbase hline) fun σ H Q t => ?_
  obtain ⟨Z, Fs, ρ, rr, ρ', S, e, k⟩ := t
  obtain ⟨ds, a', ys, e2, hv', ha', rps, hF⟩ := bnd_getL S e
  refine ⟨_, hv', .inl ⟨rfl, ys, .of ha'⟩, ?_⟩
  have el := rps.length
  obtain ⟨d, hd, e2⟩ := bnd_opt e2
  obtain ⟨v, h1, h2⟩ := rps.get hd
  obtain ⟨ρ2, e3, hl, S3, x3⟩ := bnd_setL S e2 ha' hF rps.dropLast
  cases e3
  exact ⟨a', ys, v, rfl, rfl, ha', by rw [el]; exact h1, k _ _ Z Fs x3 S3 (h2.keep (S.keeps x3))⟩
theorem se_popAt {a : EM D} (ho : PE X (.Name x pos) (tVar i)) (h : PE X e (tE (fx X B) W a)) (hs : starEach (e :: []) X.env = (false, eval e X.env) :: starEach [] X.env := by rfl)
    (hbase : attributeBase (.Name x pos) "pop" X.env (eval (.Name x pos) X.env) = eval (.Name x pos) X.env := by rfl)
    (hfew : ((backTo cpos (starEach (e :: []) X.env)).all (fun x => !x.1) && (backToKw cpos (keywordEach [] X.env)).all (fun x => x.1.isSome)
      && decide ((e :: []).length + ([] : List Keyword).length + (if ([] : List Keyword).isEmpty then 0 else 1) < 30)) = true := by rfl)
    (hline : (apos.endLine == cpos.line) = true := by rfl) (hplain : (backTo cpos (starEach [] X.env)).any (·.1) = false := by rfl) :
    PE X (.Call (.Attribute (.Name x pos) "pop" apos) [e] [] cpos) (tE (fx X B) W (ePopAt i a)) := by
  refine PE_imp (pe_bm PySem.F.plainAttrs_list PySem.F.slot_list_pop PySem.F.type_list_pop mt_popAt ho (pa_cons h pa_nil hs) hbase hfew hline hs hplain) fun σ H Q t => ?_
  obtain ⟨Z, Fs, ρ, rr, ρ', S, e, k⟩ := t
  have her : ∀ x, rr = .error x → EW (fx X B) W Z Fs H σ x ρ' := fun x q => by subst q; exact k
  obtain ⟨⟨ds0, hd⟩, e0⟩ := bnd_hasL e
  obtain ⟨_, a, xs, _, _, hv, ha, _, _⟩ := S.getL hd
  refine ⟨_, hv, .inl ⟨rfl, xs, .of ha⟩, tE_of S e0 her fun n ρ1 vn H1 Z1 Fs1 e1 x1 S1 rn => ?_⟩
  obtain ⟨ds, a', ys, e2, hv', ha', rps, hF⟩ := bnd_getL S1 e1
  have ea := V.ref.inj (ref_eq hv hv')
  subst ea
  have el := rps.length
  obtain ⟨p, hp, q2⟩ := bnd_opt e2
  obtain ⟨d, hd, q3⟩ := bnd_opt q2
  obtain ⟨j, rfl, hj⟩ := int_bind hp
  cases rn
  unfold fitZ at hj
  split at hj
  · rename_i hj2
    obtain ⟨v, h1, h2⟩ := rps.get hd
    obtain ⟨ρ2, e3, hl, S3, x3⟩ := bnd_setL S1 q3 ha' hF (rps.eraseIdx p)
    cases e3
    exact ⟨a, ys, j, p, v, rfl, rfl, ha', hj2.1, hj2.2, by rw [el]; exact hj, h1, k _ _ Z1 Fs1 (x1.trans x3) S3 (h2.keep (S1.keeps x3))⟩
  · cases hj
/-- l[k] = e -/
theorem ss_put {a m : EM D} {tpos : Pos} (ho : PE X (.Name x pos) (tVar i)) (h : PE X e (tE (fx X B) W a)) (h2 : PE X e2 (tE (fx X B) W m))
    (ha : ∀ v, assign (.Subscript (.Name x pos) e tpos) X.env v = (do
      let ov ← holding [v] (eval (.Name x pos) X.env)
      let iv ← holding [v, ov] (eval e X.env)
      standAt tpos
      holding [v, ov, iv] (setItem ov iv v)
      release [v, ov, iv] []) := by intro _; rfl)
    (hs : swapsWithSole [.Subscript (.Name x pos) e tpos] e2 cpos.line X.env = pure false := by rfl) (hw : swappedStores [.Subscript (.Name x pos) e tpos] e2 X.env = pure none := by rfl)
    (h1 : (assignEach [.Subscript (.Name x pos) e tpos] X.env).map (·.2) = [assign (.Subscript (.Name x pos) e tpos) X.env] := by rfl) :
    PS X (.Assign [.Subscript (.Name x pos) e tpos] e2 cpos) (tS (fx X B) W (sPut i a m)) := by
  refine PS_imp (ps_asg h2 (pg_sub ho h set_list ha) hs hw h1) fun D' σ H t => ?_
  obtain ⟨Z, Fs, ρ, rr, ρ', S, e, k⟩ := t
  have her : ∀ x, rr = .error x → EW (fx X B) W Z Fs H σ x ρ' := fun x q => (k.err x q).at σ
  refine tE_of S e her fun d ρ1 v H1 Z1 Fs1 e1 x1 S1 rp => ?_
  obtain ⟨⟨ds0, hd⟩, e0⟩ := bnd_hasL e1
  obtain ⟨_, a, xs, _, _, hv, ha, _, _⟩ := S1.getL hd
  refine ⟨_, hv, tE_of S1 e0 (fun x q => (her x q).before x1) fun n ρ2 vn H2 Z2 Fs2 e2 x2 S2 rn => ?_⟩
  obtain ⟨ds, a', ys, e2, hv', ha', rps, hF⟩ := bnd_getL S2 e2
  have ea := V.ref.inj (ref_eq hv hv')
  subst ea
  have el := rps.length
  obtain ⟨p, hp, q2⟩ := bnd_opt e2
  obtain ⟨j, rfl, hj⟩ := int_bind hp
  cases rn
  obtain ⟨ρ3, e3, hl, S3, x3⟩ := bnd_setL S2 q2 ha' hF (rps.set p (rp.keep (S1.keeps x2)))
  cases e3
  exact ⟨a, ys, j, p, rfl, rfl, ha', by rw [el]; exact hj, k σ _ Z2 Fs2 ((x1.trans x2).trans x3) S3⟩
def rGetL (K : PySem.W.Frag) : V → V → Hp → VK → Prop := rIxL K
theorem get_list : PGet X (rGetL X.K) := by
  intro pins s σ H x y v u Q I rx ry h
  obtain ⟨p, xs, i, z, rfl, rfl, hq, he, q⟩ := h
  cases rx
  obtain ⟨t, rfl⟩ := ry
  obtain ⟨its, r, pl, hz⟩ := I.list hq
  obtain ⟨j, h1, h2, h3, h4, h5⟩ := atI_get he
  obtain ⟨w, ew, rw'⟩ := r.get h2
  have hl := r.length
  have hn := line63
  have fin : EP X pins σ Q w s := ⟨z, H, I, rw', q⟩
  by_cases h0 : 0 ≤ i
  · have hj : i.toNat = j := by
      rw [seqIndex_of h0 h5] at h1
      exact Option.some.inj h1
    exact wpAny_getItem_list pl.isList h0 (by omega) (by rw [hj]; simpa using ew) fin
  · have hj : (i + (its.toArray.size : Int)).toNat = j := by
      rw [seqIndex_neg (by omega) h4] at h1
      rw [List.size_toArray, ← hl]
      exact Option.some.inj h1
    exact wpAny_getItem_list_neg pl.isList (by omega) (by rw [List.size_toArray] <;> omega) (by omega) (by rw [hj]; simpa using ew) fin
/-- an in-place operation of immediate values -/
def IpD (C : Fix) (ti : TIp) (op : D → D → Option D) : Prop := ∀ (Z : AP') (H : Hp) (x y : V) (d e z : D) (Q : VK), Rp C.K Z H x d → Rp C.K Z H y e → op d e = some z → (∀ v, (∀ Z' H', Rp C.K Z' H' v z) → Q v H) → ti x y H Q
def addI : D → D → Option D
  | .int i, .int j => some (.int (i + j))
  | _, _ => none
def subI : D → D → Option D
  | .int i, .int j => some (.int (i - j))
  | _, _ => none
theorem ipd_addI {C : Fix} : IpD C (ipI fun i j => i + j) addI := by
  intro Z H x y d e z Q rx ry h k
  unfold addI at h
  split at h
  · cases h; cases rx; cases ry
    exact ⟨_, _, rfl, rfl, k _ fun _ _ => .int _⟩
  · cases h
theorem ipd_subI {C : Fix} : IpD C (ipI fun i j => i - j) subI := by
  intro Z H x y d e z Q rx ry h k
  unfold subI at h
  split at h
  · cases h; cases rx; cases ry
    exact ⟨_, _, rfl, rfl, k _ fun _ _ => .int _⟩
  · cases h
/-- l[k] op= e -/
theorem ss_putOp {a m : EM D} {tpos : Pos} {opr : Operator} {ti : TIp} {op : D → D → Option D} (hop : IpD (fx X B) ti op) (hi : PIp X opr ti) (ho : PE X (.Name x pos) (tVar i)) (h : PE X e (tE (fx X B) W a)) (h2 : PE X e2 (tE (fx X B) W m))
    (ha : ∀ ov iv new, augStore e ov iv new = (do holding [new, ov, iv] (setItem ov iv new); release [new, ov, iv] []; pure Flow.next) := by intros; rfl) :
    PS X (.AugAssign (.Subscript (.Name x pos) e tpos) opr e2 cpos) (tS (fx X B) W (sPutOp i op a m)) := by
  refine PS_imp (ps_augS ho h get_list h2 hi set_list ha) fun D' σ H t => ?_
  obtain ⟨Z, Fs, ρ, rr, ρ', S, e, k⟩ := t
  have her : ∀ x, rr = .error x → EW (fx X B) W Z Fs H σ x ρ' := fun x q => (k.err x q).at σ
  obtain ⟨⟨ds0, hd⟩, e0⟩ := bnd_hasL e
  obtain ⟨_, a, xs, _, _, hv, ha, _, _⟩ := S.getL hd
  refine ⟨_, hv, tE_of S e0 her fun n ρ2 vn H2 Z2 Fs2 e2 x2 S2 rn => ?_⟩
  obtain ⟨ds, a', ys, e2, hv', ha', rps, hF⟩ := bnd_getL S2 e2
  have ea := V.ref.inj (ref_eq hv hv')
  subst ea
  obtain ⟨d, hp, e2⟩ := bnd_opt e2
  obtain ⟨j, rfl, hd⟩ := int_bind hp
  cases rn
  obtain ⟨v, hv1, hr1⟩ := atI_of (C := fx X B) rps hd
  refine ⟨a, ys, j, v, rfl, rfl, .of ha', hv1, ?_⟩
  refine tE_of S2 e2 (fun x q => (her x q).before x2) fun d2 ρ3 v2 H3 Z3 Fs3 e3 x3 S3 r3 => ?_
  obtain ⟨z, ez, q2⟩ := bnd_opt e3
  refine hop Z3 H3 v v2 d d2 z _ (hr1.keep (S2.keeps x3)) r3 ez fun w hw => ?_
  obtain ⟨es, a', zs, q3, hv3, ha3, rp3, hF3⟩ := bnd_getL S3 q2
  have ea := V.ref.inj (ref_eq hv hv3)
  subst ea
  have el := rp3.length
  obtain ⟨p, hp3, q3⟩ := bnd_opt q3
  have hp3' : ixN es.length j = some p := hp3
  obtain ⟨ρ3, e5, hl, S5, x5⟩ := bnd_setL S3 q3 ha3 hF3 (rp3.set p (hw Z3 H3))
  cases e5
  exact ⟨a, zs, j, p, rfl, rfl, ha3, by rw [el]; exact hp3', k σ _ Z3 Fs3 ((x2.trans x3).trans x5) S5⟩
/-- name op= e -/
theorem ss_aug {m : EM D} {opr : Operator} {ti : TIp} {op : D → D → Option D} (hop : IpD (fx X B) ti op) (hi : PIp X opr ti) (hp : ∀ (te : TE), PE X e te → PS X (.AugAssign (.Name x pos) opr e cpos) (tAug i te ti)) (h : PE X e (tE (fx X B) W m)) :
    PS X (.AugAssign (.Name x pos) opr e cpos) (tS (fx X B) W (sAug i op m)) := by
  refine PS_imp (hp _ h) fun D' σ H t => ?_
  obtain ⟨Z, Fs, ρ, rr, ρ', S, e, k⟩ := t
  have her : ∀ x, rr = .error x → EW (fx X B) W Z Fs H σ x ρ' := fun x q => (k.err x q).at σ
  have q := S.sl i
  unfold SlR at q
  unfold sAug at e
  split at e
  · rename_i d hd
    rw [hd] at q
    obtain ⟨_, v, hv, r⟩ := q
    refine ⟨v, hv, tE_of S e her fun d2 ρ1 v2 H1 Z1 Fs1 e1 x1 S1 r1 => ?_⟩
    obtain ⟨z, ez, q2⟩ := bnd_opt e1
    refine hop Z1 H1 v v2 d d2 z _ (r.keep (S.keeps x1)) r1 ez fun w hw => ?_
    rcases bnd_inv q2 with ⟨_, ρ2, q3, q4⟩ | ⟨x, q3, q4⟩
    · obtain ⟨_, rfl, hl⟩ := setSl_inv q3
      cases q4
      exact k _ H1 Z1 _ (x1.less fun a h => (inF_set h).elim id fun h => by simp at h) (S1.store (k := 0) (Fr := []) ⟨⟨hw Z1 H1, rfl⟩, .nil, (fun _ h => nomatch h), (fun _ h => nomatch h)⟩ hl)
    · obtain ⟨q5, _⟩ := setSl_inv q3
      cases q5
  · cases e
end
end NH

/-! NhBi: built-ins: len, abs, int, min, max, sum, tuple, isinstance. -/
namespace NH
open PySem Spec PyProof.Rows L2
open EM

/-! ### plain -/
def lenD : D → Option D
  | .list ds => some (.int (ds.length : Nat))
  | .tuple ds => some (.int (ds.length : Nat))
  | _ => none
def absD : D → Option D
  | .int i => some (.int (if i < 0 then -i else i))
  | _ => none
def intT : D → Option D
  | .int i => some (.int i)
  | .bool k => some (.int (if k then 1 else 0))
  | _ => none
def min2D : D → D → Option D
  | .int i, .int j => some (.int (if j < i then j else i))
  | _, _ => none
def max2D : D → D → Option D
  | .int i, .int j => some (.int (if j > i then j else i))
  | _, _ => none
def intsD : List D → Option (List Int)
  | [] => some []
  | .int i :: ds => (intsD ds).map (i :: ·)
  | _ :: _ => none
def sumD (d : D) : Option D := (itemsD d).bind fun ds => (intsD ds).map fun ns => .int ns.sum
def maxI : List Int → Option Int
  | [] => none
  | n :: ns => some (ns.foldl (fun a b => if b > a then b else a) n)
def minI : List Int → Option Int
  | [] => none
  | n :: ns => some (ns.foldl (fun a b => if b < a then b else a) n)
def maxD (d : D) : Option D := (itemsD d).bind fun ds => (intsD ds).bind fun ns => (maxI ns).map .int
def minD (d : D) : Option D := (itemsD d).bind fun ds => (intsD ds).bind fun ns => (minI ns).map .int
def tupD : D → Option D
  | .list ds => some (.tuple ds)
  | .tuple ds => some (.tuple ds)
  | _ => none
theorem intsD_map : ∀ {ds : List D} {ns : List Int}, intsD ds = some ns → ds = ns.map PyData.int
  | [], ns, h => by cases h; rfl
  | d :: ds, ns, h => by
    cases d with
    | int i =>
      have h' : (intsD ds).map (i :: ·) = some ns := h
      rw [Option.map_eq_some_iff] at h'
      obtain ⟨ms, h1, rfl⟩ := h'
      rw [intsD_map h1]; rfl
    | _ => cases h
theorem max_best (ns : List Int) : ∀ n, (∀ a ∈ n :: ns, a ≤ ns.foldl (fun a b => if b > a then b else a) n) ∧ ns.foldl (fun a b => if b > a then b else a) n ∈ n :: ns := by
  induction ns with
  | nil => intro n; simp
  | cons m ns ih =>
    intro n
    rw [List.foldl_cons]
    obtain ⟨h1, h2⟩ := ih (if m > n then m else n)
    refine ⟨fun a ha => ?_, ?_⟩
    · rcases List.mem_cons.mp ha with rfl | ha
      · exact Int.le_trans (by split <;> omega) (h1 _ List.mem_cons_self)
      · rcases List.mem_cons.mp ha with rfl | ha
        · exact Int.le_trans (by split <;> omega) (h1 _ List.mem_cons_self)
        · exact h1 a (List.mem_cons_of_mem _ ha)
    · rcases List.mem_cons.mp h2 with e | h
      · rw [e]; split
        · simp
        · simp
      · exact List.mem_cons_of_mem _ (List.mem_cons_of_mem _ h)
theorem min_best (ns : List Int) : ∀ n, (∀ a ∈ n :: ns, ns.foldl (fun a b => if b < a then b else a) n ≤ a) ∧ ns.foldl (fun a b => if b < a then b else a) n ∈ n :: ns := by
  induction ns with
  | nil => intro n; simp
  | cons m ns ih =>
    intro n
    rw [List.foldl_cons]
    obtain ⟨h1, h2⟩ := ih (if m < n then m else n)
    refine ⟨fun a ha => ?_, ?_⟩
    · rcases List.mem_cons.mp ha with rfl | ha
      · exact Int.le_trans (h1 _ List.mem_cons_self) (by split <;> omega)
      · rcases List.mem_cons.mp ha with rfl | ha
        · exact Int.le_trans (h1 _ List.mem_cons_self) (by split <;> omega)
        · exact h1 a (List.mem_cons_of_mem _ ha)
    · rcases List.mem_cons.mp h2 with e | h
      · rw [e]; split
        · simp
        · simp
      · exact List.mem_cons_of_mem _ (List.mem_cons_of_mem _ h)
theorem maxI_is {ns : List Int} {m k : Int} (h : maxI ns = some m) (h1 : k ∈ ns) (h2 : ∀ y, y ∈ ns → y ≤ k) : k = m := by
  cases ns with
  | nil => cases h
  | cons n ns =>
    cases h
    obtain ⟨q1, q2⟩ := max_best ns n
    have := q1 k h1
    have := h2 _ q2
    omega
theorem minI_is {ns : List Int} {m k : Int} (h : minI ns = some m) (h1 : k ∈ ns) (h2 : ∀ y, y ∈ ns → k ≤ y) : k = m := by
  cases ns with
  | nil => cases h
  | cons n ns =>
    cases h
    obtain ⟨q1, q2⟩ := min_best ns n
    have := q1 k h1
    have := h2 _ q2
    omega

/-! ### sum, max, min of a tuple -/
section
variable {prog : Program} {w : World} {A : Around} {E : Value → Shared → Prop} {s : Shared} {l : Addr} {xs : Array (Int × Tok)}
theorem iter_intTup {Q : Value → Shared → Prop} (hl : s.heap.IsTuple l (intItems xs))
    (h : ∀ s₂ : Shared, s₂ = { s with heap := s.heap.push { cls := .type "tuple_iterator", data := .fields #[.ref l, .int 0 0] } } →
      (s₂.heap.IsTupleIter s.heap.objs.size l 0 ∧ s₂.heap.IsTuple l (intItems xs)) → (∀ b ∈ [s.heap.objs.size, l], b < s₂.heap.objs.size) → l ≠ s.heap.objs.size → Q (.ref s.heap.objs.size) s₂) :
    wpAny (model prog w) A (pyIter (.ref l)) Q E s := by
  have hlt : l < s.heap.objs.size := by obtain ⟨_, e, _⟩ := hl; exact Heap.lt_size e
  refine wpAny_pyIter_tuple hl (h _ rfl ⟨⟨_, Heap.get?_push_size _ rfl, rfl, rfl⟩, hl.push _⟩ (fun b hb => ?_) (Nat.ne_of_lt hlt))
  show b < (s.heap.push _).objs.size
  rw [Heap.size_push]
  have hb' : b = s.heap.objs.size ∨ b = l := by simpa using hb
  rcases hb' with e | e
  · rw [e]; exact Nat.lt_succ_self _
  · rw [e]; exact Nat.lt_succ_of_lt hlt
theorem kept_it {h' : Heap} {o : Obj} (hk : ∀ b x, b ∉ [s.heap.objs.size] → (s.heap.push o).get? b = some x → h'.get? b = some x) : ∀ b x, s.heap.get? b = some x → h'.get? b = some x :=
  fun b x e => hk b x (fun hm => by
    have e2 : b = s.heap.objs.size := by simpa using hm
    rw [e2] at e; exact Nat.lt_irrefl _ (Heap.lt_size e)) (Heap.get?_push_of_some _ e)
theorem sum_tupI {Q : Value → Shared → Prop} (hh : A.handled = none) (hl : s.heap.IsTuple l (intItems xs))
    (h : ∀ h' tk t', (∀ b o, s.heap.get? b = some o → h'.get? b = some o) → Q (.int (preSum (numAt xs) xs.size) t') { s with heap := h', toks := tk }) :
    wpAny (model prog w) A (call (.builtin "sum") [.ref l]) Q E s := by
  refine call_sum_walkG (iter_intTup hl fun s₂ e st hfp hlI => ?_)
  subst e
  refine ⟨_, _, _, _, _, _, numAt xs, rfl, Walks.tuple (A := A.in1) hh _ l hlI (intItems xs), st, hfp, (fun _ _ => intItems_at), fun h' tk t' hk => ?_⟩
  have z := h h' tk t' (kept_it hk)
  simpa [intItems] using z
theorem max_tupI {Q : Value → Shared → Prop} (hh : A.handled = none) (hl : s.heap.IsTuple l (intItems xs)) (hne : 0 < xs.size)
    (h : ∀ v h' tk, (intItems xs)[argBest (fun i j => decide (numAt xs i > numAt xs j)) (xs.size - 1)]? = some v → (∀ b o, s.heap.get? b = some o → h'.get? b = some o) → Q v { s with heap := h', toks := tk }) :
    wpAny (model prog w) A (call (.builtin "max") [.ref l]) Q E s := by
  refine call_max_walk (iter_intTup hl fun s₂ e st hfp hlI => ?_)
  subst e
  refine ⟨_, _, _, _, _, _, _, rfl, Walks.tuple (A := A.in1) hh _ l hlI (intItems xs), st, hfp, by simpa [intItems] using hne, CmpOf.ints_gt (numAt xs) (fun _ _ => intItems_at), fun v h' tk hP hk => ?_⟩
  exact h v h' tk (by simpa [intItems] using hP) (kept_it hk)
theorem min_tupI {Q : Value → Shared → Prop} (hh : A.handled = none) (hl : s.heap.IsTuple l (intItems xs)) (hne : 0 < xs.size)
    (h : ∀ v h' tk, (intItems xs)[argBest (fun i j => decide (numAt xs i < numAt xs j)) (xs.size - 1)]? = some v → (∀ b o, s.heap.get? b = some o → h'.get? b = some o) → Q v { s with heap := h', toks := tk }) :
    wpAny (model prog w) A (call (.builtin "min") [.ref l]) Q E s := by
  refine call_min_walk (iter_intTup hl fun s₂ e st hfp hlI => ?_)
  subst e
  refine ⟨_, _, _, _, _, _, _, rfl, Walks.tuple (A := A.in1) hh _ l hlI (intItems xs), st, hfp, by simpa [intItems] using hne, CmpOf.ints_lt (numAt xs) (fun _ _ => intItems_at), fun v h' tk hP hk => ?_⟩
  exact h v h' tk (by simpa [intItems] using hP) (kept_it hk)
end
section
variable {X : Cx}
def rSumT (K : PySem.W.Frag) : List V → Hp → VK → Prop := fun vs H Q => ∃ (a : Addr) (ns : List Int), vs = [V.ref a] ∧ SqT K H a (ns.map V.int) ∧ Q (.int ns.sum) H
def rMaxT (K : PySem.W.Frag) : List V → Hp → VK → Prop := fun vs H Q => ∃ (a : Addr) (ns : List Int), vs = [V.ref a] ∧ SqT K H a (ns.map V.int) ∧ 0 < ns.length ∧ ∀ m, m ∈ ns → (∀ y, y ∈ ns → y ≤ m) → Q (.int m) H
def rMinT (K : PySem.W.Frag) : List V → Hp → VK → Prop := fun vs H Q => ∃ (a : Addr) (ns : List Int), vs = [V.ref a] ∧ SqT K H a (ns.map V.int) ∧ 0 < ns.length ∧ ∀ m, m ∈ ns → (∀ y, y ∈ ns → m ≤ y) → Q (.int m) H
theorem cr_sumT (hc : X.calm = true) : CallR X (.builtin "sum") (rSumT X.K) := by
  intro pins s σ H vs us Q I r h
  obtain ⟨a, ns, rfl, hs, q⟩ := h
  obtain ⟨its, rv, hl, _⟩ := I.tuple hs
  rw [Vals.ref1 r]
  have hi := rv.ints
  obtain ⟨xs, e⟩ := hi.allInts.items
  have hn : numsOf (intItems xs).toList = ns := by rw [← e]; exact hi.numsOf
  rw [nums_intItems] at hn
  have hl' : s.heap.IsTuple a (intItems xs) := by rw [← e]; exact hl
  refine sum_tupI (I.ok.hd hc) hl' fun h' tk t' hk => ⟨.int _, H, I.kept hk, ⟨_, rfl⟩, ?_⟩
  rw [preSum_eq, List.take_of_length_le (by simp), hn]
  exact q
theorem cr_maxT (hc : X.calm = true) : CallR X (.builtin "max") (rMaxT X.K) := by
  intro pins s σ H vs us Q I r h
  obtain ⟨a, ns, rfl, hs, hne, q⟩ := h
  obtain ⟨its, rv, hl, _⟩ := I.tuple hs
  rw [Vals.ref1 r]
  have hi := rv.ints
  obtain ⟨xs, e⟩ := hi.allInts.items
  have hn : numsOf (intItems xs).toList = ns := by rw [← e]; exact hi.numsOf
  rw [nums_intItems] at hn
  subst hn
  have hl' : s.heap.IsTuple a (intItems xs) := by rw [← e]; exact hl
  refine max_tupI (I.ok.hd hc) hl' (by simpa using hne) fun v h' tk hv hk => ?_
  obtain ⟨t, rfl⟩ := intItems_at hv
  obtain ⟨h1, h2⟩ := argBest_gt (numAt xs) (xs.size - 1)
  refine ⟨.int _, H, I.kept hk, ⟨_, rfl⟩, q _ ?_ fun y hy => ?_⟩
  · rw [numAt_eq]
    refine PySem.getD_mem ?_
    have : 0 < xs.size := by simpa using hne
    rw [List.length_map, Array.length_toList]; omega
  · obtain ⟨j, hj, rfl⟩ := mem_getD hy
    rw [List.length_map, Array.length_toList] at hj
    rw [← numAt_eq]; exact h2 j (by omega)
theorem cr_minT (hc : X.calm = true) : CallR X (.builtin "min") (rMinT X.K) := by
  intro pins s σ H vs us Q I r h
  obtain ⟨a, ns, rfl, hs, hne, q⟩ := h
  obtain ⟨its, rv, hl, _⟩ := I.tuple hs
  rw [Vals.ref1 r]
  have hi := rv.ints
  obtain ⟨xs, e⟩ := hi.allInts.items
  have hn : numsOf (intItems xs).toList = ns := by rw [← e]; exact hi.numsOf
  rw [nums_intItems] at hn
  subst hn
  have hl' : s.heap.IsTuple a (intItems xs) := by rw [← e]; exact hl
  refine min_tupI (I.ok.hd hc) hl' (by simpa using hne) fun v h' tk hv hk => ?_
  obtain ⟨t, rfl⟩ := intItems_at hv
  obtain ⟨h1, h2⟩ := argBest_lt (numAt xs) (xs.size - 1)
  refine ⟨.int _, H, I.kept hk, ⟨_, rfl⟩, q _ ?_ fun y hy => ?_⟩
  · rw [numAt_eq]
    refine PySem.getD_mem ?_
    have : 0 < xs.size := by simpa using hne
    rw [List.length_map, Array.length_toList]; omega
  · obtain ⟨j, hj, rfl⟩ := mem_getD hy
    rw [List.length_map, Array.length_toList] at hj
    rw [← numAt_eq]; exact h2 j (by omega)
end

/-! ### they do so -/
section
variable {C : Fix}
theorem ud_len : UnD C (r1 fun xs H Q => ∃ x n, xs = [x] ∧ LenV C.K x H n ∧ Q (.int n) H) lenD := by
  intro Z Fs ρ σ H x d z Q S rx h k
  unfold lenD at h
  split at h
  · cases h
    obtain ⟨p, xs, rfl, h1, r1⟩ := rx
    exact ⟨_, _, rfl, .inl ⟨xs, .of h1, rfl⟩, by rw [r1.length]; exact fin0 S (.int _) k⟩
  · cases h
    obtain ⟨p, xs, rfl, h1, r1⟩ := rx.tup
    exact ⟨_, _, rfl, .inr ⟨xs, h1.sq, rfl⟩, by rw [r1.length]; exact fin0 S (.int _) k⟩
  · cases h
theorem ud_abs : UnD C (r1 fun xs H Q => ∃ i, xs = [.int i] ∧ Q (.int (if i < 0 then -i else i)) H) absD := by
  intro Z Fs ρ σ H x d z Q S rx h k
  unfold absD at h
  split at h
  · cases h; rw [rx.int]; exact ⟨_, rfl, fin0 S (.int _) k⟩
  · cases h
theorem ud_int : UnD C (r1 fun xs H Q => (∃ i, xs = [.int i] ∧ Q (.int i) H) ∨ ∃ k, xs = [.bl k] ∧ Q (.int (if k then 1 else 0)) H) intT := by
  intro Z Fs ρ σ H x d z Q S rx h k
  unfold intT at h
  split at h
  · cases h; rw [rx.int]; exact .inl ⟨_, rfl, fin0 S (.int _) k⟩
  · cases h; rw [rx.bool]; exact .inr ⟨_, rfl, fin0 S (.int _) k⟩
  · cases h
theorem od_min2 : OpD C (r2 fun xs H Q => ∃ i j, xs = [.int i, .int j] ∧ Q (.int (if j < i then j else i)) H) min2D := by
  intro Z Fs ρ σ H x y d e z Q S rx ry h k
  unfold min2D at h
  split at h
  · cases h; rw [rx.int, ry.int]; exact ⟨_, _, rfl, fin0 S (.int _) k⟩
  · cases h
theorem od_max2 : OpD C (r2 fun xs H Q => ∃ i j, xs = [.int i, .int j] ∧ Q (.int (if j > i then j else i)) H) max2D := by
  intro Z Fs ρ σ H x y d e z Q S rx ry h k
  unfold max2D at h
  split at h
  · cases h; rw [rx.int, ry.int]; exact ⟨_, _, rfl, fin0 S (.int _) k⟩
  · cases h
/-- a list's or tuple's numbers -/
theorem ints_top {Z : AP'} {H : Hp} {x : V} {d : D} {ds : List D} {ns : List Int} (rx : RpT C.K Z H x d) (h1 : itemsD d = some ds) (h2 : intsD ds = some ns) : ∃ a, x = .ref a ∧ (SqL C.K H a (ns.map V.int) ∨ SqT C.K H a (ns.map V.int)) := by
  have e := intsD_map h2
  subst e
  cases d with
  | list es =>
    cases h1
    obtain ⟨p, xs, rfl, h1, r1⟩ := rx
    rw [r1.ints] at h1
    exact ⟨p, rfl, .inl (.of h1)⟩
  | tuple es =>
    cases h1
    obtain ⟨p, xs, rfl, h1, r1⟩ := rx.tup
    have h2 := TpR.sq (K := C.K) h1
    rw [r1.ints] at h2
    exact ⟨p, rfl, .inr h2⟩
  | _ => cases h1
def rSumA (K : PySem.W.Frag) : List V → Hp → VK → Prop := fun vs H Q => rSum K vs H Q ∨ rSumT K vs H Q
def rMaxA (K : PySem.W.Frag) : List V → Hp → VK → Prop := fun vs H Q => rMax K vs H Q ∨ rMaxT K vs H Q
def rMinA (K : PySem.W.Frag) : List V → Hp → VK → Prop := fun vs H Q => rMin K vs H Q ∨ rMinT K vs H Q
theorem cr_sumA {X : Cx} (hc : X.calm = true) : CallR X (.builtin "sum") (rSumA X.K) := (cr_sum hc).or (cr_sumT hc)
theorem cr_maxA {X : Cx} (hc : X.calm = true) : CallR X (.builtin "max") (rMaxA X.K) := (cr_max hc).or (cr_maxT hc)
theorem cr_minA {X : Cx} (hc : X.calm = true) : CallR X (.builtin "min") (rMinA X.K) := (cr_min hc).or (cr_minT hc)
theorem ud_sum : UnD C (r1 (rSumA C.K)) sumD := by
  intro Z Fs ρ σ H x d z Q S rx h k
  unfold sumD at h
  rw [Option.bind_eq_some_iff] at h
  obtain ⟨ds, h1, h⟩ := h
  rw [Option.map_eq_some_iff] at h
  obtain ⟨ns, h2, rfl⟩ := h
  obtain ⟨a, rfl, q⟩ := ints_top rx h1 h2
  rcases q with q | q
  · exact .inl ⟨a, ns, rfl, q, fin0 S (.int _) k⟩
  · exact .inr ⟨a, ns, rfl, q, fin0 S (.int _) k⟩
theorem ud_max : UnD C (r1 (rMaxA C.K)) maxD := by
  intro Z Fs ρ σ H x d z Q S rx h k
  unfold maxD at h
  rw [Option.bind_eq_some_iff] at h
  obtain ⟨ds, h1, h⟩ := h
  rw [Option.bind_eq_some_iff] at h
  obtain ⟨ns, h2, h⟩ := h
  rw [Option.map_eq_some_iff] at h
  obtain ⟨m, h3, rfl⟩ := h
  have hl : 0 < ns.length := by
    cases ns with
    | nil => cases h3
    | cons _ _ => simp
  obtain ⟨a, rfl, q⟩ := ints_top rx h1 h2
  rcases q with q | q
  · exact .inl ⟨a, ns, rfl, q, hl, fun j q1 q2 => by rw [maxI_is h3 q1 q2]; exact fin0 S (.int _) k⟩
  · exact .inr ⟨a, ns, rfl, q, hl, fun j q1 q2 => by rw [maxI_is h3 q1 q2]; exact fin0 S (.int _) k⟩
theorem ud_min : UnD C (r1 (rMinA C.K)) minD := by
  intro Z Fs ρ σ H x d z Q S rx h k
  unfold minD at h
  rw [Option.bind_eq_some_iff] at h
  obtain ⟨ds, h1, h⟩ := h
  rw [Option.bind_eq_some_iff] at h
  obtain ⟨ns, h2, h⟩ := h
  rw [Option.map_eq_some_iff] at h
  obtain ⟨m, h3, rfl⟩ := h
  have hl : 0 < ns.length := by
    cases ns with
    | nil => cases h3
    | cons _ _ => simp
  obtain ⟨a, rfl, q⟩ := ints_top rx h1 h2
  rcases q with q | q
  · exact .inl ⟨a, ns, rfl, q, hl, fun j q1 q2 => by rw [minI_is h3 q1 q2]; exact fin0 S (.int _) k⟩
  · exact .inr ⟨a, ns, rfl, q, hl, fun j q1 q2 => by rw [minI_is h3 q1 q2]; exact fin0 S (.int _) k⟩
theorem ud_tup : UnD C (r1 (rTupF C.K)) tupD := by
  intro Z Fs ρ σ H x d z Q S rx h k
  unfold tupD at h
  split at h
  · cases h
    obtain ⟨p, xs, rfl, h1, r1⟩ := rx
    exact ⟨p, xs, rfl, .inl ⟨.of h1, finTT S r1 k⟩⟩
  · cases h
    obtain ⟨p, xs, rfl, h1, r1⟩ := rx.tup
    exact ⟨p, xs, rfl, .inr ⟨h1.sq, fin0 S (.tup h1 r1) k⟩⟩
  · cases h
end

/-! ### the rules -/
theorem bt_len : bootBuiltins "len" = some (.builtin "len") := by decide +kernel
theorem bt_abs : bootBuiltins "abs" = some (.builtin "abs") := by decide +kernel
theorem bt_int : bootBuiltins "int" = some (.type "int") := by decide +kernel
theorem bt_min : bootBuiltins "min" = some (.builtin "min") := by decide +kernel
theorem bt_max : bootBuiltins "max" = some (.builtin "max") := by decide +kernel
theorem bt_sum : bootBuiltins "sum" = some (.builtin "sum") := by decide +kernel
theorem bt_tuple : bootBuiltins "tuple" = some (.type "tuple") := by decide +kernel
theorem bt_isinst : bootBuiltins "isinstance" = some (.builtin "isinstance") := by decide +kernel
section
variable {X : Cx} {B : Bx} {W : WX} {a b c e : Expr} {es : List Expr} {pos p : Pos} {o o1 o2 : Opd}
theorem se_len (hg : Gl X "len") (hm : X.mg "len" = none) (ha : PE X a (tO (fx X B) W o)) (he : starEach [a] X.env = (false, eval a X.env) :: starEach [] X.env := by rfl) (hpl : (backTo pos (starEach [] X.env)).any (·.1) = false := by rfl) :
    PE X (.Call (.Name "len" p) [a] [] pos) (tE (fx X B) W (un1 o lenD)) := se_callB1 call_len hg hm bt_len ud_len ha (by decide) (by decide) he hpl
theorem se_abs (hg : Gl X "abs") (hm : X.mg "abs" = none) (ha : PE X a (tO (fx X B) W o)) (he : starEach [a] X.env = (false, eval a X.env) :: starEach [] X.env := by rfl) (hpl : (backTo pos (starEach [] X.env)).any (·.1) = false := by rfl) :
    PE X (.Call (.Name "abs" p) [a] [] pos) (tE (fx X B) W (un1 o absD)) := se_callB1 call_abs hg hm bt_abs ud_abs ha (by decide) (by decide) he hpl
theorem se_intc (hg : Gl X "int") (hm : X.mg "int" = none) (ha : PE X a (tO (fx X B) W o)) (he : starEach [a] X.env = (false, eval a X.env) :: starEach [] X.env := by rfl) (hpl : (backTo pos (starEach [] X.env)).any (·.1) = false := by rfl) :
    PE X (.Call (.Name "int" p) [a] [] pos) (tE (fx X B) W (un1 o intT)) := se_callT1 call_int1 hg hm bt_int ud_int ha (by decide) (by decide) he hpl
theorem se_sum (hc : X.calm = true) (hg : Gl X "sum") (hm : X.mg "sum" = none) (ha : PE X a (tO (fx X B) W o)) (he : starEach [a] X.env = (false, eval a X.env) :: starEach [] X.env := by rfl) (hpl : (backTo pos (starEach [] X.env)).any (·.1) = false := by rfl) :
    PE X (.Call (.Name "sum" p) [a] [] pos) (tE (fx X B) W (un1 o sumD)) := se_callB1 (cr_sumA hc) hg hm bt_sum ud_sum ha (by decide) (by decide) he hpl
theorem se_max1 (hc : X.calm = true) (hg : Gl X "max") (hm : X.mg "max" = none) (ha : PE X a (tO (fx X B) W o)) (he : starEach [a] X.env = (false, eval a X.env) :: starEach [] X.env := by rfl) (hpl : (backTo pos (starEach [] X.env)).any (·.1) = false := by rfl) :
    PE X (.Call (.Name "max" p) [a] [] pos) (tE (fx X B) W (un1 o maxD)) := se_callB1 (cr_maxA hc) hg hm bt_max ud_max ha (by decide) (by decide) he hpl
theorem se_min1 (hc : X.calm = true) (hg : Gl X "min") (hm : X.mg "min" = none) (ha : PE X a (tO (fx X B) W o)) (he : starEach [a] X.env = (false, eval a X.env) :: starEach [] X.env := by rfl) (hpl : (backTo pos (starEach [] X.env)).any (·.1) = false := by rfl) :
    PE X (.Call (.Name "min" p) [a] [] pos) (tE (fx X B) W (un1 o minD)) := se_callB1 (cr_minA hc) hg hm bt_min ud_min ha (by decide) (by decide) he hpl
theorem se_tupc (hg : Gl X "tuple") (hm : X.mg "tuple" = none) (ha : PE X a (tO (fx X B) W o)) (he : starEach [a] X.env = (false, eval a X.env) :: starEach [] X.env := by rfl) (hpl : (backTo pos (starEach [] X.env)).any (·.1) = false := by rfl) :
    PE X (.Call (.Name "tuple" p) [a] [] pos) (tE (fx X B) W (un1 o tupD)) := se_callT1 call_tupF hg hm bt_tuple ud_tup ha (by decide) (by decide) he hpl
theorem se_min2 (hc : X.calm = true) (hg : Gl X "min") (hm : X.mg "min" = none) (ha : PE X a (tO (fx X B) W o1)) (hb : PE X b (tO (fx X B) W o2))
    (he : starEach [a, b] X.env = (false, eval a X.env) :: starEach [b] X.env := by rfl) (he2 : starEach [b] X.env = (false, eval b X.env) :: starEach [] X.env := by rfl) (hpl : (backTo pos (starEach [b] X.env)).any (·.1) = false := by rfl) :
    PE X (.Call (.Name "min" p) [a, b] [] pos) (tE (fx X B) W (bin o1 o2 min2D)) := se_callB2 (call_min2 hc) hg hm bt_min od_min2 ha hb (by decide) (by decide) he he2 hpl
theorem se_max2 (hc : X.calm = true) (hg : Gl X "max") (hm : X.mg "max" = none) (ha : PE X a (tO (fx X B) W o1)) (hb : PE X b (tO (fx X B) W o2))
    (he : starEach [a, b] X.env = (false, eval a X.env) :: starEach [b] X.env := by rfl) (he2 : starEach [b] X.env = (false, eval b X.env) :: starEach [] X.env := by rfl) (hpl : (backTo pos (starEach [b] X.env)).any (·.1) = false := by rfl) :
    PE X (.Call (.Name "max" p) [a, b] [] pos) (tE (fx X B) W (bin o1 o2 max2D)) := se_callB2 (call_max2 hc) hg hm bt_max od_max2 ha hb (by decide) (by decide) he he2 hpl
end
end NH

/-! NhPar: a, b, .. = e1, e2, ..: values with what they own, stored one after the other. -/
namespace NH
open PySem Spec PyProof.Rows L2
open EM

/-- values and what they own -/
inductive OwP (R : Nat → V → D → List Addr → Prop) : List V → List (Nat × D) → List Addr → Prop
  | nil : OwP R [] [] []
  | cons {v : V} {p : Nat × D} {F : List Addr} {vs : List V} {ps : List (Nat × D)} {G : List Addr} : R p.1 v p.2 F → OwP R vs ps G → OwP R (v :: vs) (p :: ps) (F ++ G)
theorem OwP.imp {R R' : Nat → V → D → List Addr → Prop} : ∀ {vs : List V} {ps : List (Nat × D)} {F : List Addr}, OwP R vs ps F → (∀ k v d G, R k v d G → (∀ a ∈ G, a ∈ F) → R' k v d G) → OwP R' vs ps F
  | _, _, _, .nil, _ => .nil
  | _, _, _, .cons r t, h => .cons (h _ _ _ _ r fun a ha => List.mem_append_left _ ha) (OwP.imp t fun k v d G r q => h k v d G r fun a ha => List.mem_append_right _ (q a ha))
theorem OwP.mem {R : Nat → V → D → List Addr → Prop} {P : Addr → Prop} (hR : ∀ k v d F, R k v d F → ∀ a ∈ F, P a) : ∀ {vs : List V} {ds : List (Nat × D)} {F : List Addr}, OwP R vs ds F → ∀ a ∈ F, P a
  | _, _, _, .nil, a, ha => by simp at ha
  | _, _, _, .cons r t, a, ha => (List.mem_append.mp ha).elim (hR _ _ _ _ r a) (OwP.mem hR t a)
theorem OwP.length {R : Nat → V → D → List Addr → Prop} : ∀ {vs : List V} {ds : List (Nat × D)} {F : List Addr}, OwP R vs ds F → vs.length = ds.length
  | _, _, _, .nil => rfl
  | _, _, _, .cons _ t => by simp [OwP.length t]
structure OwPs (C : Fix) (Z : AP') (H : Hp) (Fs : Nat → List Addr) (Fr : List Addr) (vs : List V) (ps : List (Nat × D)) : Prop where
  ow : OwP (Ow C.K Z H) vs ps Fr
  nd : Fr.Nodup
  fs : ∀ a ∈ Fr, ¬ InF Fs a
  z : ∀ a ∈ Fr, ¬ Z a
def gsM : List (EM (Nat × D)) → EM (List (Nat × D))
  | [] => EM.ret []
  | m :: ms => bnd m fun p => bnd (gsM ms) fun ps => EM.ret (p :: ps)
def tGs (C : Fix) (W : WX) (ms : List (EM (Nat × D))) : TA := fun σ H Q => ∃ Z Fs ρ r ρ', Sim C Z Fs ρ σ H ∧ gsM ms ρ = some (r, ρ') ∧
  Out C W Z Fs H σ r ρ' fun ps => ∀ vs H' Z' Fs' Fr, Ext Z H (InF Fs) Z' H' (FrU Fs' Fr) → Sim C Z' Fs' ρ' σ H' → OwPs C Z' H' Fs' Fr vs ps → Q vs H'
section
variable {C : Fix} {W : WX} {Z Z1 Z2 : AP'} {Fs Fs1 Fs2 : Nat → List Addr} {ρ ρ' : Env'} {σ : L2.St} {H H1 H2 : Hp} {β : Type}
theorem tGs_of {ms : List (EM (Nat × D))} {f : List (Nat × D) → EM β} {r : Except Exn β} {Q : List V → Hp → Prop} (S : Sim C Z Fs ρ σ H) (h : bnd (gsM ms) f ρ = some (r, ρ')) (her : ∀ x, r = .error x → EW C W Z Fs H σ x ρ')
    (hok : ∀ ps ρ1 vs H1 Z1 Fs1 Fr, f ps ρ1 = some (r, ρ') → Ext Z H (InF Fs) Z1 H1 (FrU Fs1 Fr) → Sim C Z1 Fs1 ρ1 σ H1 → OwPs C Z1 H1 Fs1 Fr vs ps → Q vs H1) : tGs C W ms σ H Q := by
  rcases bnd_inv h with ⟨d, ρ1, e1, e2⟩ | ⟨x, e1, e2⟩
  · exact ⟨Z, Fs, ρ, .ok d, ρ1, S, e1, fun v H' Z' Fs' Fr e S' r => hok d ρ1 v H' Z' Fs' Fr e2 e S' r⟩
  · exact ⟨Z, Fs, ρ, .error x, ρ', S, e1, her x e2⟩
/-- what one holds beside the slots stands behind a step -/
theorem Ext.aside {Fr Gr : List Addr} {k : Nat} {v : V} {d : D} (S1 : Sim C Z1 Fs1 ρ σ H1) (o : OwE C Z1 H1 Fs1 Fr k v d) (x : Ext Z1 H1 (InF Fs1) Z2 H2 (FrU Fs2 Gr)) : Ow C.K Z2 H2 k v d Fr ∧ ∀ a ∈ Fr, ¬ Z2 a ∧ ¬ InF Fs2 a ∧ a ∉ Gr := by
  have ob := o.ow.obj
  have gone : ∀ a ∈ Fr, ¬ (InF Fs1 a ∨ NoO H1 a) := fun a ha z => by
    rcases z with z | z
    · exact o.fs a ha z
    · obtain ⟨u, hu, l⟩ := ob a ha
      exact l.no z hu
  refine ⟨o.ow.keep (S1.keeps x) fun a ha u hu => ?_, fun a ha => ⟨fun z => ?_, fun z => gone a ha (x.fnew a (.inl z)), fun z => gone a ha (x.fnew a (.inr z))⟩⟩
  · obtain ⟨u', hu', l⟩ := ob a ha
    rw [hu] at hu'; cases hu'
    exact x.keep a u hu (o.fs a ha) l.nt
  · rcases x.znew a z with z | z
    · exact o.z a ha z
    · exact gone a ha z
theorem Ext.both {Fr Gr : List Addr} (x1 : Ext Z H (InF Fs) Z1 H1 (FrU Fs1 Fr)) (x2 : Ext Z1 H1 (InF Fs1) Z2 H2 (FrU Fs2 Gr)) : Ext Z H (InF Fs) Z2 H2 (FrU Fs2 (Fr ++ Gr)) := by
  have fr : ∀ a, NoO H1 a → NoO H a := fun a e => x1.no e
  have up : ∀ a, InF Fs1 a ∨ NoO H1 a → InF Fs a ∨ NoO H a := fun a h => h.elim (fun h => x1.fnew a (.inl h)) fun h => .inr (fr a h)
  refine ⟨fun a o h n t => x2.keep a o (x1.keep a o h n t) (fun z => ?_) t, fun a h => x2.zz a (x1.zz a h), fun a h => ?_, fun a h => ?_, fun a o h n => ?_⟩
  · rcases x1.fnew a (.inl z) with z | z
    · exact n z
    · exact z o h t
  · rcases x2.znew a h with h | h
    · exact x1.znew a h
    · exact .inr (up a h)
  · rcases h with h | h
    · exact up a (x2.fnew a (.inl h))
    · rcases List.mem_append.mp h with h | h
      · exact x1.fnew a (.inr h)
      · exact up a (x2.fnew a (.inr h))
  · obtain ⟨o', h', n'⟩ := x1.thr a o h n
    exact x2.thr a o' h' n'
end
section
variable {X : Cx} {B : Bx} {W : WX} {e : Expr} {es : List Expr} {pos : Pos}
theorem sgs_nil : PA X [] (tGs (fx X B) W []) := PA_imp pa_nil fun σ H Q t => by
  obtain ⟨Z, Fs, ρ, rr, ρ', S, e, k⟩ := t
  cases e
  exact k _ H Z Fs [] (by rw [FrU_nil]; exact Ext.refl _ _ _) S ⟨.nil, .nil, (fun _ h => nomatch h), (fun _ h => nomatch h)⟩
theorem sgs_cons {m : EM (Nat × D)} {ms : List (EM (Nat × D))} (h : PE X e (tG (fx X B) W m)) (h2 : PA X es (tGs (fx X B) W ms)) (hs : starEach (e :: es) X.env = (false, eval e X.env) :: starEach es X.env := by rfl) : PA X (e :: es) (tGs (fx X B) W (m :: ms)) := by
  refine PA_imp (pa_cons h h2 hs) fun σ H Q t => ?_
  obtain ⟨Z, Fs, ρ, rr, ρ', S, e, k⟩ := t
  have her : ∀ x, rr = .error x → EW (fx X B) W Z Fs H σ x ρ' := fun x q => by subst q; exact k
  refine tG_of S (show bnd m _ ρ = some (rr, ρ') from e) her fun p ρ1 v H1 Z1 Fs1 Fr e1 x1 S1 o => ?_
  have x1' : Ext Z H (InF Fs) Z1 H1 (InF Fs1) := x1.less fun a h => .inl h
  refine tGs_of S1 e1 (fun x q => (her x q).before x1') fun ps ρ2 vs H2 Z2 Fs2 Gr e2 x2 S2 os => ?_
  cases e2
  obtain ⟨o2, far⟩ := Ext.aside S1 o x2
  refine k _ H2 Z2 Fs2 (Fr ++ Gr) (x1.both x2) S2 ⟨.cons o2 os.ow, ?_, fun a h => ?_, fun a h => ?_⟩
  · exact List.nodup_append.mpr ⟨o.nd, os.nd, fun a h1 b h2 e => (far a h1).2.2 (e ▸ h2)⟩
  · rcases List.mem_append.mp h with h | h
    · exact (far a h).2.1
    · exact os.fs a h
  · rcases List.mem_append.mp h with h | h
    · exact (far a h).1
    · exact os.z a h
end
/-! ### stores -/
def setAll : List Nat → List (Nat × D) → EM Unit
  | [], [] => EM.ret ()
  | i :: is, p :: ps => bnd (setSl i (mkSl p.1 p.2)) fun _ => setAll is ps
  | _, _ => stuck
def sPar (is : List Nat) (ms : List (EM (Nat × D))) : EM Fl := bnd (gsM ms) fun ps => bnd (setAll is ps) fun _ => EM.ret .next
def putAll : List Nat → List V → L2.St → L2.St
  | i :: is, v :: vs, σ => putAll is vs (σ.set i (some v))
  | _, _, σ => σ
section
variable {C : Fix} {W : WX} {Z Z1 : AP'} {Fs Fs1 : Nat → List Addr} {ρ ρ' : Env'} {σ : L2.St} {H H1 : Hp}
theorem Sim.storeAll : ∀ {is : List Nat} {ps : List (Nat × D)} {vs : List V} {Fs : Nat → List Addr} {Fr : List Addr} {ρ : Env'} {σ : L2.St} {r : Except Exn Unit}, Sim C Z Fs ρ σ H → OwPs C Z H Fs Fr vs ps → setAll is ps ρ = some (r, ρ') →
    r = .ok () ∧ is.length = vs.length ∧ ∃ Fs', Sim C Z Fs' ρ' (putAll is vs σ) H ∧ ∀ a, InF Fs' a → FrU Fs Fr a
  | [], [], [], Fs, Fr, ρ, σ, r, S, o, h => by cases h; exact ⟨rfl, rfl, Fs, S, fun a h => .inl h⟩
  | i :: is, p :: ps, v :: vs, Fs, Fr, ρ, σ, r, S, ⟨ow, nd, hfs, hz⟩, h => by
    obtain ⟨k, d⟩ := p
    cases ow with
    | @cons _ _ F _ _ G r0 t =>
      have nd' := List.nodup_append.mp nd
      rcases bnd_inv (show bnd (setSl i (mkSl k d)) (fun _ => setAll is ps) ρ = some (r, ρ') from h) with ⟨_, ρ1, e1, e2⟩ | ⟨x, e1, e2⟩
      · obtain ⟨_, rfl, hl⟩ := setSl_inv e1
        have o1 : OwE C Z H Fs F k v d := ⟨r0, nd'.1, fun a h => hfs a (List.mem_append_left _ h), fun a h => hz a (List.mem_append_left _ h)⟩
        have S1 := S.store o1 hl
        have os : OwPs C Z H (fset Fs i F) G vs ps := ⟨t, nd'.2.1, fun a h z => (inF_set z).elim (fun z => hfs a (List.mem_append_right _ h) z) (fun z => nd'.2.2 a z a h rfl), fun a h => hz a (List.mem_append_right _ h)⟩
        obtain ⟨q1, q2, Fs', q3, q4⟩ := Sim.storeAll S1 os e2
        refine ⟨q1, by simp [q2], Fs', q3, fun a h => ?_⟩
        rcases q4 a h with h | h
        · rcases inF_set h with h | h
          · exact .inl h
          · exact .inr (List.mem_append_left _ h)
        · exact .inr (List.mem_append_right _ h)
      · obtain ⟨q, _⟩ := setSl_inv e1
        cases q
  | [], _ :: _, _, _, _, _, _, _, _, _, h => by cases h
  | _ :: _, [], _, _, _, _, _, _, _, _, h => by cases h
  | [], [], _ :: _, _, _, _, _, _, _, o, _ => by cases o.ow
  | _ :: _, _ :: _, [], _, _, _, _, _, _, o, _ => by cases o.ow
/-- the whole: read, then stored -/
theorem tS_par {is : List Nat} {ms : List (EM (Nat × D))} (D' : Ends) (σ : L2.St) (H : Hp) (t : tS C W (sPar is ms) D' σ H) : tGs C W ms σ H fun vs H1 => is.length = vs.length ∧ D'.nx (putAll is vs σ) H1 := by
  obtain ⟨Z, Fs, ρ, rr, ρ', S, e, k⟩ := t
  refine tGs_of S e (fun x q => (k.err x q).at σ) fun ps ρ1 vs H1 Z1 Fs1 Fr e1 x1 S1 o => ?_
  rcases bnd_inv e1 with ⟨_, ρ2, q1, q2⟩ | ⟨x, q1, q2⟩
  · obtain ⟨_, hl, Fs', S2, sub⟩ := S1.storeAll o q1
    cases q2
    exact ⟨hl, k _ H1 Z1 Fs' (x1.less sub) S2⟩
  · obtain ⟨q3, _⟩ := S1.storeAll o q1
    cases q3
end
section
variable {X : Cx} {B : Bx} {W : WX} {a b c : Expr} {es tgs : List Expr} {pos : Pos}
theorem ss_par2 {i j : Nat} {m n : EM (Nat × D)} {tg e : Expr} (hp : ∀ ta : TA, PA X [a, b] ta → PS X (.Assign [tg] e pos) (tPar i j ta)) (h : PE X a (tG (fx X B) W m)) (h2 : PE X b (tG (fx X B) W n))
    (hs : starEach [a, b] X.env = (false, eval a X.env) :: starEach [b] X.env := by rfl) (hs2 : starEach [b] X.env = (false, eval b X.env) :: starEach [] X.env := by rfl) : PS X (.Assign [tg] e pos) (tS (fx X B) W (sPar [i, j] [m, n])) := by
  refine PS_imp (hp _ (sgs_cons h (sgs_cons h2 sgs_nil hs2) hs)) fun D' σ H t => ?_
  have q := tS_par D' σ H t
  obtain ⟨Z, Fs, ρ, rr, ρ', S, e, k⟩ := q
  refine ⟨Z, Fs, ρ, rr, ρ', S, e, ?_⟩
  cases rr with
  | error x => exact k
  | ok ps =>
    intro vs H' Z' Fs' Fr x1 S1 o
    obtain ⟨hl, hn⟩ := k vs H' Z' Fs' Fr x1 S1 o
    match vs, hl, hn with
    | [v, w], _, hn => exact ⟨v, w, rfl, hn⟩
theorem ss_par3 {i j l : Nat} {m n q : EM (Nat × D)} {tg e : Expr} (hp : ∀ ta : TA, PA X [a, b, c] ta → PS X (.Assign [tg] e pos) (tPar3 i j l ta)) (h : PE X a (tG (fx X B) W m)) (h2 : PE X b (tG (fx X B) W n)) (h3 : PE X c (tG (fx X B) W q))
    (hs : starEach [a, b, c] X.env = (false, eval a X.env) :: starEach [b, c] X.env := by rfl) (hs2 : starEach [b, c] X.env = (false, eval b X.env) :: starEach [c] X.env := by rfl) (hs3 : starEach [c] X.env = (false, eval c X.env) :: starEach [] X.env := by rfl) : PS X (.Assign [tg] e pos) (tS (fx X B) W (sPar [i, j, l] [m, n, q])) := by
  refine PS_imp (hp _ (sgs_cons h (sgs_cons h2 (sgs_cons h3 sgs_nil hs3) hs2) hs)) fun D' σ H t => ?_
  have q := tS_par D' σ H t
  obtain ⟨Z, Fs, ρ, rr, ρ', S, e, k⟩ := q
  refine ⟨Z, Fs, ρ, rr, ρ', S, e, ?_⟩
  cases rr with
  | error x => exact k
  | ok ps =>
    intro vs H' Z' Fs' Fr x1 S1 o
    obtain ⟨hl, hn⟩ := k vs H' Z' Fs' Fr x1 S1 o
    match vs, hl, hn with
    | [u, v, w], _, hn => exact ⟨u, v, w, rfl, hn⟩
/-- names one after the other -/
inductive NmsG (X : Cx) : List Expr → List Nat → Prop
  | nil : NmsG X [] []
  | cons {e : Expr} {es : List Expr} {i : Nat} {is : List Nat} (h : PG X e (gName i)) (hs : (assignEach (e :: es) X.env).map (·.2) = assign e X.env :: (assignEach es X.env).map (·.2)) (t : NmsG X es is) : NmsG X (e :: es) (i :: is)
def gAllN (is : List Nat) : TGs := fun vs σ H Q => is.length = vs.length ∧ Q (putAll is vs σ) H
theorem pgs_all : ∀ {es : List Expr} {is : List Nat}, NmsG X es is → PGs X es (gAllN is)
  | _, _, .nil => PGs_imp pgs_nil fun vs σ H Q t => by
    obtain ⟨hl, q⟩ := t
    match vs, hl, q with
    | [], _, q => exact ⟨rfl, q⟩
  | _, _, .cons h hs t => PGs_imp (pgs_cons h (pgs_all t) hs) fun vs σ H Q q => by
    obtain ⟨hl, q⟩ := q
    match vs, hl, q with
    | v :: vs, hl, q => exact ⟨v, vs, rfl, by simpa using hl, q⟩
/-- the general way: the tuple is made, then taken apart -/
theorem ss_parT {is : List Nat} {ms : List (EM (Nat × D))} {k k2 n : Nat} {p2 p3 : Pos} (hc : X.calm = true) (h : PA X es (tGs (fx X B) W ms)) (hg : NmsG X tgs is) (hlen : is.length = n := by rfl) (hbig : n ≤ 16777216 := by decide)
    (hn : (assignEach tgs X.env).length = n := by rfl) (hst : (assignEach tgs X.env).findIdx? (·.1) = none := by rfl)
    (hs : swapsWithSole [.Tuple tgs k p2] (.Tuple es k2 p3) pos.line X.env = pure false := by rfl) (hw : swappedStores [.Tuple tgs k p2] (.Tuple es k2 p3) X.env = pure none := by rfl)
    (h1 : (assignEach [.Tuple tgs k p2] X.env).map (·.2) = [assign (.Tuple tgs k p2) X.env] := by rfl) : PS X (.Assign [.Tuple tgs k p2] (.Tuple es k2 p3) pos) (tS (fx X B) W (sPar is ms)) := by
  refine PS_imp (ps_asg (pe_tup h) (pg_tup hc (pgs_all hg) hn hst) hs hw h1) fun D' σ H t => ?_
  obtain ⟨Z, Fs, ρ, rr, ρ', S, e, k⟩ := t
  refine tGs_of S e (fun x q => (k.err x q).at σ) fun ps ρ1 vs H1 Z1 Fs1 Fr e1 x1 S1 o => ?_
  rcases bnd_inv e1 with ⟨_, ρ2, q1, q2⟩ | ⟨x, q1, q2⟩
  · have hl := (S1.storeAll o q1).2.1
    cases q2
    refine ⟨by rw [sizeL, ← hl, hlen]; exact hbig, fun p hp => ⟨p, vs, rfl, .inl (.inl upd_same), by rw [← hl, hlen], hl, ?_⟩⟩
    obtain ⟨S2, x2, kp⟩ := S1.new (o := .tup vs) hp (fun ps => by intro z; cases z)
    have ob := OwP.mem (P := fun a => ∃ o, H1 a = some o ∧ LD o) (fun k v d F r => r.obj) o.ow
    have ne : ∀ a ∈ Fr, a ≠ p := fun a ha z => by
      obtain ⟨u, hu, _⟩ := ob a ha
      rw [z, hp] at hu; cases hu
    have o2 : OwPs (fx X B) (zadd Z1 p) (upd H1 p (.tup vs)) Fs1 Fr vs ps := ⟨o.ow.imp fun k v d G r q => r.keep kp fun a ha u hu => by rw [upd_ne (ne a (q a ha))]; exact hu, o.nd, o.fs, fun a ha z => z.elim (o.z a ha) (ne a ha)⟩
    obtain ⟨_, _, Fs', S3, sub⟩ := S2.storeAll o2 q1
    have x3 : Ext Z H (InF Fs) (zadd Z1 p) (upd H1 p (.tup vs)) (InF Fs') := by
      have old : ∀ a u, H1 a = some u → upd H1 p (.tup vs) a = some u := fun a u h => by rw [upd_ne (ne_of_none h hp)]; exact h
      refine ⟨fun a u h n t => old a u (x1.keep a u h n t), fun a h => .inl (x1.zz a h), fun a h => ?_, fun a h => x1.fnew a (sub a h), fun a u h n => ?_⟩
      · rcases h with h | h
        · exact x1.znew a h
        · subst h
          refine .inr (.inr ?_)
          exact x1.no (NoO.of hp)
      · obtain ⟨u', h, n'⟩ := x1.thr a u h n
        exact ⟨u', old a u' h, n'⟩
    exact k _ _ _ Fs' x3 S3
  · obtain ⟨q3, _⟩ := S1.storeAll o q1
    cases q3
end
end NH

/-! NhSeq: x in s, s.index(x), enumerate, zip, isinstance(x, str). -/
namespace NH
open PySem Spec PyProof.Rows L2
open EM

/-! ### x in s -/
def Dseq (K : PySem.W.Frag) (H : Hp) (y : V) (ds : List D) : Prop := Dp K H y (.list ds) ∨ Dp K H y (.tuple ds)
def rInA (K : PySem.W.Frag) (neg : Bool) : R2 := fun x y H Q => ∃ d ds, Dp K H x d ∧ Dseq K H y ds ∧ SeqAt.shaped d = true ∧ PyData.canLayAll0 ds = true ∧ Q (.bl (if neg then !ds.any fun z => PyData.eqv z d else ds.any fun z => PyData.eqv z d)) H
theorem room_in {A : Around} {xs : List D} {d : D} (hd : SeqAt.shaped d = true) (hu : A.units + 65 < cLine) : A.units + 1 + min (PyData.depthAll xs) d.depth < cLine := by
  have h1 := SeqAt.depth_of_shaped hd
  have h2 : min (PyData.depthAll xs) d.depth ≤ d.depth := Nat.min_le_right _ _
  omega
section
variable {X : Cx}
theorem op_inA (hu : X.A.units + 65 < cLine) : OpR X (compareOp .In) (rInA X.K false) := by
  intro pins s σ H x y v u Q I rx ry h
  obtain ⟨d, ds, hd, he, sd, se, q⟩ := h
  obtain ⟨as, r1⟩ := Dp.reads I d x v hd rx
  have p1 := PyData.plain_of_canLay0 d (SeqAt.canLay_of_shaped sd)
  have p2 := PyData.plainAll_of_canLay0 ds se
  cases he with
  | inl he =>
    obtain ⟨bs, r2⟩ := Dp.reads I (.list ds) y u he ry
    exact SeqAt.in_list_data r2 r1 p2 p1 (room_in sd hu) ⟨.bl _, H, I, rfl, q⟩
  | inr he =>
    obtain ⟨bs, r2⟩ := Dp.reads I (.tuple ds) y u he ry
    exact SeqAt.in_tuple_data r2 r1 p2 p1 (room_in sd hu) ⟨.bl _, H, I, rfl, q⟩
theorem op_notInA (hu : X.A.units + 65 < cLine) : OpR X (compareOp .NotIn) (rInA X.K true) := by
  intro pins s σ H x y v u Q I rx ry h
  obtain ⟨d, ds, hd, he, sd, se, q⟩ := h
  obtain ⟨as, r1⟩ := Dp.reads I d x v hd rx
  have p1 := PyData.plain_of_canLay0 d (SeqAt.canLay_of_shaped sd)
  have p2 := PyData.plainAll_of_canLay0 ds se
  cases he with
  | inl he =>
    obtain ⟨bs, r2⟩ := Dp.reads I (.list ds) y u he ry
    exact SeqAt.notIn_list_data r2 r1 p2 p1 (room_in sd hu) ⟨.bl _, H, I, rfl, q⟩
  | inr he =>
    obtain ⟨bs, r2⟩ := Dp.reads I (.tuple ds) y u he ry
    exact SeqAt.notIn_tuple_data r2 r1 p2 p1 (room_in sd hu) ⟨.bl _, H, I, rfl, q⟩
end
theorem shaped_items {x : D} {ds : List D} (h : SeqAt.shaped (.list ds) = true) : PyData.canLayAll0 ds = true := SeqAt.canLay_of_shaped h
theorem shaped_itemsT {x : D} {ds : List D} (h : SeqAt.shaped (.tuple ds) = true) : PyData.canLayAll0 ds = true := SeqAt.canLay_of_shaped h
theorem od_in {C : Fix} : OpD C (rInA C.K false) inD := by
  intro Z Fs ρ σ H x y d e z Q S rx ry h k
  unfold inD at h
  split at h
  · split at h
    · rename_i hc
      cases h
      exact ⟨d, _, rx.dp (SeqAt.canLay_of_shaped hc.1), .inl (ry.dp (SeqAt.canLay_of_shaped hc.2)), hc.1, SeqAt.canLay_of_shaped hc.2, fin0 S (.bl _) k⟩
    · cases h
  · split at h
    · rename_i hc
      cases h
      exact ⟨d, _, rx.dp (SeqAt.canLay_of_shaped hc.1), .inr (ry.dp (SeqAt.canLay_of_shaped hc.2)), hc.1, SeqAt.canLay_of_shaped hc.2, fin0 S (.bl _) k⟩
    · cases h
  · cases h
theorem od_notIn {C : Fix} : OpD C (rInA C.K true) notInD := by
  intro Z Fs ρ σ H x y d e z Q S rx ry h k
  unfold notInD at h
  split at h
  · split at h
    · rename_i hc
      cases h
      exact ⟨d, _, rx.dp (SeqAt.canLay_of_shaped hc.1), .inl (ry.dp (SeqAt.canLay_of_shaped hc.2)), hc.1, SeqAt.canLay_of_shaped hc.2, fin0 S (.bl _) k⟩
    · cases h
  · split at h
    · rename_i hc
      cases h
      exact ⟨d, _, rx.dp (SeqAt.canLay_of_shaped hc.1), .inr (ry.dp (SeqAt.canLay_of_shaped hc.2)), hc.1, SeqAt.canLay_of_shaped hc.2, fin0 S (.bl _) k⟩
    · cases h
  · cases h

/-! ### s.index(x) -/
/-- the first place of an equal one -/
def placeD (d : D) : List D → Nat → Option Nat
  | [], _ => none
  | z :: zs, j => if PyData.eqv z d = true then some j else placeD d zs (j + 1)
theorem placeD_is {d : D} : ∀ {zs : List D} {i j : Nat}, placeD d zs i = some j → ∃ k, j = i + k ∧ (∃ z, zs[k]? = some z ∧ PyData.eqv z d = true) ∧ ∀ m z', m < k → zs[m]? = some z' → PyData.eqv z' d = false
  | [], _, _, h => by cases h
  | z :: zs, i, j, h => by
    unfold placeD at h
    split at h
    · rename_i e
      cases h
      exact ⟨0, rfl, ⟨z, rfl, e⟩, fun m z' hm => absurd hm (Nat.not_lt_zero _)⟩
    · rename_i e
      obtain ⟨k, h1, h2, h3⟩ := placeD_is h
      refine ⟨k + 1, by omega, by simpa using h2, fun m z' hm hz => ?_⟩
      cases m with
      | zero => simp at hz; subst hz; simpa using e
      | succ m => exact h3 m z' (by omega) (by simpa using hz)
def strsD : List D → Option (List Str)
  | [] => some []
  | .str x :: ds => (strsD ds).map (x :: ·)
  | _ :: _ => none
theorem strsD_map : ∀ {ds : List D} {ns : List Str}, strsD ds = some ns → ds = ns.map PyData.str
  | [], ns, h => by cases h; rfl
  | d :: ds, ns, h => by
    cases d with
    | str i =>
      have h' : (strsD ds).map (i :: ·) = some ns := h
      rw [Option.map_eq_some_iff] at h'
      obtain ⟨ms, h1, rfl⟩ := h'
      rw [strsD_map h1]; rfl
    | _ => cases h
theorem RpAll.strs {K : PySem.W.Frag} {Z : AP'} {H : Hp} : ∀ {ns : List Str} {vs : List V}, RpAll K Z H vs (ns.map PyData.str) → vs = ns.map V.str
  | [], _, h => by cases h; rfl
  | n :: ns, _, h => by
    cases h with
    | cons r t => cases r; rw [RpAll.strs (ns := ns) t]; rfl
def findS (x : Str) : List Str → Nat → Option Nat
  | [], _ => none
  | y :: ys, j => if y = x then some j else findS x ys (j + 1)
theorem findS_is {x : Str} : ∀ {ys : List Str} {i j : Nat}, findS x ys i = some j → ∃ k, j = i + k ∧ ys[k]? = some x ∧ ∀ m, m < k → ys[m]? ≠ some x
  | [], _, _, h => by cases h
  | z :: zs, i, j, h => by
    unfold findS at h
    split at h
    · rename_i e
      cases h
      exact ⟨0, rfl, by rw [e]; rfl, fun m hm => absurd hm (Nat.not_lt_zero _)⟩
    · rename_i e
      obtain ⟨k, h1, h2, h3⟩ := findS_is h
      refine ⟨k + 1, by omega, by simpa using h2, fun m hm => ?_⟩
      cases m with
      | zero => simpa using e
      | succ m => simpa using h3 m (by omega)
/-- index: of a list, by == -/
def indexLD : D → D → Option D
  | .list ds, d => if SeqAt.shaped (.list ds) = true ∧ SeqAt.shaped d = true then (placeD d ds 0).map fun j => .int (j : Nat) else none
  | _, _ => none
/-- of a tuple of names -/
def indexTD : D → D → Option D
  | .tuple ds, .str x => (strsD ds).bind fun ys => (findS x ys 0).map fun j => .int (j : Nat)
  | _, _ => none
def nmsT : D → Option Unit
  | .tuple ds => if StrT ds = true then some () else none
  | _ => none
def isSeqL (i : Nat) : EM Unit := fun ρ => match slot ρ i with
  | .fz (.list _) => some (.ok (), ρ)
  | .ow _ (.list _) => some (.ok (), ρ)
  | .rf _ _ (.list _) => some (.ok (), ρ)
  | _ => none
section
variable {X : Cx} {B : Bx} {W : WX} {o e : Expr} {pos apos cpos : Pos} {x : Str} {i : Nat}
/-- a method of a tuple that is known plain -/
def tBMT (r : V → List V → Hp → VK → Prop) (to : TE) (t : TA) : TE := fun σ H Q => to σ H fun x H1 => (∃ a xs, x = .ref a ∧ TpR H1 a xs true) ∧ t σ H1 fun xs H2 => r x xs H2 Q
theorem pe_bmT {es : List Expr} {to : TE} {t : TA} {name : Str} {id : String} {r : V → List V → Hp → VK → Prop} (slot : Slot "tuple" name id) (hty : typeOf (.builtin id) = pure (.type "method_descriptor")) (hm : MtR X id r) (ho : PE X o to) (ha : PA X (e :: es) t)
    (hbase : attributeBase o name X.env (eval o X.env) = eval o X.env := by rfl)
    (hfew : ((backTo cpos (starEach (e :: es) X.env)).all (fun x => !x.1) && (backToKw cpos (keywordEach [] X.env)).all (fun x => x.1.isSome)
      && decide ((e :: es).length + ([] : List Keyword).length + (if ([] : List Keyword).isEmpty then 0 else 1) < 30)) = true := by rfl)
    (hline : (apos.endLine == cpos.line) = true := by rfl) (hs : starEach (e :: es) X.env = (false, eval e X.env) :: starEach es X.env := by rfl) (hplain : (backTo cpos (starEach es X.env)).any (·.1) = false := by rfl) :
    PE X (.Call (.Attribute o name apos) (e :: es) [] cpos) (tBMT r to t) := by
  refine ⟨fun pins s σ H Q I h => ?_⟩
  refine wpAny_Call_method_late hbase hfew hline rfl (thn (ho.run pins s σ H _ I h) fun v s1 z => ?_)
  obtain ⟨x, H1, I1, r1, ⟨a, xs, rfl, pl⟩, q1⟩ := z
  cases r1
  have hd : ∃ ob, s1.heap.get? a = some ob ∧ ob.dict = none := by
    have pl' : ∃ o, H1 a = some (.frz o (.tup xs)) ∧ o.cls = .type "tuple" ∧ o.dict = none := pl
    obtain ⟨ob, e1, _, e3⟩ := pl'
    exact ⟨ob, (I1.hok a _ e1).1, e3⟩
  obtain ⟨its, rv, ht, hz⟩ := I1.tuple (TpR.sq (K := X.K) pl)
  refine ⟨"tuple", id, PySem.F.plainAttrs_tuple, slot, hty, ht.typeIs, fun b e => by cases e; exact hd, ?_⟩
  have hA := ha.run cpos pins s1 σ H1 _ I1 q1
  rw [hs] at hA ⊢
  refine Calls.callWith_builtin (by show (false || (backTo cpos (starEach es X.env)).any (·.1)) = false; rw [hplain] <;> rfl) (Calls.evalArgs_plain (thn hA fun us s2 w => ?_))
  obtain ⟨vs, H2, I2, r2, q2⟩ := w
  exact hm pins s2 σ H2 (.ref a) vs _ us Q I2 rfl r2 q2
/-- names.index(name), names an expression that tells a tuple of names -/
theorem se_indexT {m n : EM D} (ho : PE X o (tE (fx X B) W m)) (h : PE X e (tE (fx X B) W n)) (hs : starEach (e :: []) X.env = (false, eval e X.env) :: starEach [] X.env := by rfl)
    (hbase : attributeBase o "index" X.env (eval o X.env) = eval o X.env := by rfl)
    (hfew : ((backTo cpos (starEach (e :: []) X.env)).all (fun x => !x.1) && (backToKw cpos (keywordEach [] X.env)).all (fun x => x.1.isSome)
      && decide ((e :: []).length + ([] : List Keyword).length + (if ([] : List Keyword).isEmpty then 0 else 1) < 30)) = true := by rfl)
    (hline : (apos.endLine == cpos.line) = true := by rfl) (hplain : (backTo cpos (starEach [] X.env)).any (·.1) = false := by rfl) :
    PE X (.Call (.Attribute o "index" apos) [e] [] cpos) (tE (fx X B) W (bnd m fun d => bnd (opt (nmsT d)) fun _ => bnd n fun f => opt (indexTD d f))) := by
  refine PE_imp (pe_bmT PySem.F.slot_tuple_index PySem.F.type_tuple_index mt_tup_index ho (pa_cons h pa_nil hs) hbase hfew hline hs hplain) fun σ H Q t => ?_
  obtain ⟨Z, Fs, ρ, rr, ρ', S, e, k⟩ := t
  have her : ∀ x, rr = .error x → EW (fx X B) W Z Fs H σ x ρ' := fun x q => by subst q; exact k
  refine tE_of S e her fun d ρ1 v H1 Z1 Fs1 e1 x1 S1 rp => ?_
  obtain ⟨_, g, e2⟩ := bnd_opt e1
  cases d with
  | tuple ds =>
    have g' : StrT ds = true := by
      have g2 : (if StrT ds = true then some () else none) = some _ := g
      by_cases z : StrT ds = true
      · exact z
      · rw [if_neg z] at g2; cases g2
    cases rp with
    | @tup a xs _ h1 h2 =>
      rw [g'] at h1
      refine ⟨⟨a, xs, rfl, h1⟩, tE_of S1 e2 (fun x q => (her x q).before x1) fun f ρ2 u H2 Z2 Fs2 e3 x2 S2 r2 => ?_⟩
      obtain ⟨z, ez, rfl, kz⟩ := opt_k e3 k
      have kp := S1.keeps x2
      cases f with
      | str y =>
        have ez' : ((strsD ds).bind fun ys => (findS y ys 0).map fun j => PyData.int (j : Nat)) = some z := ez
        rw [Option.bind_eq_some_iff] at ez'
        obtain ⟨ys, q1, q2⟩ := ez'
        rw [Option.map_eq_some_iff] at q2
        obtain ⟨j, q2, rfl⟩ := q2
        have ed := strsD_map q1
        subst ed
        have ex := h2.strs
        subst ex
        cases r2
        obtain ⟨k', ej, w1, w2⟩ := findS_is q2
        rw [Nat.zero_add] at ej
        subst ej
        exact ⟨a, ys, y, j, rfl, rfl, kp.sqT h1.sq, w1, w2, kz _ H2 Z2 Fs2 (x1.trans x2) S2 (.int _)⟩
      | _ => cases ez
  | _ => cases g
/-- l.index(x), l a name that holds a list -/
theorem se_indexL {n : EM D} (hu : X.A.units + 65 < cLine) (ho : PE X (.Name x pos) (tVar i)) (h : PE X e (tE (fx X B) W n)) (hs : starEach (e :: []) X.env = (false, eval e X.env) :: starEach [] X.env := by rfl)
    (hbase : attributeBase (.Name x pos) "index" X.env (eval (.Name x pos) X.env) = eval (.Name x pos) X.env := by rfl)
    (hfew : ((backTo cpos (starEach (e :: []) X.env)).all (fun x => !x.1) && (backToKw cpos (keywordEach [] X.env)).all (fun x => x.1.isSome)
      && decide ((e :: []).length + ([] : List Keyword).length + (if ([] : List Keyword).isEmpty then 0 else 1) < 30)) = true := by rfl)
    (hline : (apos.endLine == cpos.line) = true := by rfl) (hplain : (backTo cpos (starEach [] X.env)).any (·.1) = false := by rfl) :
    PE X (.Call (.Attribute (.Name x pos) "index" apos) [e] [] cpos) (tE (fx X B) W (bnd (isSeqL i) fun _ => bnd n fun f => bnd (bn i) fun d => opt (indexLD d f))) := by
  refine PE_imp (pe_bm PySem.F.plainAttrs_list PySem.F.slot_list_index PySem.F.type_list_index (mt_indexD hu) ho (pa_cons h pa_nil hs) hbase hfew hline hs hplain) fun σ H Q t => ?_
  obtain ⟨Z, Fs, ρ, rr, ρ', S, e, k⟩ := t
  have her : ∀ x, rr = .error x → EW (fx X B) W Z Fs H σ x ρ' := fun x q => by subst q; exact k
  have hd : ∃ a xs, σ[i]? = some (some (.ref a)) ∧ H a = some (.lst xs) ∧ isSeqL i ρ = some (.ok (), ρ) := by
    have q := S.sl i
    unfold SlR at q
    rcases bnd_inv e with ⟨_, ρ1, e1, _⟩ | ⟨y, e1, _⟩
    · unfold isSeqL at e1 ⊢
      split at e1
      · rename_i z; rw [z] at q
        obtain ⟨_, v, hv, r⟩ := q
        cases r with
        | lst h1 _ => exact ⟨_, _, hv, h1.2, rfl⟩
      · rename_i kk ds z; rw [z] at q
        obtain ⟨v, hv, r⟩ := q
        cases kk with
        | zero => cases r.1 with
          | lst h1 _ => exact ⟨_, _, hv, h1.2, rfl⟩
        | succ kk => obtain ⟨a, xs, G, rfl, ha, _⟩ := r; exact ⟨_, _, hv, ha, rfl⟩
      · rename_i t kk ds z; rw [z] at q
        obtain ⟨hv, r⟩ := q
        cases kk with
        | zero =>
          generalize (fx X B).tv t = w at r hv
          cases r.1 with
          | lst h1 _ => exact ⟨_, _, hv, h1.2, rfl⟩
        | succ kk => obtain ⟨a, xs, G, ea, ha, _⟩ := r; rw [ea] at hv; exact ⟨_, _, hv, ha, rfl⟩
      · cases e1
    · unfold isSeqL at e1
      split at e1 <;> cases e1
  obtain ⟨a, xs, hv, ha, hi⟩ := hd
  rw [bnd_ok hi] at e
  refine ⟨_, hv, .inl ⟨rfl, xs, .of ha⟩, tE_of S e her fun f ρ1 u H1 Z1 Fs1 e1 x1 S1 rf => ?_⟩
  obtain ⟨d, rd, e3⟩ := (show Half (fx X B).K Z1 H1 σ (.ref a) (.sl i) none from ⟨rfl, hv⟩).fin S1 e1
  obtain ⟨z, ez, rfl, kz⟩ := opt_k e3 k
  cases d with
  | list ds =>
    have ez' : (if SeqAt.shaped (.list ds) = true ∧ SeqAt.shaped f = true then (placeD f ds 0).map fun j => PyData.int (j : Nat) else none) = some z := by
      exact ez
    split at ez'
    · rename_i hc
      rw [Option.map_eq_some_iff] at ez'
      obtain ⟨j, q2, rfl⟩ := ez'
      obtain ⟨k', ej, ⟨z', w1, w2⟩, w3⟩ := placeD_is q2
      rw [Nat.zero_add] at ej
      subst ej
      exact ⟨a, u, f, ds, j, z', rfl, rfl, rd.dp (SeqAt.canLay_of_shaped hc.1), Rp.dp _ _ (SeqAt.canLay_of_shaped hc.2) rf, hc.1, hc.2, w1, w2, w3, kz _ H1 Z1 Fs1 x1 S1 (.int _)⟩
    · cases ez'
  | _ => cases ez
end
/-! ### enumerate, zip -/
def pairsL (xs ys : List D) : List D := (xs.zip ys).map fun p => .tuple [p.1, p.2]
def enumL (ds : List D) : List D := pairsL ((List.range ds.length).map fun i => PyData.int (i : Nat)) ds
theorem zip_get : ∀ {xs ys : List D} {i : Nat} {x y : D}, xs[i]? = some x → ys[i]? = some y → (pairsL xs ys)[i]? = some (.tuple [x, y])
  | [], _, _, _, _, h, _ => by simp at h
  | _ :: _, [], _, _, _, _, h => by simp at h
  | x :: xs, y :: ys, 0, _, _, h1, h2 => by simp at h1 h2; subst h1; subst h2; rfl
  | x :: xs, y :: ys, i + 1, _, _, h1, h2 => by
    have q := zip_get (xs := xs) (ys := ys) (i := i) (by simpa using h1) (by simpa using h2)
    simpa [pairsL] using q
theorem pairsL_length (xs ys : List D) : (pairsL xs ys).length = min xs.length ys.length := by simp [pairsL]
theorem strT_int (i : Int) (ds : List D) : StrT (.int i :: ds) = false := rfl
section
variable {C : Fix}
/-- a new pair comes -/
theorem pair_new {Z : AP'} {Fs : Nat → List Addr} {ρ : Env'} {σ : L2.St} {H : Hp} {T : Addr} {x y : V} {d e : D} (S : Sim C Z Fs ρ σ H) (hp : H T = none) (r1 : Rp C.K Z H x d) (r2 : Rp C.K Z H y e) (hs : StrT [d, e] = false) :
    ∃ Z', Ext Z H (InF Fs) Z' (upd H T (.tup [x, y])) (InF Fs) ∧ Sim C Z' Fs ρ σ (upd H T (.tup [x, y])) ∧ Rp C.K Z' (upd H T (.tup [x, y])) (.ref T) (.tuple [d, e]) := by
  obtain ⟨S', x', kp⟩ := S.new (o := .tup [x, y]) hp (fun ps => by intro z; cases z)
  exact ⟨_, x', S', .tup (by unfold TpR; rw [hs, if_neg Bool.false_ne_true]; exact upd_same) (.cons (r1.keep kp) (.cons (r2.keep kp) .nil))⟩
theorem Yl.enum {Z : AP'} {H : Hp} {a : Addr} {xs : List V} {ds : List D} (h : FzL Z H a xs) (r : RpAll C.K Z H xs ds) : Yl C Z H (Ite C.K a) (enumL ds) := by
  have hl : (enumL ds).length = xs.length := by simp [enumL, pairsL_length, r.length]
  refine ⟨fun H => SqL C.K H a xs, _, by rw [hl]; exact L2.walk_enum, fun Z' H' k => (k.fzL h).seq, fun i H' x H'' Z' Fs ρ σ hi y k S => ?_⟩
  obtain ⟨T, u, v, rfl, hT, rfl, e1, e2⟩ := y
  cases e1
  obtain ⟨d, hd, rd⟩ := r.getV e2
  rw [hl, r.length] at hi
  obtain ⟨Z2, x2, S2, r2⟩ := pair_new S hT (.int (i : Nat)) (rd.keep k) (strT_int _ _)
  exact ⟨_, Z2, zip_get (by simp [hi]) hd, x2, S2, r2⟩
theorem Yl.zip {Z : AP'} {H : Hp} {a b : Addr} {xs ys : List V} {ds es : List D} (h : FzL Z H a xs) (r : RpAll C.K Z H xs ds) (h2 : FzL Z H b ys) (r2 : RpAll C.K Z H ys es) (hs : ∀ p ∈ ds.zip es, StrT [p.1, p.2] = false) : Yl C Z H (Itz C.K a b) (pairsL ds es) := by
  refine ⟨fun H => SqL C.K H a xs ∧ SqL C.K H b ys, _, L2.walk_zip (by rw [pairsL_length, r.length, r2.length]), fun Z' H' k => ⟨(k.fzL h).seq, (k.fzL h2).seq⟩, fun i H' x H'' Z' Fs ρ σ hi y k S => ?_⟩
  obtain ⟨T, u, v, rfl, hT, rfl, e1, e2⟩ := y
  obtain ⟨d, hd, rd⟩ := r.getV e1
  obtain ⟨e, he, re⟩ := r2.getV e2
  obtain ⟨Z2, x2, S2, r3⟩ := pair_new S hT (rd.keep k) (re.keep k) (hs (d, e) (List.mem_of_getElem? (i := i) (by rw [List.getElem?_zip_eq_some]; exact ⟨hd, he⟩)))
  exact ⟨_, Z2, zip_get hd he, x2, S2, r3⟩
theorem Yl.zipT {Z : AP'} {H : Hp} {a b : Addr} {xs ys : List V} {ds es : List D} (h : SqT C.K H a xs) (r : RpAll C.K Z H xs ds) (h2 : SqT C.K H b ys) (r2 : RpAll C.K Z H ys es) (hs : ∀ p ∈ ds.zip es, StrT [p.1, p.2] = false) : Yl C Z H (RZ.ItzT C.K a b) (pairsL ds es) := by
  refine ⟨fun H => SqT C.K H a xs ∧ SqT C.K H b ys, YPair (fun i => xs[i]?) (fun i => ys[i]?), ?_, fun Z' H' k => ⟨k.sqT h, k.sqT h2⟩, fun i H' x H'' Z' Fs ρ σ hi y k S => ?_⟩
  · rw [pairsL_length, ← r.length, ← r2.length]
    refine ⟨fun i _ hi q => ?_, fun _ q => ⟨xs, ys, q.1, q.2, by omega⟩, fun i H v H' _ q y => ?_⟩
    · have h1 : i < xs.length := by omega
      have h2 : i < ys.length := by omega
      exact ⟨xs, ys, xs[i], ys[i], q.1, q.2, by simp [h1], by simp [h2]⟩
    · obtain ⟨T, x, z, h1, h2, h3, h4, h5⟩ := y
      exact ⟨T, x, z, h1, h2, h3, h4 xs q.1, h5 ys q.2⟩
  · obtain ⟨T, u, v, rfl, hT, rfl, e1, e2⟩ := y
    obtain ⟨d, hd, rd⟩ := r.getV e1
    obtain ⟨e, he, re⟩ := r2.getV e2
    obtain ⟨Z2, x2, S2, r3⟩ := pair_new S hT (rd.keep k) (re.keep k) (hs (d, e) (List.mem_of_getElem? (i := i) (by rw [List.getElem?_zip_eq_some]; exact ⟨hd, he⟩)))
    exact ⟨_, Z2, zip_get hd he, x2, S2, r3⟩
end
def eEnum (m : EM D) : EM (List D) := bnd m fun d => opt (match d with
  | .list ds => some (enumL ds)
  | _ => none)
def noNm (ds es : List D) : Bool := (ds.zip es).all fun p => !StrT [p.1, p.2]
def zipD : D → D → Option (List D)
  | .list ds, .list es => if noNm ds es = true then some (pairsL ds es) else none
  | .tuple ds, .tuple es => if noNm ds es = true then some (pairsL ds es) else none
  | _, _ => none
def eZip (m n : EM D) : EM (List D) := bnd m fun d => bnd n fun e => opt (zipD d e)
theorem noNm_all {ds es : List D} (h : noNm ds es = true) : ∀ p ∈ ds.zip es, StrT [p.1, p.2] = false := fun p hp => by
  have q := List.all_eq_true.mp h p hp
  simpa using q
section
variable {X : Cx} {B : Bx} {W : WX} {a b e : Expr} {pos tpos : Pos} {elts : List Expr} {kk : Nat}
theorem si_enum {p : Pos} {m : EM D} (hg : Gl X "enumerate") (hm : X.mg "enumerate" = none) (h : PE X a (tE (fx X B) W m)) (hs : starEach [a] X.env = [(false, eval a X.env)] := by rfl) (he : starEach [a] X.env = (false, eval a X.env) :: starEach [] X.env := by rfl) :
    PI X (.Tuple elts kk tpos) (.Call (.Name "enumerate" p) [a] [] pos) (tI (fx X B) W (eEnum m)) := by
  refine PI_imp (pi_enum hg hm (pa_cons h pa_nil he) hs) fun σ H R t => ?_
  obtain ⟨Z, Fs, ρ, rr, ρ', S, e, k⟩ := t
  have her : ∀ x, rr = .error x → EW (fx X B) W Z Fs H σ x ρ' := fun x q => by subst q; exact k
  refine tE_of S e her fun d ρ1 v H1 Z1 Fs1 e1 x1 S1 rp => ?_
  obtain ⟨ds, hd, rfl, kz⟩ := opt_k e1 k
  cases rp with
  | lst h1 h2 => cases hd; exact ⟨_, _, rfl, h1.seq, kz _ H1 Z1 Fs1 x1 S1 (Yl.enum h1 h2)⟩
  | _ => cases hd
theorem si_zip {p : Pos} {m n : EM D} (hg : Gl X "zip") (hm : X.mg "zip" = none) (h : PE X a (tE (fx X B) W m)) (h2 : PE X b (tE (fx X B) W n))
    (hs : starEach [a, b] X.env = (false, eval a X.env) :: starEach [b] X.env := by rfl) (hs2 : starEach [b] X.env = (false, eval b X.env) :: starEach [] X.env := by rfl) (hpl : (backTo pos (starEach [b] X.env)).any (·.1) = false := by rfl) :
    PI X (.Tuple elts kk tpos) (.Call (.Name "zip" p) [a, b] [] pos) (tI (fx X B) W (eZip m n)) := by
  refine PI_imp (RZ.pi_zipA hg hm (pa_cons h (pa_cons h2 pa_nil hs2) hs) hs hpl) fun σ H R t => ?_
  obtain ⟨Z, Fs, ρ, rr, ρ', S, e, k⟩ := t
  have her : ∀ x, rr = .error x → EW (fx X B) W Z Fs H σ x ρ' := fun x q => by subst q; exact k
  refine tE_of S e her fun d ρ1 v H1 Z1 Fs1 e1 x1 S1 rp => ?_
  refine tE_of S1 e1 (fun x q => (her x q).before x1) fun d2 ρ2 v2 H2 Z2 Fs2 e2 x2 S2 rp2 => ?_
  obtain ⟨ds, hd, rfl, kz⟩ := opt_k e2 k
  have kp := S1.keeps x2
  have rp' := rp.keep kp
  unfold zipD at hd
  split at hd
  · split at hd
    · rename_i hn
      cases hd
      cases rp' with
      | lst h1 r1 => cases rp2 with
        | lst h2 r2 => exact ⟨_, _, _, _, rfl, .inl ⟨h1.seq, h2.seq, kz _ H2 Z2 Fs2 (x1.trans x2) S2 (Yl.zip h1 r1 h2 r2 (noNm_all hn))⟩⟩
    · cases hd
  · split at hd
    · rename_i hn
      cases hd
      cases rp' with
      | tup h1 r1 => cases rp2 with
        | tup h2 r2 => exact ⟨_, _, _, _, rfl, .inr ⟨h1.sq, h2.sq, kz _ H2 Z2 Fs2 (x1.trans x2) S2 (Yl.zipT h1.sq r1 h2.sq r2 (noNm_all hn))⟩⟩
    · cases hd
  · cases hd
end
/-! ### isinstance(x, str) -/
def isStrM : D → Option D
  | .str _ => some (.bool true)
  | .none => some (.bool false)
  | .bool _ => some (.bool false)
  | .int _ => some (.bool false)
  | .list _ => some (.bool false)
  | .tuple _ => some (.bool false)
  | .dict _ => some (.bool false)
theorem Rp.ty {K : PySem.W.Frag} {Z : AP'} {H : Hp} {v : V} {d : D} (h : Rp K Z H v d) : ∃ T : String, TyX K H v (.type T) ∧ ((∃ x, d = .str x) → T = "str") ∧ (T = "str" ∨ T = "NoneType" ∨ T = "bool" ∨ T = "int" ∨ T = "list" ∨ T = "tuple" ∨ T = "dict") ∧ (T = "str" → ∃ x, d = .str x) := by
  cases h with
  | non => exact ⟨_, .base .non, (fun ⟨x, e⟩ => by cases e), .inr (.inl rfl), fun e => absurd e (by decide)⟩
  | bl b => exact ⟨_, .base (.bl b), (fun ⟨x, e⟩ => by cases e), .inr (.inr (.inl rfl)), fun e => absurd e (by decide)⟩
  | int b => exact ⟨_, .base (.int b), (fun ⟨x, e⟩ => by cases e), .inr (.inr (.inr (.inl rfl))), fun e => absurd e (by decide)⟩
  | str b => exact ⟨_, .base (.str b), (fun _ => rfl), .inl rfl, fun _ => ⟨b, rfl⟩⟩
  | lst h1 h2 => exact ⟨_, .base (.lst h1.2), (fun ⟨x, e⟩ => by cases e), .inr (.inr (.inr (.inr (.inl rfl)))), fun e => absurd e (by decide)⟩
  | @tup a xs ds h1 h2 =>
    refine ⟨"tuple", ?_, (fun ⟨x, e⟩ => by cases e), .inr (.inr (.inr (.inr (.inr (.inl rfl))))), fun e => absurd e (by decide)⟩
    rcases TpR.sq (K := K) h1 with (h1 | ⟨o, h1⟩) | ⟨o, its, n, h1, h4, h5, h6, h7⟩
    · exact .base (.tup h1)
    · exact .fTuple h1
    · exact .kTuple h1 h4
  | dct h1 h2 h3 =>
    obtain ⟨_, o, e, q⟩ := h1
    refine ⟨"dict", ?_, (fun ⟨x, e⟩ => by cases e), .inr (.inr (.inr (.inr (.inr (.inr rfl))))), fun e => absurd e (by decide)⟩
    cases q with
    | k kvs => exact .base (.dK e)
    | t kvs => exact .base (.dT e)
section
variable {X : Cx} {B : Bx} {W : WX} {a : Expr} {pos p p2 : Pos}
theorem bt_str : bootBuiltins "str" = some (.type "str") := by decide +kernel
theorem kit_str {K : PySem.W.Frag} {T : String} (h : T = "str" ∨ T = "NoneType" ∨ T = "bool" ∨ T = "int" ∨ T = "list" ∨ T = "tuple" ∨ T = "dict") : PySem.W.kitOne K (.type T) (.type "str") = some (decide (T = "str")) := by
  rcases h with rfl | rfl | rfl | rfl | rfl | rfl | rfl <;> rfl
/-- isinstance(x, str) -/
theorem se_isStr {m : EM D} (hg : Gl X "isinstance") (hm : X.mg "isinstance" = none) (hg2 : Gl X "str") (hm2 : X.mg "str" = none) (h : PE X a (tE (fx X B) W m))
    (he : starEach [a, .Name "str" p2] X.env = (false, eval a X.env) :: starEach [.Name "str" p2] X.env := by rfl) (he2 : starEach [.Name "str" p2] X.env = (false, eval (.Name "str" p2) X.env) :: starEach [] X.env := by rfl) (hpl : (backTo pos (starEach [.Name "str" p2] X.env)).any (·.1) = false := by rfl) :
    PE X (.Call (.Name "isinstance" p) [a, .Name "str" p2] [] pos) (tE (fx X B) W (bnd m fun d => opt (isStrM d))) := by
  refine PE_imp (pe_callB call_isi hg hm bt_isinst (pa_cons h (pa_cons (pe_bltn (v := .ty "str") hg2 hm2 bt_str rfl (by decide)) pa_nil he2) he) (by decide) (by decide) he hpl) fun σ H Q t => ?_
  obtain ⟨Z, Fs, ρ, rr, ρ', S, e, k⟩ := t
  have her : ∀ x, rr = .error x → EW (fx X B) W Z Fs H σ x ρ' := fun x q => by subst q; exact k
  refine tE_of S e her fun d ρ1 v H1 Z1 Fs1 e1 x1 S1 rp => ?_
  obtain ⟨z, ez, rfl, kz⟩ := opt_k e1 k
  obtain ⟨T, ty, q1, q2, q3⟩ := rp.ty
  refine ⟨v, .ty "str", .type T, .type "str", decide (T = "str"), rfl, .ty "str", ty, kit_str q2, ?_⟩
  have ez2 : z = .bool (decide (T = "str")) := by
    cases d with
    | str x =>
      rw [q1 ⟨x, rfl⟩]
      have e : (some (PyData.bool true) : Option D) = some z := ez
      cases e; rfl
    | _ =>
      have hn : ¬ T = "str" := fun e => by obtain ⟨x, ex⟩ := q3 e; cases ex
      rw [decide_eq_false hn]
      have e : (some (PyData.bool false) : Option D) = some z := ez
      cases e; rfl
  rw [ez2] at kz
  exact kz _ H1 Z1 Fs1 x1 S1 (.bl _)
end
end NH

/-! NhComp2: list comprehensions with two fors. -/
namespace NH
open PySem Spec PyProof.Rows L2
open EM

def compD2 (vs : List Nat) (t : Tg) (c : EM Bool) (src1 : EM (List D)) (vs1 : List Nat) (t1 : Tg) (c1 : EM Bool) (m : EM D) : List D → EM (List D)
  | [] => EM.ret []
  | d :: ds => bnd (clrM vs) fun _ => bnd (noX (bnd (asgT t d) fun _ => bnd c fun b => if b = true then bnd src1 fun ds1 => compD vs1 t1 c1 m ds1 else EM.ret [])) fun o => bnd (compD2 vs t c src1 vs1 t1 c1 m ds) fun r => EM.ret (o ++ r)
def lcM2 (vs : List Nat) (t : Tg) (src : EM (List D)) (c : EM Bool) (vs1 : List Nat) (t1 : Tg) (src1 : EM (List D)) (c1 : EM Bool) (m : EM D) : EM (List D) :=
  bnd src fun ds => bnd (inBlk vs (compD2 vs t c src1 vs1 t1 c1 m ds)) fun ys => if ys.length ≤ 16777216 then EM.ret ys else stuck
/-- a list at L is being made -/
structure Gr (C : Fix) (L : Addr) (Z1 : AP') (H1 : Hp) (F1 : AP') (as : List D) (Z : AP') (Fs : Nat → List Addr) (ρ : Env') (σ : L2.St) (H : Hp) (acc : List V) : Prop where
  sim : Sim C Z Fs ρ σ H
  ext : Ext Z1 H1 F1 Z H (fun a => InF Fs a ∨ a = L)
  at_ : H L = some (.lst acc)
  rp : RpAll C.K Z H acc as
  nz : ¬ Z L
  nf : ¬ InF Fs L
section
variable {C : Fix} {L : Addr} {Z1 Z Z' : AP'} {H1 H H' : Hp} {F1 : AP'} {as : List D} {Fs Fs' : Nat → List Addr} {ρ ρ' : Env'} {σ σ' : L2.St} {acc : List V}
theorem Gr.step (g : Gr C L Z1 H1 F1 as Z Fs ρ σ H acc) (x : Ext Z H (InF Fs) Z' H' (InF Fs')) (S : Sim C Z' Fs' ρ' σ' H') : Gr C L Z1 H1 F1 as Z' Fs' ρ' σ' H' acc := by
  refine ⟨S, g.ext.trans (x.wid L), x.keep L _ g.at_ g.nf (fun ps => by intro z; cases z), RpAll.keep (g.sim.keeps x) _ _ g.rp, fun z => ?_, fun z => ?_⟩
  · rcases x.znew L z with q | q | q
    · exact g.nz q
    · exact g.nf q
    · exact q.lst g.at_
  · rcases x.fnew L z with q | q
    · exact g.nf q
    · exact q.lst g.at_
theorem Gr.clear (g : Gr C L Z1 H1 F1 as Z Fs ρ σ H acc) (vs : List Nat) : Gr C L Z1 H1 F1 as Z (fclr vs Fs) (clr vs ρ) (wipe σ vs) H acc :=
  g.step ((Ext.refl Z H (InF Fs)).clear) (g.sim.clear vs)
theorem Gr.app (g : Gr C L Z1 H1 F1 as Z Fs ρ σ H acc) {v : V} {y : D} (r : Rp C.K Z H v y) : Gr C L Z1 H1 F1 (as ++ [y]) Z Fs ρ σ (upd H L (.lst (acc ++ [v]))) (acc ++ [v]) := by
  obtain ⟨Sg, kg⟩ := g.sim.grow (acc' := acc ++ [v]) g.at_ g.nz g.nf
  exact ⟨Sg, g.ext.trans Ext.growL, upd_same, RpAll.keep kg _ _ (g.rp.append (.cons r .nil)), g.nz, g.nf⟩
theorem Gr.slots (g : Gr C L Z1 H1 F1 as Z Fs ρ σ H acc) (h : ∀ j, slot ρ' j = slot ρ j) (hl : ρ'.length = ρ.length) : Gr C L Z1 H1 F1 as Z Fs ρ' σ H acc := ⟨g.sim.congr h hl, g.ext, g.at_, g.rp, g.nz, g.nf⟩
end
theorem wipe_wipe {vs vs1 : List Nat} (σ : L2.St) (h : ∀ i ∈ vs1, i ∈ vs) : wipe (wipe σ vs1) vs = wipe σ vs := by
  refine List.ext_getElem? fun j => ?_
  by_cases hj : j ∈ vs
  · rw [wipe_in hj, wipe_in hj, wipe_length]
  · rw [wipe_out hj, wipe_out hj, wipe_out fun z => hj (h j z)]
/-- a loop by its turns -/
theorem loop_it {J : It} {n : Nat} {G : Hp → Prop} {Y : Nat → Hp → V → Hp → Prop} (w : Walk J n G Y) {H0 : Hp} {Qd : Hp → Prop} {Body : (Hp → Prop) → V → Hp → Prop} (Pv : Nat → Hp → Prop) (h0 : Pv 0 H0) (hG : ∀ i H, i ≤ n → Pv i H → G H)
    (hs : ∀ i x H H', i < n → Pv i H → Y i H x H' → Body (Pv (i + 1)) x H') (hd : ∀ H, Pv n H → Qd H) :
    ∃ W : Nat → Nat → Hp → Prop, (∃ m, W 0 m H0) ∧ ∀ i m H, W i m H → (J.stop i H ∧ Qd H) ∨ (J.go i H ∧ ∃ Nx : Hp → Prop, (∀ H', Nx H' → ∃ m', m' < m ∧ W (i + 1) m' H') ∧ ∀ x H', J.yld i H x H' → Body Nx x H') := by
  refine ⟨fun i m H => m = n - i ∧ i ≤ n ∧ Pv i H, ⟨n, by simp, Nat.zero_le _, h0⟩, ?_⟩
  rintro i m H ⟨rfl, hi, p⟩
  have g := hG i H hi p
  cases Nat.lt_or_ge i n with
  | inl lt => exact .inr ⟨w.goes i H lt g, Pv (i + 1), fun H' p' => ⟨n - (i + 1), by omega, rfl, lt, p'⟩, fun x H' y => hs i x H H' lt p (w.yields i H x H' lt g y)⟩
  | inr ge =>
    have e : i = n := by omega
    subst e
    exact .inl ⟨w.stops H g, hd H p⟩
theorem compD2_ok {vs vs1 : List Nat} {t t1 : Tg} {c c1 : EM Bool} {src1 : EM (List D)} {m : EM D} : ∀ {ds : List D} {ρ ρ' : Env'} {r : Except Exn (List D)}, compD2 vs t c src1 vs1 t1 c1 m ds ρ = some (r, ρ') → ∃ ys, r = .ok ys
  | [], _, _, _, h => by cases h; exact ⟨[], rfl⟩
  | d :: ds, ρ, ρ', r, h => by
    rcases bnd_inv (show bnd (clrM vs) _ ρ = some (r, ρ') from h) with ⟨_, ρ1, q1, q2⟩ | ⟨x, q1, q2⟩
    · rcases bnd_inv q2 with ⟨o, ρ2, q3, q4⟩ | ⟨x, q3, q4⟩
      · rcases bnd_inv q4 with ⟨o, ρ2, q5, q6⟩ | ⟨x, q5, q6⟩
        · cases q6; exact ⟨_, rfl⟩
        · obtain ⟨ys, e⟩ := compD2_ok q5
          cases e
      · obtain ⟨_, a, e⟩ := noX_inv q3
        cases e
    · cases q1
theorem drop_cons {ds : List D} {i : Nat} {d : D} (h : ds[i]? = some d) : ds.drop i = d :: ds.drop (i + 1) := by
  obtain ⟨hi, e⟩ := List.getElem?_eq_some_iff.mp h
  rw [List.drop_eq_getElem_cons hi, e]
theorem tF_lc2 {C : Fix} {W : WX} {vs vs1 : List Nat} {t t1 : Tg} {src src1 : EM (List D)} {c c1 : EM Bool} {m : EM D} (hv : ∀ i ∈ tgS t, i ∈ vs) (hv1 : ∀ i ∈ tgS t1, i ∈ vs1) (hvv : ∀ i ∈ vs1, i ∈ vs) (σ : L2.St) (H : Hp) (Q : VK) (h : tF C W (lcM2 vs t src c vs1 t1 src1 c1 m) σ H Q) :
    tLc2 (tI C W src) (tTg C t) (tT C W0 c) (tI C W0 src1) (tTg C t1) (tT C W0 c1) (tE C W0 m) vs vs1 σ H Q := by
  obtain ⟨Z, Fs, ρ, rr, ρ', S, e, k⟩ := h
  rcases bnd_inv e with ⟨ds, ρ1, e1, e2⟩ | ⟨x, e1, e2⟩
  · refine ⟨Z, Fs, ρ, .ok ds, ρ1, S, e1, fun J H1 Z1 Fs1 x1 S1 y L hL => ?_⟩
    obtain ⟨G, Y, hw, hG, hY⟩ := y
    obtain ⟨ys, ρ2, e3, rfl, er, hsz⟩ : ∃ ys ρ2, compD2 vs t c src1 vs1 t1 c1 m ds ρ1 = some (.ok ys, ρ2) ∧ rr = .ok ys ∧ ρ' = rst ρ1 vs ρ2 ∧ ys.length ≤ 16777216 := by
      unfold bnd inBlk at e2
      cases e3 : compD2 vs t c src1 vs1 t1 c1 m ds ρ1 with
      | none =>
        simp only [e3] at e2
        cases e2
      | some p =>
        obtain ⟨r2, ρ2⟩ := p
        obtain ⟨ys, rfl⟩ := compD2_ok e3
        simp only [e3] at e2
        split at e2
        · rename_i hl
          cases e2
          exact ⟨ys, ρ2, rfl, rfl, rfl, hl⟩
        · cases e2
    subst er
    obtain ⟨S2, x2, kp2, nz2, nf2⟩ := S1.newF (o := .lst []) hL
    have kpx : ∀ {Z3 H2 F3}, Ext Z1 H1 (InF (fclr vs Fs1)) Z3 H2 F3 → Keeps Z1 Z3 H1 H2 := fun x => (S1.clear vs).keeps x
    let Pv : Nat → Hp → Prop := fun i H2 => ∃ Z3 Fs3 ρ3 acc as rest, Gr C L Z1 H1 (InF (fclr vs Fs1)) as Z3 Fs3 (clr vs ρ3) (wipe σ vs) H2 acc ∧ compD2 vs t c src1 vs1 t1 c1 m (ds.drop i) ρ3 = some (.ok rest, ρ2) ∧ ys = as ++ rest
    have x20 : Ext Z1 H1 (InF (fclr vs Fs1)) Z1 (upd H1 L (.lst [])) (fun a => InF (fclr vs Fs1) a ∨ a = L) := by
      obtain ⟨_, x2', _⟩ := (S1.clear vs).newF (o := .lst []) hL
      exact x2'.less fun a h => h.elim .inl fun e => .inr (by rw [e]; simp)
    refine loop_it hw (Body := fun Nx x H' => tTg C t x (wipe σ vs) H' fun σ2 H2 => wipe σ2 vs = wipe σ vs ∧ tT C W0 c σ2 H2 fun b H3 =>
        if b = true then tI C W0 src1 σ2 H3 fun J1 H4 => ∃ W1 : Nat → Nat → Hp → Prop, (∃ m, W1 0 m H4) ∧ ∀ j k H, W1 j k H →
          (J1.stop j H ∧ Nx H) ∨ (J1.go j H ∧ ∃ Nx1 : Hp → Prop, (∀ H', Nx1 H' → ∃ k', k' < k ∧ W1 (j + 1) k' H') ∧ ∀ x H', J1.yld j H x H' → tTg C t1 x (wipe σ2 vs1) H' fun σ3 H5 => wipe σ3 vs1 = wipe σ2 vs1 ∧ tT C W0 c1 σ3 H5 fun b H6 =>
            if b = true then tE C W0 m σ3 H6 fun y H7 => ∃ acc, H7 L = some (.lst acc) ∧ acc.length < sizeLine ∧ Nx1 (upd H7 L (.lst (acc ++ [y]))) else Nx1 H6)
        else Nx H3) Pv ⟨Z1, fclr vs Fs1, ρ1, [], [], ys, ⟨S2.clear vs, x20, upd_same, .nil, nz2, fun z => nf2 (inF_clr z)⟩, e3, rfl⟩ (fun i H2 _ ⟨Z3, Fs3, ρ3, acc, as, rest, g, _⟩ => hG Z3 H2 (kpx g.ext)) (fun i x H2 H3 hi ⟨Z3, Fs3, ρ3, acc, as, rest, g, h6, h7⟩ y => ?_) fun H2 ⟨Z3, Fs3, ρ3, acc, as, rest, g, h6, h7⟩ => ?_
    · -- a turn of the first
      obtain ⟨d, Z4, hd, x4, S4, rd⟩ := hY i H2 x H3 Z3 Fs3 _ _ hi y (kpx g.ext) g.sim
      rw [drop_cons hd] at h6
      have g4 := g.step x4 S4
      rcases bnd_inv (show bnd (clrM vs) _ ρ3 = some (.ok rest, ρ2) from h6) with ⟨_, ρ4, q1, q2⟩ | ⟨x, q1, q2⟩
      · cases q1
        rcases bnd_inv q2 with ⟨o, ρ5, q3, q4⟩ | ⟨x, q3, q4⟩
        · obtain ⟨q3, _⟩ := noX_inv q3
          rcases bnd_inv q4 with ⟨r5, ρ6, q5, q6⟩ | ⟨x, q5, q6⟩
          · cases q6
            rcases bnd_inv q3 with ⟨_, ρ7, g1, g2⟩ | ⟨x, g1, g2⟩
            · refine ⟨Z4, Fs3, _, d, ρ7, S4, rd, g1, fun σ8 Fs8 S8 f8 m8 => ⟨m8.wipe hv, ?_⟩⟩
              have g8 := g4.step ((Ext.refl Z4 H3 (InF Fs3)).less f8) S8
              refine tT_of S8 g2 (fun x q => by cases q) fun b ρ9 H9 Z9 Fs9 e9 x9 S9 => ?_
              have g9 := g8.step x9 S9
              cases b with
              | true =>
                rw [if_pos rfl] at e9 ⊢
                rcases bnd_inv e9 with ⟨ds1, ρa, ea, eb⟩ | ⟨x, ea, eb⟩
                · refine ⟨Z9, Fs9, ρ9, .ok ds1, ρa, S9, ea, fun J1 Ha Za Fsa xa Sa ya => ?_⟩
                  obtain ⟨G1, Y1, hw1, hG1, hY1⟩ := ya
                  have ga := (g9.step xa Sa).clear vs1
                  let Pw : Nat → Hp → Prop := fun j Hb => ∃ Zb Fsb ρb accb asb restb, Gr C L Z1 H1 (InF (fclr vs Fs1)) asb Zb Fsb (clr vs1 ρb) (wipe σ8 vs1) Hb accb ∧ Keeps Za Zb Ha Hb ∧ compD vs1 t1 c1 m (ds1.drop j) ρb = some (.ok restb, ρ5) ∧ ys = asb ++ (restb ++ r5)
                  refine loop_it hw1 (Body := fun Nx1 x H' => tTg C t1 x (wipe σ8 vs1) H' fun σ3 H5 => wipe σ3 vs1 = wipe σ8 vs1 ∧ tT C W0 c1 σ3 H5 fun b H6 =>
                      if b = true then tE C W0 m σ3 H6 fun y H7 => ∃ acc, H7 L = some (.lst acc) ∧ acc.length < sizeLine ∧ Nx1 (upd H7 L (.lst (acc ++ [y]))) else Nx1 H6) Pw
                    ⟨Za, _, ρa, acc, as, o, ga, Keeps.refl _ _, eb, h7⟩ (fun j Hb _ ⟨Zb, Fsb, ρb, accb, asb, restb, gb, kb, _⟩ => hG1 Zb Hb kb) (fun j x1 Hb Hc hj ⟨Zb, Fsb, ρb, accb, asb, restb, gb, kb, hb6, hb7⟩ y1 => ?_) fun Hb ⟨Zb, Fsb, ρb, accb, asb, restb, gb, kb, hb6, hb7⟩ => ?_
                  · -- a turn of the second
                    obtain ⟨d1, Zc, hd1, xc, Sc, rd1⟩ := hY1 j Hb x1 Hc Zb Fsb _ _ hj y1 kb gb.sim
                    rw [drop_cons hd1] at hb6
                    have gc := gb.step xc Sc
                    rcases bnd_inv (show bnd (clrM vs1) _ ρb = some (.ok restb, ρ5) from hb6) with ⟨_, _, p1, p2⟩ | ⟨x, p1, p2⟩
                    · cases p1
                      rcases bnd_inv p2 with ⟨o1, ρd, p3, p4⟩ | ⟨x, p3, p4⟩
                      · obtain ⟨p3, _⟩ := noX_inv p3
                        rcases bnd_inv p4 with ⟨rd5, ρe, p5, p6⟩ | ⟨x, p5, p6⟩
                        · cases p6
                          rcases bnd_inv (show bnd (asgT t1 d1) _ (clr vs1 ρb) = some (.ok o1, ρd) from p3) with ⟨_, ρf, u1, u2⟩ | ⟨x, u1, u2⟩
                          · refine ⟨Zc, Fsb, _, d1, ρf, Sc, rd1, u1, fun σ9 Fsd Sd fd md => ⟨md.wipe hv1, ?_⟩⟩
                            have gd := gc.step ((Ext.refl Zc Hc (InF Fsb)).less fd) Sd
                            refine tT_of Sd u2 (fun x q => by cases q) fun b1 ρg Hg Zg Fsg eg xg Sg => ?_
                            have gg := gd.step xg Sg
                            have kg : Keeps Za Zg Ha Hg := kb.trans (gb.sim.keeps ((xc.less fd).trans xg))
                            cases b1 with
                            | true =>
                              rw [if_pos rfl] at eg ⊢
                              refine tE_of Sg eg (fun x q => by cases q) fun z ρh v Hh Zh Fsh eh xh Sh rh => ?_
                              cases eh
                              have gh := gg.step xh Sh
                              have hlen : accb.length < sizeLine := by
                                have e1 := gb.rp.length
                                have e2 := congrArg List.length hb7
                                rw [sizeL, e1]
                                simp at e2
                                omega
                              refine ⟨accb, gh.at_, hlen, ?_⟩
                              have gi := (gh.app rh).clear vs1
                              rw [md.wipe hv1] at gi
                              refine ⟨Zh, _, _, _, asb ++ [z], rd5, gi, kg.trans (gg.sim.keeps xh |>.trans ?_), p5, ?_⟩
                              · exact (gh.sim.grow (acc' := accb ++ [v]) gh.at_ gh.nz gh.nf).2
                              · rw [hb7]; simp
                            | false =>
                              rw [if_neg Bool.false_ne_true] at eg ⊢
                              cases eg
                              have gi := gg.clear vs1
                              rw [md.wipe hv1] at gi
                              exact ⟨Zg, _, _, _, asb, rd5, gi, kg, p5, by rw [hb7]; simp⟩
                          · exact absurd u1 (asgT_err _ _ _ _ _)
                        · cases p6
                      · cases p4
                    · cases p1
                  · -- the second's end
                    rw [List.drop_length] at hb6
                    cases hb6
                    have gi := gb.clear vs
                    rw [wipe_wipe σ8 hvv, m8.wipe hv] at gi
                    refine ⟨Zb, _, ρ5, accb, asb, r5, gi.slots (fun j => ?_) (by rw [clr_length, clr_length, clr_length]), q5, by rw [hb7]; simp⟩
                    rw [slot_clr, slot_clr, slot_clr]
                    by_cases hj : j ∈ vs
                    · rw [if_pos hj, if_pos hj]
                    · rw [if_neg hj, if_neg hj, if_neg fun z => hj (hvv j z)]
                · cases eb
              | false =>
                rw [if_neg Bool.false_ne_true] at e9 ⊢
                cases e9
                have gi := g9.clear vs
                rw [m8.wipe hv] at gi
                exact ⟨Z9, _, _, acc, as, r5, gi, q5, by rw [h7]; rfl⟩
            · exact absurd g1 (asgT_err _ _ _ _ _)
          · cases q6
        · cases q4
      · cases q1
    · -- the end
      rw [List.drop_length] at h6
      cases h6
      rw [List.append_nil] at h7
      subst h7
      have S3 := g.sim
      have xb : Ext Z1 H1 (InF (fclr vs Fs1)) Z3 H2 (InF Fs3) := g.ext.less fun a h => .inl h
      obtain ⟨Sb, xb'⟩ := S1.back S3 xb fun j hj => by rw [slot_clr, if_pos hj]
      have hl : ρ1.length = ρ2.length := by
        have := S3.len
        rw [clr_length, wipe_length] at this
        rw [S1.len, this]
      have Sf := Sb.congr (ρ' := rst ρ1 vs ρ2) (fun j => by
        rw [slot_rst ρ1 ρ2 hl, slot_rst ρ1 (clr vs ρ2) (by rw [clr_length]; exact hl), slot_clr]
        by_cases hj : j ∈ vs
        · rw [if_pos hj, if_pos hj]
        · rw [if_neg hj, if_neg hj, if_neg hj]) (by rw [rst_length, rst_length, clr_length])
      refine k L acc H2 Z3 _ (x1.trans ?_) Sf g.nz ?_ g.at_ g.rp
      · refine ⟨xb'.keep, xb'.zz, xb'.znew, fun a h => ?_, xb'.thr⟩
        rcases h with h | h
        · exact xb'.fnew a h
        · have ea : a = L := by simpa using h
          subst ea
          exact .inr (NoO.of hL)
      · rintro ⟨j, hj⟩
        by_cases hm : j ∈ vs
        · simp only [if_pos hm] at hj; exact nf2 ⟨j, hj⟩
        · simp only [if_neg hm] at hj; exact g.nf ⟨j, hj⟩
  · subst e2
    exact ⟨Z, Fs, ρ, .error x, ρ', S, e1, k⟩
section
variable {X : Cx} {B : Bx} {W : WX} {elt tg iter tg1 iter1 : Expr} {ifs ifs1 : List Expr} {scope : Scope} {pos : Pos}
theorem sf_lc2 {own : List (Str × Nat)} {vs1 : List Nat} {t t1 : Tg} {src src1 : EM (List D)} {c c1 : EM Bool} {m : EM D} (hc : X.calm = true) (hN : X.N.Nodup) (hi : PI X tg iter (tI (fx X B) W src)) (ok : BlkOk X.N X.env.scope scope own) (hvv : ∀ i ∈ vs1, i ∈ own.map (·.2))
    (hg : ∀ (s : Shared) (H : Hp) (C : Addr) (cl : List (Str × Addr)) (fp : List Addr), PG (X.blk s H scope (compEnvC scope cl C X.env) fp) tg (tTg (fx X B) t)) (ht : ∀ (s : Shared) (H : Hp) (C : Addr) (cl : List (Str × Addr)) (fp : List Addr), PTs (X.blk s H scope (compEnvC scope cl C X.env) fp) ifs (tT (fx X B) W0 c))
    (hi1 : ∀ (s : Shared) (H : Hp) (C : Addr) (cl : List (Str × Addr)) (fp : List Addr), PI (X.blk s H scope (compEnvC scope cl C X.env) fp) tg1 iter1 (tI (fx X B) W0 src1))
    (hg1 : ∀ (s : Shared) (H : Hp) (C : Addr) (cl : List (Str × Addr)) (fp : List Addr), PG (X.blk s H scope (compEnvC scope cl C X.env) fp) tg1 (tTg (fx X B) t1)) (ht1 : ∀ (s : Shared) (H : Hp) (C : Addr) (cl : List (Str × Addr)) (fp : List Addr), PTs (X.blk s H scope (compEnvC scope cl C X.env) fp) ifs1 (tT (fx X B) W0 c1))
    (he : ∀ (s : Shared) (H : Hp) (C : Addr) (cl : List (Str × Addr)) (fp : List Addr), PE (X.blk s H scope (compEnvC scope cl C X.env) fp) elt (tE (fx X B) W0 m)) (hv : ∀ i ∈ tgS t, i ∈ own.map (·.2)) (hv1 : ∀ i ∈ tgS t1, i ∈ vs1)
    (hs : ∀ x, foldedSetIterable iter X.env x = pure x := by intro _; rfl) (hs1 : ∀ env x, foldedSetIterable iter1 env x = pure x := by intro _ _; rfl) :
    PE X (.ListComp elt [⟨tg, iter, ifs, 0⟩, ⟨tg1, iter1, ifs1, 0⟩] scope pos) (tF (fx X B) W (lcM2 (own.map (·.2)) t src c vs1 t1 src1 c1 m)) := PE_imp (pe_lc2 hc hN hi ok hvv hg ht hi1 hg1 ht1 he hs hs1) fun σ H Q h => tF_lc2 hv hv1 hvv σ H Q h
theorem ss_setLc2 {i : Nat} {y : Str} {py spos : Pos} {own : List (Str × Nat)} {vs1 : List Nat} {t t1 : Tg} {src src1 : EM (List D)} {c c1 : EM Bool} {m : EM D} (hc : X.calm = true) (hN : X.N.Nodup) (hy : X.N[i]? = some y) (hyl : X.env.scope.names.lookup y = some .local)
    (hsw : swapsWith (.ListComp elt [⟨tg, iter, ifs, 0⟩, ⟨tg1, iter1, ifs1, 0⟩] scope pos) (some (.Name y py)) spos.line X.env = pure true) (hi : PI X tg iter (tI (fx X B) W src)) (ok : BlkOk X.N X.env.scope scope own) (hvv : ∀ i ∈ vs1, i ∈ own.map (·.2))
    (hg : ∀ (s : Shared) (H : Hp) (C : Addr) (cl : List (Str × Addr)) (fp : List Addr), PG (X.blk s H scope (compEnvC scope cl C X.env) fp) tg (tTg (fx X B) t)) (ht : ∀ (s : Shared) (H : Hp) (C : Addr) (cl : List (Str × Addr)) (fp : List Addr), PTs (X.blk s H scope (compEnvC scope cl C X.env) fp) ifs (tT (fx X B) W0 c))
    (hi1 : ∀ (s : Shared) (H : Hp) (C : Addr) (cl : List (Str × Addr)) (fp : List Addr), PI (X.blk s H scope (compEnvC scope cl C X.env) fp) tg1 iter1 (tI (fx X B) W0 src1))
    (hg1 : ∀ (s : Shared) (H : Hp) (C : Addr) (cl : List (Str × Addr)) (fp : List Addr), PG (X.blk s H scope (compEnvC scope cl C X.env) fp) tg1 (tTg (fx X B) t1)) (ht1 : ∀ (s : Shared) (H : Hp) (C : Addr) (cl : List (Str × Addr)) (fp : List Addr), PTs (X.blk s H scope (compEnvC scope cl C X.env) fp) ifs1 (tT (fx X B) W0 c1))
    (he : ∀ (s : Shared) (H : Hp) (C : Addr) (cl : List (Str × Addr)) (fp : List Addr), PE (X.blk s H scope (compEnvC scope cl C X.env) fp) elt (tE (fx X B) W0 m)) (hv : ∀ i ∈ tgS t, i ∈ own.map (·.2)) (hv1 : ∀ i ∈ tgS t1, i ∈ vs1)
    (hs : ∀ x, foldedSetIterable iter X.env x = pure x := by intro _; rfl) (hs1 : ∀ env x, foldedSetIterable iter1 env x = pure x := by intro _ _; rfl) :
    PS X (.Assign [.Name y py] (.ListComp elt [⟨tg, iter, ifs, 0⟩, ⟨tg1, iter1, ifs1, 0⟩] scope pos) spos) (tS (fx X B) W (sSet i (gF (lcM2 (own.map (·.2)) t src c vs1 t1 src1 c1 m)))) := by
  refine PS_imp (ps_setLc2 hc hN hy hyl hsw hi ok hvv hg ht hi1 hg1 ht1 he hs hs1) fun D' σ H h => ?_
  have q := tS_set D' σ H h
  exact tF_lc2 hv hv1 hvv σ H _ (tF_tG σ H _ q)
end
end NH

/-! NhDict: dicts that are read: dict(pairs), d[k], {}. -/
namespace NH
open PySem Spec PyProof.Rows L2
open EM

/-! ### keys -/
def keyK : D → Option Key
  | .int i => some (.inl i)
  | .str x => some (.inr x)
  | _ => none
def keysK : List D → Option (List Key)
  | [] => some []
  | d :: ds => (keyK d).bind fun k => (keysK ds).map fun ks => k :: ks
def dkOf : D → Option (Key ⊕ List Key)
  | .tuple ds => if StrT ds = true then none else (keysK ds).map .inr
  | d => (keyK d).map .inl
theorem keyK_is {d : D} {k : Key} (h : keyK d = some k) : d = keyD k := by
  cases d with
  | int i => cases h; rfl
  | str i => cases h; rfl
  | _ => cases h
theorem keyK_of (k : Key) : keyK (keyD k) = some k := by
  cases k <;> rfl
theorem keysK_is : ∀ {ds : List D} {ks : List Key}, keysK ds = some ks → ds = ks.map keyD
  | [], ks, h => by cases h; rfl
  | d :: ds, ks, h => by
    unfold keysK at h
    rw [Option.bind_eq_some_iff] at h
    obtain ⟨k, h1, h⟩ := h
    rw [Option.map_eq_some_iff] at h
    obtain ⟨ks', h2, rfl⟩ := h
    rw [keyK_is h1, keysK_is h2]; rfl
theorem keysK_of : ∀ ks : List Key, keysK (ks.map keyD) = some ks
  | [] => rfl
  | k :: ks => by
    show (keyK (keyD k)).bind _ = _
    rw [keyK_of, keysK_of ks]; rfl
def findD (q : Key ⊕ List Key) : List (D × D) → Option D
  | [] => none
  | p :: r => if dkOf p.1 = some q then some p.2 else findD q r
def putD (q : Key ⊕ List Key) (d v : D) : List (D × D) → List (D × D)
  | [] => [(d, v)]
  | p :: r => if dkOf p.1 = some q then (p.1, v) :: r else p :: putD q d v r
def dgetD (d k : D) : Option D := match d with
  | .dict kvs => (dkOf k).bind fun q => findD q kvs
  | _ => none
def dhasD (k d : D) : Option D := match d with
  | .dict kvs => (dkOf k).map fun q => .bool (findD q kvs).isSome
  | _ => none
def dhasNotD (k d : D) : Option D := match d with
  | .dict kvs => (dkOf k).map fun q => .bool (!(findD q kvs).isSome)
  | _ => none
section
variable {C : Fix} {K : PySem.W.Frag} {Z : AP'} {H : Hp}
theorem Rp.keyV {v : V} {k : Key} (h : Rp K Z H v (keyD k)) : v = kV k := by
  cases k with
  | inl i => cases (show Rp K Z H v (.int i) from h); rfl
  | inr x => cases (show Rp K Z H v (.str x) from h); rfl
theorem RpAll.keysV : ∀ {ks : List Key} {vs : List V}, RpAll K Z H vs (ks.map keyD) → vs = ks.map kV
  | [], _, h => by cases h; rfl
  | k :: ks, _, h => by
    cases h with
    | cons r t => rw [r.keyV, RpAll.keysV (ks := ks) t]; rfl
/-- a key that is reckoned -/
theorem Rp.isKey {v : V} {d : D} {q : Key ⊕ List Key} (h : Rp K Z H v d) (e : dkOf d = some q) : (∃ k, q = .inl k ∧ d = keyD k ∧ v = kV k) ∨ ∃ ks b, q = .inr ks ∧ d = .tuple (ks.map keyD) ∧ v = .ref b ∧ H b = some (.tup (ks.map kV)) := by
  have other : ∀ k, keyK d = some k → q = .inl k → (∃ k, q = .inl k ∧ d = keyD k ∧ v = kV k) ∨ ∃ ks b, q = .inr ks ∧ d = .tuple (ks.map keyD) ∧ v = .ref b ∧ H b = some (.tup (ks.map kV)) := fun k e1 e2 => by
    have e3 := keyK_is e1
    subst e3
    exact .inl ⟨k, e2, rfl, h.keyV⟩
  cases d with
  | tuple ds =>
    have e' : (if StrT ds = true then none else (keysK ds).map Sum.inr) = some q := e
    by_cases hs : StrT ds = true
    · rw [if_pos hs] at e'; cases e'
    · rw [if_neg hs, Option.map_eq_some_iff] at e'
      obtain ⟨ks, e1, rfl⟩ := e'
      have e2 := keysK_is e1
      subst e2
      cases h with
      | tup h1 h2 =>
        unfold TpR at h1
        rw [if_neg hs] at h1
        rw [h2.keysV] at h1
        exact .inr ⟨ks, _, rfl, rfl, rfl, h1⟩
  | int i => cases e; exact other _ rfl rfl
  | str i => cases e; exact other _ rfl rfl
  | _ => cases e
/-- what stands at a key -/
theorem find_k {k : Key} : ∀ {kvs : List (Key × V)} {ps : List (D × D)}, (kvs.map fun p => (keyD p.1, p.2)).map (·.1) = ps.map (·.1) → RpAll K Z H ((kvs.map fun p => (keyD p.1, p.2)).map (·.2)) (ps.map (·.2)) →
    match findD (.inl k) ps with
    | some d => ∃ v, valV kvs k = some v ∧ Rp K Z H v d
    | none => valV kvs k = none
  | [], [], _, _ => rfl
  | [], _ :: _, e, _ => by simp at e
  | _ :: _, [], e, _ => by simp at e
  | (k1, v1) :: kvs, (d1, d2) :: ps, e, r => by
    simp only [List.map_cons, List.cons.injEq] at e
    obtain ⟨e1, e2⟩ := e
    cases r with
    | cons r1 r2 =>
      have ih := find_k (k := k) (kvs := kvs) (ps := ps) e2 r2
      have ed : dkOf d1 = some (.inl k1) := by rw [← e1]; cases k1 <;> rfl
      unfold findD
      rw [ed]
      by_cases hk : k1 = k
      · subst hk
        rw [if_pos rfl]
        exact ⟨v1, valV_pos rfl, r1⟩
      · rw [if_neg (fun z => hk (by injection z with z; injection z)), valV_neg hk]
        exact ih
theorem find_t {k : List Key} (hk0 : StrT (k.map keyD) = false) : ∀ {kvs : List (List Key × V)} {ps : List (D × D)}, (kvs.map fun p => ((PyData.tuple (p.1.map keyD)), p.2)).map (·.1) = ps.map (·.1) → RpAll K Z H ((kvs.map fun p => ((PyData.tuple (p.1.map keyD)), p.2)).map (·.2)) (ps.map (·.2)) →
    match findD (.inr k) ps with
    | some d => ∃ v, valV kvs k = some v ∧ Rp K Z H v d
    | none => valV kvs k = none
  | [], [], _, _ => rfl
  | [], _ :: _, e, _ => by simp at e
  | _ :: _, [], e, _ => by simp at e
  | (k1, v1) :: kvs, (d1, d2) :: ps, e, r => by
    simp only [List.map_cons, List.cons.injEq] at e
    obtain ⟨e1, e2⟩ := e
    cases r with
    | cons r1 r2 =>
      have ih := find_t hk0 (kvs := kvs) (ps := ps) e2 r2
      have ed : dkOf d1 = if StrT (k1.map keyD) = true then none else some (.inr k1) := by
        rw [← e1]
        show (if StrT (k1.map keyD) = true then none else (keysK (k1.map keyD)).map Sum.inr) = _
        rw [keysK_of]; rfl
      unfold findD
      rw [ed]
      by_cases hk : k1 = k
      · subst hk
        rw [hk0, if_neg Bool.false_ne_true, if_pos rfl]
        exact ⟨v1, valV_pos rfl, r1⟩
      · have hn : ¬ (if StrT (k1.map keyD) = true then none else some (Sum.inr k1)) = some (Sum.inr k : Key ⊕ List Key) := fun z => by
          split at z
          · cases z
          · injection z with z
            injection z with z
            exact hk z
        rw [if_neg hn, valV_neg hk]
        exact ih
/-- none of the other kind -/
theorem find_kt {k : List Key} : ∀ {kvs : List (Key × V)} {ps : List (D × D)}, (kvs.map fun p => (keyD p.1, p.2)).map (·.1) = ps.map (·.1) → findD (.inr k) ps = none
  | [], [], _ => rfl
  | [], _ :: _, e => by simp at e
  | _ :: _, [], e => by simp at e
  | (k1, v1) :: kvs, (d1, d2) :: ps, e => by
    simp only [List.map_cons, List.cons.injEq] at e
    obtain ⟨e1, e2⟩ := e
    have ed : dkOf d1 = some (.inl k1) := by rw [← e1]; cases k1 <;> rfl
    unfold findD
    rw [ed, if_neg (fun z => by injection z with z; injection z)]
    exact find_kt e2
theorem find_tk {k : Key} : ∀ {kvs : List (List Key × V)} {ps : List (D × D)}, (kvs.map fun p => ((PyData.tuple (p.1.map keyD)), p.2)).map (·.1) = ps.map (·.1) → findD (.inl k) ps = none
  | [], [], _ => rfl
  | [], _ :: _, e => by simp at e
  | _ :: _, [], e => by simp at e
  | (k1, v1) :: kvs, (d1, d2) :: ps, e => by
    simp only [List.map_cons, List.cons.injEq] at e
    obtain ⟨e1, e2⟩ := e
    have ed : dkOf d1 = if StrT (k1.map keyD) = true then none else some (.inr k1) := by
      rw [← e1]
      show (if StrT (k1.map keyD) = true then none else (keysK (k1.map keyD)).map Sum.inr) = _
      rw [keysK_of]; rfl
    have hn : ¬ (if StrT (k1.map keyD) = true then none else some (Sum.inr k1)) = some (Sum.inl k : Key ⊕ List Key) := fun z => by
      split at z
      · cases z
      · injection z with z
        injection z
    unfold findD
    rw [ed, if_neg hn]
    exact find_tk e2
end
/-- d[k] by values -/
def rDGet : R2 := fun x y H Q => ∃ a v, x = .ref a ∧ DGet H a y (some v) ∧ Q v H
theorem od_dget {C : Fix} : OpD C rDGet dgetD := by
  intro Z Fs ρ σ H x y d e z Q S rx ry h k
  unfold dgetD at h
  split at h
  · rename_i kvs
    rw [Option.bind_eq_some_iff] at h
    obtain ⟨q, hq, hf⟩ := h
    obtain ⟨a, o, es, rfl, ho, hd, he, hr⟩ := rx
    have ry' : Rp C.K Z H y e := by
      cases e with
      | list ds => cases hq
      | dict ds => cases hq
      | _ => exact ry
    cases hd with
    | k l =>
      rcases ry'.isKey hq with ⟨k1, rfl, rfl, rfl⟩ | ⟨ks, b, rfl, rfl, rfl, hb⟩
      · have f := find_k (k := k1) he hr
        rw [hf] at f
        obtain ⟨v, h1, h2⟩ := f
        exact ⟨a, v, rfl, .inl ⟨l, k1, .of ho, rfl, h1.symm⟩, fin0 S h2 k⟩
      · rw [find_kt he] at hf; cases hf
    | t l =>
      rcases ry'.isKey hq with ⟨k1, rfl, rfl, rfl⟩ | ⟨ks, b, rfl, rfl, rfl, hb⟩
      · rw [find_tk he] at hf; cases hf
      · have hs : StrT (ks.map keyD) = false := by
          have z : (if StrT (ks.map keyD) = true then none else (keysK (ks.map keyD)).map Sum.inr) = some (Sum.inr ks : Key ⊕ List Key) := hq
          by_cases n : StrT (ks.map keyD) = true
          · rw [if_pos n] at z; cases z
          · simpa using n
        have f := find_t (k := ks) hs he hr
        rw [hf] at f
        obtain ⟨v, h1, h2⟩ := f
        exact ⟨a, v, rfl, .inr ⟨l, ks, b, .of ho, rfl, hb, h1.symm⟩, fin0 S h2 k⟩
  · cases h
section
variable {X : Cx} {B : Bx} {W : WX} {a b e : Expr} {pos p : Pos} {o1 o2 : Opd}
theorem se_dget (hu : X.A.units + 1 < cLine) (ha : PE X a (tO (fx X B) W o1)) (hb : PE X b (tO (fx X B) W o2)) (hs : NoSl b := by exact fun _ _ => rfl) : PE X (.Subscript a b pos) (tE (fx X B) W (bin o1 o2 dgetD)) :=
  PE_imp (pe_dget hu ha hb hs) fun σ H Q t => tE_bin (r := rDGet) od_dget σ H Q t
/-- {} -/
theorem se_dnew : PE X (.Dict [] [] pos) (tE (fx X B) W (lit (.dict []))) := by
  refine PE_imp pe_dnewK fun σ H Q t => ?_
  obtain ⟨Z, Fs, ρ, r, ρ', S, e, k⟩ := t
  unfold lit EM.ret at e
  cases e
  intro p hp
  obtain ⟨S', x', kp⟩ := S.new (o := .dK []) hp (fun ps => by intro z; cases z)
  exact k _ _ _ Fs x' S' (.dct ⟨.inr rfl, _, upd_same, .k []⟩ rfl .nil)
end
/-! ### dict(pairs), the keys tuples -/
def mergeT (kvs more : List (List Key × V)) : List (List Key × V) := more.foldl (fun acc kv => putK acc kv.1 kv.2) kvs
theorem length_mergeT : ∀ (more kvs : List (List Key × V)), (mergeT kvs more).length ≤ kvs.length + more.length
  | [], kvs => Nat.le_refl _
  | p :: r, kvs => by
    have h1 := length_mergeT r (putK kvs p.1 p.2)
    have h2 := length_putK kvs p.1 p.2
    show (mergeT (putK kvs p.1 p.2) r).length ≤ _
    rw [List.length_cons]; omega
theorem KT.merge {H : Hp} : ∀ {more : List (List Key × V)} {ps : List (List Key × Addr × Value)} {kvs : List (List Key × V)} {xs : List (List Key × Addr × Value)}, KT H more ps → KT H kvs xs → KT H (mergeT kvs more) (storedAllH xs ps) := by
  intro more ps kvs xs r
  induction r generalizing kvs xs with
  | nil => intro q; exact q
  | @cons p q l m h t ih =>
    intro r0
    obtain ⟨h1, h2, h3⟩ := h
    have e : KT H (putK kvs p.1 p.2) (storedH xs q.1 q.2.1 q.2.2) := by
      have := r0.put p.1 h2 h3
      rw [← h1]; exact this
    exact ih e
def rDictT (K : PySem.W.Frag) : List V → Hp → VK → Prop := fun xs H Q => ∃ (a : Addr) (ps : List Addr) (ks : List (List Key × Addr × V)), xs = [.ref a] ∧ SqL K H a (ps.map V.ref) ∧ Paired (fun p q => SqT K H p [.ref q.2.1, q.2.2] ∧ H q.2.1 = some (.tup (q.1.map kV))) ps ks ∧
  ∀ p, H p = none → Q (.ref p) (upd H p (.dT (mergeT [] (ks.map fun q => (q.1, q.2.2)))))
section
variable {X : Cx}
theorem pairs_ofT {pins : List (Addr × Obj)} {σ : L2.St} {H : Hp} {s : Shared} (I : Inv X pins σ H s) : ∀ {ps : List Addr} {ks : List (List Key × Addr × V)}, Paired (fun p q => SqT X.K H p [.ref q.2.1, q.2.2] ∧ H q.2.1 = some (.tup (q.1.map kV))) ps ks →
    ∃ prs : List (List Key × Addr × Value), KT H (ks.map fun q => (q.1, q.2.2)) prs ∧ prs.length = ps.length ∧ ∀ (j : Nat) (q : List Key × Addr × Value), prs[j]? = some q → ∃ b : Addr, ps[j]? = some b ∧ IsTup s.heap b #[.ref q.2.1, q.2.2]
  | _, _, .nil => ⟨[], .nil, rfl, fun j q e => by simp at e⟩
  | _, _, .cons (a := p) (b := kv) h t => by
    obtain ⟨prs, r, hl, hp⟩ := pairs_ofT I t
    obtain ⟨h, hk⟩ := h
    obtain ⟨its, rv, ht, _⟩ := I.tuple h
    obtain ⟨u, y, ei, ru, ry⟩ := vals2 rv
    subst ei
    cases ru
    refine ⟨(kv.1, kv.2.1, y) :: prs, .cons ⟨rfl, hk, ry⟩ r, by rw [List.length_cons, List.length_cons, hl], fun j q e => ?_⟩
    cases j with
    | zero =>
      have e' : (kv.1, kv.2.1, y) = q := Option.some.inj e
      subst e'
      exact ⟨p, rfl, ht⟩
    | succ j =>
      obtain ⟨b, e1, e2⟩ := hp j q (by simpa using e)
      exact ⟨b, by simpa using e1, e2⟩
theorem call_dictTP (hcalm : X.calm = true) (hu : X.A.units + 2 < cLine) : CallR X (.type "dict") (rDictT X.K) := by
  intro pins s σ H xs us Q I r q
  obtain ⟨a, ps, ks, rfl, hq, hp, q⟩ := q
  obtain ⟨u, rfl, rx⟩ := vals1 r
  cases rx
  obtain ⟨its, rv, pl, hz⟩ := I.list hq
  have ei := refs_at rv
  subst ei
  rw [List.length_map] at hz
  obtain ⟨prs, rel, hl, hpr⟩ := pairs_ofT I hp
  obtain ⟨o, n, ho, hc, hd, hdat⟩ := pl
  have keyHok : ∀ x ∈ prs, ∃ b, H x.2.1 = some (.tup b) ∧ b = x.1.map kV := by
    have all : ∀ {l : List (List Key × V)} {m : List (List Key × Addr × Value)}, KT H l m → ∀ x ∈ m, ∃ b, H x.2.1 = some (.tup b) ∧ b = x.1.map kV := by
      intro l m q
      induction q with
      | nil => intro x hx; exact nomatch hx
      | @cons p q ps qs hq t ih =>
        intro x hx
        rcases List.mem_cons.mp hx with e | hx
        · subst e; exact ⟨_, hq.2.1, by rw [hq.1]⟩
        · exact ih x hx
    exact all rel
  have hm : (s.heap.objs.size == sysModules) = false := beq_eq_false_iff_ne.mpr (Nat.ne_of_gt I.big)
  let pv : List (Value × Value) := prs.map fun q => (.ref q.2.1, q.2.2)
  refine call_dict_pairsH (prog := X.prog) (w := X.w) (knd := tupleKind (mixKind X.prog X.w)) (ps := prs) (PairArg.list a (ps.map Value.ref).toArray (fun j => ps.getD j 0) pv) (I.ok.hd hcalm) ?_ ⟨⟨o, n, ho, hc, hd, hdat⟩, ?_, fun j k v hj => ?_⟩ ⟨by simp [pv], fun i key v hr => ?_⟩ (fun h2 hk x hx => ?_) ?_ fun h2 tk hd2 hk => ?_
  · show X.A.units + 1 + 1 < cLine
    omega
  · simp [pv, hl]
  · have hj' : (prs[j]?).map (fun q => (Value.ref q.2.1, q.2.2)) = some (k, v) := by rw [← List.getElem?_map]; exact hj
    rw [Option.map_eq_some_iff] at hj'
    obtain ⟨q, e1, e2⟩ := hj'
    cases e2
    obtain ⟨b, e3, e4⟩ := hpr j q e1
    have eb : ps.getD j 0 = b := by rw [List.getD_eq_getElem?_getD, e3]; rfl
    have e5 : (fun j => ps.getD j 0) j = b := eb
    exact ⟨by rw [e5]; simp [e3], .inl (by rw [e5]; exact e4)⟩
  · have hj' : (prs[i]?).map (fun q => (Value.ref q.2.1, q.2.2)) = some (key, v) := by rw [← List.getElem?_map]; exact hr
    rw [Option.map_eq_some_iff] at hj'
    obtain ⟨q, e1, e2⟩ := hj'
    cases e2
    exact ⟨q.1, q.2.1, e1, rfl⟩
  · obtain ⟨b, hb, eb⟩ := keyHok x hx
    subst eb
    obtain ⟨_, its2, r2, o2, g1, g2, n2, g3⟩ := (show ObjOk X.prog X.w H s.heap x.2.1 (.tup (x.1.map kV)) from I.hok _ _ hb)
    exact ⟨o2, its2.toArray, n2, hk _ _ (Nat.ne_of_lt (Heap.lt_size g1)) (by simp) g1, g2, g3, by simpa using items_are r2⟩
  · simp only [pv, List.length_map]
    rw [hl]; exact hz
  · have kp : ∀ b o, s.heap.get? b = some o → h2.get? b = some o := fun b o e => hk b o (by simp) e
    have hlen : (mergeT [] (ks.map fun q => (q.1, q.2.2))).length ≤ sizeLine := by
      refine Nat.le_trans (length_mergeT _ []) ?_
      rw [List.length_nil, Nat.zero_add, rel.length, hl]
      exact hz
    obtain ⟨o3, es, ep, k1, k2, k3, k4, k5, k6⟩ := hd2
    have km : KT H (mergeT [] (ks.map fun q => (q.1, q.2.2))) (storedAllH [] prs) := KT.merge rel .nil
    have nf : H s.heap.objs.size = none := I.hok.fresh (Nat.le_refl _)
    refine ⟨.ref s.heap.objs.size, _, I.laid (t' := tk) (o := .dT (mergeT [] (ks.map fun q => (q.1, q.2.2)))) kp (Nat.le_refl _) ⟨hlen, hm, storedAllH [] prs, KT.keeps km fun b ys e => ?_, o3, es, ep, k1, k2, k3, k4, k6⟩, rfl, q _ nf⟩
    rw [upd_ne (ne_of_none e nf)]
    exact e
end
/-! ### dict(pairs) -/
def pairKT : D → Option (List Key × D)
  | .tuple [.tuple ks, v] => if StrT ks = true then none else (keysK ks).map fun k => (k, v)
  | _ => none
def pairsKT : List D → Option (List (List Key × D))
  | [] => some []
  | d :: ds => (pairKT d).bind fun p => (pairsKT ds).map fun r => p :: r
def putT (kvs : List (List Key × D)) (k : List Key) (v : D) : List (List Key × D) :=
  if (kvs.any fun kv => decide (kv.1 = k)) = true then kvs.map (fun kv => if kv.1 = k then (kv.1, v) else kv) else kvs ++ [(k, v)]
def dictPT : D → Option D
  | .list ds => (pairsKT ds).map fun l => .dict ((l.foldl (fun acc kv => putT acc kv.1 kv.2) []).map fun p => (.tuple (p.1.map keyD), p.2))
  | _ => none
section
variable {K : PySem.W.Frag} {Z : AP'} {H : Hp}
/-- tables of the same keys -/
abbrev SameT (K : PySem.W.Frag) (Z : AP') (H : Hp) : List (List Key × V) → List (List Key × D) → Prop := Paired fun p q => p.1 = q.1 ∧ Rp K Z H p.2 q.2
theorem SameT.any {l : List (List Key × V)} {m : List (List Key × D)} (r : SameT K Z H l m) (k : List Key) : (l.any fun kv => decide (kv.1 = k)) = m.any fun kv => decide (kv.1 = k) := by
  induction r with
  | nil => rfl
  | cons h t ih => rw [List.any_cons, List.any_cons, ih, h.1]
theorem SameT.repl {l : List (List Key × V)} {m : List (List Key × D)} (r : SameT K Z H l m) (k : List Key) {v : V} {d : D} (h : Rp K Z H v d) : SameT K Z H (l.map fun kv => if kv.1 = k then (kv.1, v) else kv) (m.map fun kv => if kv.1 = k then (kv.1, d) else kv) := by
  induction r with
  | nil => exact .nil
  | @cons p q ps qs g t ih =>
    rw [List.map_cons, List.map_cons]
    refine .cons ?_ ih
    by_cases e : p.1 = k
    · rw [if_pos e, if_pos (g.1.symm.trans e)]; exact ⟨g.1, h⟩
    · rw [if_neg e, if_neg (fun z => e (g.1.trans z))]; exact g
theorem SameT.put {l : List (List Key × V)} {m : List (List Key × D)} (r : SameT K Z H l m) (k : List Key) {v : V} {d : D} (h : Rp K Z H v d) : SameT K Z H (putK l k v) (putT m k d) := by
  unfold putK putT
  rw [r.any k]
  split
  · exact r.repl k h
  · exact Paired.snoc r ⟨rfl, h⟩
theorem SameT.merge : ∀ {l : List (List Key × V)} {m : List (List Key × D)} {l0 : List (List Key × V)} {m0 : List (List Key × D)}, SameT K Z H l m → SameT K Z H l0 m0 → SameT K Z H (mergeT l0 l) (m.foldl (fun acc kv => putT acc kv.1 kv.2) m0) := by
  intro l m l0 m0 r
  induction r generalizing l0 m0 with
  | nil => intro q; exact q
  | @cons p q ps qs g t ih =>
    intro r0
    have e : SameT K Z H (putK l0 p.1 p.2) (putT m0 q.1 q.2) := by
      have := r0.put p.1 g.2
      rw [← g.1]; exact this
    exact ih e
theorem SameT.keys {l : List (List Key × V)} {m : List (List Key × D)} (r : SameT K Z H l m) : (l.map fun p => ((PyData.tuple (p.1.map keyD)), p.2)).map (·.1) = (m.map fun p => ((PyData.tuple (p.1.map keyD)), p.2)).map (·.1) ∧
    RpAll K Z H ((l.map fun p => ((PyData.tuple (p.1.map keyD)), p.2)).map (·.2)) ((m.map fun p => ((PyData.tuple (p.1.map keyD)), p.2)).map (·.2)) := by
  induction r with
  | nil => exact ⟨rfl, .nil⟩
  | @cons p q ps qs g t ih =>
    refine ⟨?_, .cons g.2 ih.2⟩
    simp only [List.map_cons]
    rw [g.1]
    exact congrArg _ ih.1
/-- the pairs, one after the other -/
theorem pairs_are : ∀ {ds : List D} {xs : List V} {l : List (List Key × D)}, RpAll K Z H xs ds → pairsKT ds = some l →
    ∃ (ps : List Addr) (ks : List (List Key × Addr × V)), xs = ps.map V.ref ∧ Paired (fun p q => SqT K H p [.ref q.2.1, q.2.2] ∧ H q.2.1 = some (.tup (q.1.map kV))) ps ks ∧ SameT K Z H (ks.map fun q => (q.1, q.2.2)) l
  | [], _, _, r, h => by
    cases r; cases h
    exact ⟨[], [], rfl, .nil, .nil⟩
  | d :: ds, _, l, r, h => by
    cases r with
    | cons r1 r2 =>
      unfold pairsKT at h
      rw [Option.bind_eq_some_iff] at h
      obtain ⟨p, h1, h⟩ := h
      rw [Option.map_eq_some_iff] at h
      obtain ⟨l', h2, rfl⟩ := h
      obtain ⟨ps, ks, e1, q1, q2⟩ := pairs_are r2 h2
      unfold pairKT at h1
      split at h1
      · rename_i kd v
        split at h1
        · cases h1
        · rename_i hs
          rw [Option.map_eq_some_iff] at h1
          obtain ⟨k, g1, rfl⟩ := h1
          have g2 := keysK_is g1
          subst g2
          cases r1 with
          | @tup a xs _ t1 t2 =>
            cases t2 with
            | cons u1 u2 =>
              cases u2 with
              | cons w1 w2 =>
                cases w2
                cases u1 with
                | @tup b ys _ t3 t4 =>
                  unfold TpR at t3
                  rw [if_neg hs, t4.keysV] at t3
                  refine ⟨a :: ps, (k, b, _) :: ks, by rw [e1]; rfl, .cons ⟨TpR.sq t1, t3⟩ q1, .cons ⟨rfl, w1⟩ q2⟩
      · cases h1
end
theorem bt_dict : bootBuiltins "dict" = some (.type "dict") := by decide +kernel
theorem ud_dict {C : Fix} : UnD C (r1 (rDictT C.K)) dictPT := by
  intro Z Fs ρ σ H x d z Q S rx h k
  unfold dictPT at h
  split at h
  · rename_i ds
    rw [Option.map_eq_some_iff] at h
    obtain ⟨l, h1, rfl⟩ := h
    obtain ⟨a, xs, rfl, ha, hr⟩ := rx
    obtain ⟨ps, ks, rfl, q1, q2⟩ := pairs_are hr h1
    refine ⟨a, ps, ks, rfl, .of ha, q1, fun p hp => ?_⟩
    obtain ⟨S', x', kp⟩ := S.new (o := .dT (mergeT [] (ks.map fun q => (q.1, q.2.2)))) hp (fun ps => by intro z; cases z)
    have st : SameT C.K Z H (mergeT [] (ks.map fun q => (q.1, q.2.2))) (l.foldl (fun acc kv => putT acc kv.1 kv.2) []) := SameT.merge q2 .nil
    obtain ⟨e1, e2⟩ := st.keys
    exact k _ _ _ x' S' (.dct ⟨.inr rfl, _, upd_same, .t _⟩ e1 (RpAll.keep kp _ _ e2))
  · cases h
section
variable {X : Cx} {B : Bx} {W : WX} {a : Expr} {pos p : Pos} {o : Opd}
theorem se_dictc (hc : X.calm = true) (hu : X.A.units + 2 < cLine) (hg : Gl X "dict") (hm : X.mg "dict" = none) (ha : PE X a (tO (fx X B) W o)) (he : starEach [a] X.env = (false, eval a X.env) :: starEach [] X.env := by rfl) (hpl : (backTo pos (starEach [] X.env)).any (·.1) = false := by rfl) :
    PE X (.Call (.Name "dict" p) [a] [] pos) (tE (fx X B) W (un1 o dictPT)) := se_callT1 (call_dictTP hc hu) hg hm bt_dict ud_dict ha (by decide) (by decide) he hpl
end
end NH

/-! NhTry: own errors are raised and caught: several clauses 'except E as n'. -/
namespace NH
open PySem Spec PyProof.Rows L2
open EM

/-! ### several clauses, each with its name; what none of them names does not come -/
abbrev ClA := Value × Nat × (Addr → Value → Option Addr → TS)
def wAll (K : PySem.W.Frag) (D : Ends) : List ClA → WX
  | [] => fun _ _ _ _ => False
  | (c, i, ts) :: r => fun cls d σ H => ∃ b, PySem.W.exmOne K cls c = some b ∧ (b = false → wAll K D r cls d σ H) ∧
      (b = true → ∀ a, H a = none → i < σ.length → ts a cls d { nx := fun σ' H' => D.nx (σ'.set i none) H', rt := D.rt, bk := fun σ' H' => D.bk (σ'.set i none) H', ct := fun σ' H' => D.ct (σ'.set i none) H' } (σ.set i (some (.ref a))) H)
inductive ClsA (X : Cx) : List ExceptHandler → List ClA → Prop
  | nil : ClsA X [] []
  | cons {x n : Str} {c : Value} {i : Nat} {ts : Addr → Value → Option Addr → TS} {b0 : Stmt} {su : List Stmt} {np ps : Pos} {hds : List ExceptHandler} {l : List ClA} (nam : Names X x c) (at_ : X.N[i]? = some n) (loc : X.env.kindOf n = some .local)
      (run : ∀ (a : Addr) (oe : Obj) (cls : Value) (d : Option Addr) (pn : List (Addr × Obj)), Zc cls d oe → (∃ vs, oe.data = .fields vs) → PSs (X.suite a ((a, oe) :: pn)) (b0 :: su) (ts a cls d)) (r : ClsA X hds l) :
      ClsA X (.ExceptHandler (some (.Name x np)) (some n) (b0 :: su) ps :: hds) ((c, i, ts) :: l)
section
variable {X : Cx} {body : List Stmt} {h0 : ExceptHandler} {hds : List ExceptHandler} {l : List ClA} {pos : Pos} {tb : WX → TS}
theorem ps_try_all (stk : X.stack = X.env :: X.outer) (own : X.env.frame = some X.env.locals) (nd : X.N.Nodup)
    (hb : ∀ (W : WX) (pn : List (Addr × Obj)) (xe : Value → Shared → Prop), Takes (X.tr pn xe) W → PassesOwn (model X.prog X.w) X.A X.env xe → PSs (X.tr pn xe) body (tb W))
    (hh : ClsA X (h0 :: hds) l) : PS X (.Try body (h0 :: hds) [] [] pos) (fun D σ H => tb (wAll X.K D l) D σ H) := by
  refine ⟨fun pins s σ H D I h => ?_⟩
  have good := I.ok
  have frm : X.A.frames = some (X.env :: X.outer) := by rw [good.frames, stk]
  let W1 : WX := wAll X.K D l
  let xe1 : Value → Shared → Prop := fun e s1 => wpAny (model X.prog X.w) X.A (noteFrame e X.env) (fun _ s2 => wpAny (model X.prog X.w) X.A (setFlight e none) (fun _ s3 => wpAny (model X.prog X.w) X.A (handleBy e X.env (h0 :: hds)) (SP X pins D) X.xe s3) X.xe s2) X.xe s1
  have catch_ : Takes (X.tr (X.pn ++ pins) xe1) W1 := by
    intro u s' xx
    obtain ⟨a, B, sI, pins', σ', H', cls, d, rfl, J', nb, up, sky, na, os, ag, w⟩ := xx
    have J : Inv X pins σ' H' sI := J'.ofTry good
    have sky2 : Sky B (X.env :: X.outer) a (Zc cls d) X.env.locals s'.heap := by rw [← stk]; exact sky
    show wpAny (model X.prog X.w) X.A (noteFrame (.ref a) X.env) _ _ _
    refine Sky.land Zc.steady frm own sky2 fun h3 fl3 up3 => ?_
    have J3 : Inv X pins σ' H' { s' with heap := h3 } := J.landed nb fl3.1 (up.trans up3) os ag
    obtain ⟨oe3, vs3, he3, hz3, hd3⟩ := fl3.there
    have nfr : a ∉ frs (X.env :: X.outer) := fun hm => by
      obtain ⟨_, o2, e2, n2⟩ := fl3.2.2.1.mem hm
      rw [he3] at e2; cases e2
      exact n2 _ hd3
    have nL : a ≠ X.env.locals := fun z => nfr (List.mem_filterMap.mpr ⟨X.env, List.mem_cons_self, by rw [own, z]⟩)
    have nF : a ∉ X.fs := fun hm => by
      obtain ⟨e, he, q⟩ := List.mem_filterMap.mp hm
      exact nfr (List.mem_filterMap.mpr ⟨e, List.mem_cons_of_mem _ he, q⟩)
    have S3 := J3.suite he3 hd3 na nL nF
    have go : ∀ {hs2 : List ExceptHandler} {l2 : List ClA}, ClsA X hs2 l2 → wAll X.K D l2 cls d σ' H' → wpAny (model X.prog X.w) X.A (handleBy (.ref a) X.env hs2) (SP X pins D) X.xe { s' with heap := h3 } := by
      intro hs2 l2 hk
      induction hk with
      | nil => intro w; exact w.elim
      | @cons x n c i ts b0 su np ps hs3 l3 nam at_ loc run r ih =>
        intro w
        obtain ⟨b, hb1, hno, hyes⟩ := w
        refine wpAny_handleBy_cons (codeAny_handlers_test ?_) (by intro q; cases q)
        have LT : PySem.W.Looks (model X.prog X.w) h3 (typeOf (.ref a)) cls := fun A Q E s k q => wpAny_typeOf_ref (k _ _ he3) (by rw [hz3.1]; exact q)
        have LM := PySem.W.exm_one (M := model X.prog X.w) (J3.kIn) LT hb1
        have look : ∀ {Q : Value → Shared → Prop} {E : Value → Shared → Prop}, Q c { s' with heap := h3 } → wpAny (model X.prog X.w) (X.A.mark (some (.ref a))) (eval (.Name x np) X.env) Q E { s' with heap := h3 } := fun {Q E} q => by
          obtain ⟨g1, g2, m⟩ := nam
          cases m with
          | inl m => exact ld_glob (X := X.suite a ((a, oe3) :: (X.pn ++ pins))) S3 g1 m q g2
          | inr m => exact ld_blt (X := X.suite a ((a, oe3) :: (X.pn ++ pins))) S3 g1 m.1 m.2.1 q m.2.2 g2
        refine look (LM.here ?_)
        cases b with
        | false =>
          show wpAny _ X.A (handleBy (.ref a) X.env hs3) _ _ _
          exact ih (hno rfl)
        | true =>
          refine codeAny_handlers_suite_as ?_
          refine HandSPX.lands_againZ fl3 fun h4 fl4 up4 => ?_
          have J4 : Inv X pins σ' H' { s' with heap := h4 } := J.landed nb fl4.1 ((up.trans up3).trans up4) os ag
          obtain ⟨oe4, vs4, he4, hz4, hd4⟩ := fl4.there
          have S4 := J4.suite he4 hd4 na nL nF
          refine store_ok (X := X.suite a ((a, oe4) :: (X.pn ++ pins))) (v := .ref a) S4 nd at_ (.inl loc) rfl (fun s5 S5 => ?_) (.inr loc)
          refine wpAny_mono ((run a oe4 cls d (X.pn ++ pins) hz4 ⟨_, hd4⟩).run [] s5 _ H' _ S5 (hyes rfl a na (by rw [J.len]; exact (List.getElem?_eq_some_iff.mp at_).1))) (fun f s6 hsp => ?_) (fun _ _ z => False.elim z)
          have clean : ∀ {σ6 : L2.St} {H6 : Hp} {Q : Shared → Prop}, Inv (X.suite a ((a, oe4) :: (X.pn ++ pins))) [] σ6 H6 s6 → (∀ s7, Inv X pins (σ6.set i none) H6 s7 → Q s7) →
              wpAny (model X.prog X.w) X.A (do bindName X.env n .none; unbindBehindTheSuite X.env n ps) (fun _ s7 => Q s7) X.xe s6 := fun {σ6 H6 Q} S6 hq => gone_ok (S6.unsuite good) nd at_ loc hq
          cases f with
          | next => exact let ⟨_, _, S6, q6⟩ := hsp; clean S6 fun s7 J7 => ⟨_, _, J7, q6⟩
          | brk => exact let ⟨_, _, S6, q6⟩ := hsp; clean S6 fun s7 J7 => ⟨_, _, J7, q6⟩
          | cont => exact let ⟨_, _, S6, q6⟩ := hsp; clean S6 fun s7 J7 => ⟨_, _, J7, q6⟩
          | ret u => exact let ⟨_, _, _, S6, r6, q6⟩ := hsp; clean S6 fun s7 J7 => ⟨_, _, _, J7, r6, q6⟩
    exact go hh w
  refine wpAny_Try_except (wpAny_mono ((hb W1 (X.pn ++ pins) xe1 catch_ PassesOwn.looking).run [] s σ H D (I.toTry _) h) (fun f s1 hsp => ?_) (fun e s1 he => he))
  cases f with
  | next => exact let ⟨σ', H', J', q⟩ := hsp; wpAny_execs_nil ⟨σ', H', J'.ofTry good, q⟩
  | brk => exact let ⟨σ', H', J', q⟩ := hsp; ⟨σ', H', J'.ofTry good, q⟩
  | cont => exact let ⟨σ', H', J', q⟩ := hsp; ⟨σ', H', J'.ofTry good, q⟩
  | ret u => exact let ⟨v, σ', H', J', r, q⟩ := hsp; ⟨v, σ', H', J'.ofTry good, r, q⟩
end

/-! ### an own error with one field -/
/-- what the written part says of the class x at C: __init__(self, f) stores its field f -/
structure ErrC (P : Program) (w : World) (K : PySem.W.Frag) (mg : Str → Option Value) (base : Heap) (x f : Str) (C : Addr) : Prop where
  cls : OexC K C
  gC : mg x = some (.ref C)
  fld : PySem.W.findIn K (.ref C) f = some none
  ga : PySem.W.findIn K (.ref C) "__getattribute__" = some (some (.builtin "BaseException.__getattribute__"))
  gg : PySem.W.findIn K (.ref C) "__getattr__" = some none
  hd : PySem.W.hasDictIn K C = true
  ini : ∃ fI fd, PySem.W.findIn K (.ref C) "__init__" = some (some (.ref fI)) ∧ PySem.W.typeIn K (.ref fI) = some (.type "function") ∧ Binds K fd ["self", f] [] ∧
    FnOk P w K mg base (L2.CX P w) 1 fI fd ["self", f] (fun vs H Q _ => ∃ a y, vs = [.ref a, y] ∧ H a = some (exo a C none) ∧ ∀ dx, H dx = none → dx ≠ a → Q .non (upd (upd H dx (exd dx [(f, y)])) a (exo a C (some dx))))
def sRaise (x f : Str) (m : EM D) : EM Fl := bnd m fun d => fun ρ => some (.error ⟨x, [(f, d)]⟩, ρ)
section
variable {X : Cx} {B : Bx} {W : WX} {e : Expr} {es : List Expr} {pos pos2 p : Pos} {x f : Str} {C : Addr}
/-- raise x(e) -/
theorem ss_raise {m : EM D} (T : ErrC X.prog X.w X.K X.mg X.base x f C) (hc : X.calm = true) (hr : Room 2 X.A) (tk : Takes X W) (hg : Gl X x) (h : PE X e (tE (fx X B) W m))
    (hdb : (x == ("__debug__" : Str)) = false := by decide) (he : starEach [e] X.env = (false, eval e X.env) :: starEach [] X.env := by rfl) (hpl : (backTo pos (starEach [] X.env)).any (·.1) = false := by rfl) :
    PS X (.Raise (some (.Call (.Name x p) [e] [] pos)) none pos2) (tS (fx X B) W (sRaise x f m)) := by
  obtain ⟨fI, fd, i1, i2, i3, i4⟩ := T.ini
  refine PS_imp (ps_raise hc tk (pmk_oex T.cls i1 i2 i4 hr i3 .nil (passes_call (W := W) tk fun _ _ _ _ z => z.elim) hg T.gC (pa_cons h pa_nil he) hdb he hpl)) fun D' σ H t => ?_
  obtain ⟨Z, Fs, ρ, rr, ρ', S, e, k⟩ := t
  refine tE_of S e (fun x q => (k.err x q).at σ) fun d ρ1 v H1 Z1 Fs1 e1 x1 S1 rp => ?_
  cases e1
  refine ⟨by simp, fun a ha => ⟨a, v, rfl, upd_same, fun dx hdx ne => ⟨rfl, dx, [(f, v)], upd_same, by rw [upd_ne ne, upd_same], ?_, ?_⟩⟩⟩
  · rw [upd_ne ne] at hdx; exact hdx
  · have hd1 : H1 dx = none := by rw [upd_ne ne] at hdx; exact hdx
    have eH : upd (del (upd (upd (upd H1 a (exo a C none)) dx (exd dx [(f, v)])) a (exo a C (some dx))) a) dx (.xd [(f, v)]) = upd H1 dx (.xd [(f, v)]) := by
      funext b
      by_cases h1 : b = dx
      · rw [h1, upd_same, upd_same]
      · rw [upd_ne h1, upd_ne h1]
        by_cases h2 : b = a
        · rw [h2, del_same, ha]
        · rw [del_ne h2, upd_ne h2, upd_ne h1, upd_ne h2]
    rw [eH]
    obtain ⟨S2, x2, kp⟩ := S1.new (o := .xd [(f, v)]) hd1 (fun ps => by intro z; cases z)
    exact k _ _ σ _ _ _ (x1.trans x2) S2 ⟨C, dx, [v], T.gC, rfl, rfl, upd_same, .cons (rp.keep kp) .nil⟩
end
end NH

/-! NhLam: heard(lambda: e): what e tells, or which error it raised. -/
namespace NH
open PySem Spec PyProof.Rows L2
open EM

/-! ### plain -/
/-- a clause: the class's name, its field, what is told -/
abbrev Tag := Str × Str × Str
def tagOf : List Tag → Exn → Option D
  | [], _ => none
  | (c, f, t) :: r, x => if x.cls = c then (match x.fld with
    | [(g, d)] => if g = f then some (.tuple [.str t, d]) else none
    | _ => none) else tagOf r x
def heardM (told : Str) (tags : List Tag) (m : EM D) : EM D := fun ρ => match m ρ with
  | some (.ok d, ρ') => some (.ok (.tuple [.str told, d]), ρ')
  | some (.error x, ρ') => (tagOf tags x).map fun d => (.ok d, ρ')
  | none => none
/-! ### the clauses -/
abbrev Cl := Addr × Str × Str
def TupQ (Q : VK) (xs : List V) (H : Hp) : Prop := xs.length ≤ sizeLine ∧ ((∀ p o, H p = none → NewT o → Q (.ref p) (upd H p (.frz o (.tup xs)))) ∨ ∀ p, H p = none → Q (.ref p) (upd H p (.tup xs)))
/-- error.f -/
def tErrF (C : Addr) (a : Addr) (cls : Value) (d : Option Addr) (f : Str) (te : TE) : TE := fun σ H Q => te σ H fun x H1 => x = .ref a ∧ cls = .ref C ∧ ∃ (dd : Addr) (v : V), d = some dd ∧ H1 dd = some (.xd [(f, v)]) ∧ Q v H1
section
variable {X : Cx}
theorem relO_one {f : Str} {v : V} {mA : Str → Option Value} (r : RelO (List.lookup f [(f, v)]) (mA f)) : ∃ u, mA f = some u ∧ RelV v u := by
  have l : List.lookup f [(f, v)] = some v := by simp [List.lookup]
  rw [l] at r
  exact RelO.some_of r
theorem pe_errF {x f : Str} {C a : Addr} {oe : Obj} {cls : Value} {d : Option Addr} {pn : List (Addr × Obj)} {e : Expr} {te : TE} {pos : Pos} (T : ErrC X.prog X.w X.K X.mg X.base x f C) (hz : Zc cls d oe) (hf : ∃ vs, oe.data = .fields vs) (he : PE (X.suite a ((a, oe) :: pn)) e te)
    (hb : attributeBase e f X.env (eval e X.env) = eval e X.env := by rfl) : PE (X.suite a ((a, oe) :: pn)) (.Attribute e f pos) (tErrF C a cls d f te) := by
  refine ⟨fun pins s σ H Q I h => ?_⟩
  refine attr_of hb (thn (he.run pins s σ H _ I h) fun u s1 z => ?_)
  obtain ⟨x0, H1, I1, rx, ex, ec, dd, v, ed, ea, q⟩ := z
  subst ex ec ed
  cases rx
  obtain ⟨atA, _⟩ := I1.pin (a, oe) (List.mem_append_left _ List.mem_cons_self)
  obtain ⟨vs, hd⟩ := hf
  have ob : ObjOk X.prog X.w H1 s1.heap dd (.xd [(f, v)]) := I1.hok dd _ ea
  obtain ⟨mA, hns, hr⟩ := ob
  obtain ⟨od, ho, hl⟩ := lookIn_ns hns
  obtain ⟨u, hu, ru⟩ := relO_one (hr f)
  have J : PySem.W.InstAt s1.heap a oe C (some od) := ⟨atA, hz.1, by unfold PySem.W.notCls; rw [hd] <;> rfl, by rw [hz.2]; exact ho⟩
  exact HandSPX.exc_get I1.kIn J T.ga T.gg T.cls.exC (PySem.W.findObj_own T.hd T.fld rfl (by rw [hl, hu])) (handed_of ru) ⟨v, H1, I1.tok _, ru, q⟩
end
def clTs (i : Nat) (c : Cl) : Addr → Value → Option Addr → TS := fun a cls d => tRet (tTupF (tCons (tC (.str c.2.2)) (tCons (tErrF c.1 a cls d c.2.1 (tVar i)) tNil)))
def clAll (i : Nat) (cl : List Cl) : List ClA := cl.map fun c => (.ref c.1, i, clTs i c)
/-- the error that has come is the j-th clause's -/
def Hit (K : PySem.W.Frag) (cl : List Cl) (Q : VK) : XK := fun cls dx H => ∃ (j : Nat) (c : Cl) (dd : Addr) (v : V), cl[j]? = some c ∧ cls = .ref c.1 ∧ dx = some dd ∧ H dd = some (.xd [(c.2.1, v)]) ∧
  (∀ i c', cl[i]? = some c' → PySem.W.exmOne K (.ref c.1) (.ref c'.1) = some (decide (i = j))) ∧ TupQ Q [.str c.2.2, v] H
theorem wAll_hit {K : PySem.W.Frag} {D : Ends} {i : Nat} {σ : L2.St} {H : Hp} : ∀ {cl : List Cl} {cls : Value} {dx : Option Addr}, Hit K cl D.rt cls dx H → wAll K D (clAll i cl) cls dx σ H
  | [], _, _, h => by
    obtain ⟨j, c, dd, v, h1, _⟩ := h
    simp at h1
  | c0 :: cl, _, _, h => by
    obtain ⟨j, c, dd, v, h1, rfl, rfl, h2, h3, h4⟩ := h
    refine ⟨decide (0 = j), h3 0 c0 rfl, fun hb => ?_, fun hb a na hl => ?_⟩
    · have hj : ¬ 0 = j := by simpa using hb
      obtain ⟨j', rfl⟩ : ∃ j', j = j' + 1 := ⟨j - 1, by omega⟩
      refine wAll_hit (cl := cl) ⟨j', c, dd, v, by simpa using h1, rfl, rfl, h2, fun n c' hc => ?_, h4⟩
      have := h3 (n + 1) c' (by simpa using hc)
      rw [this]
      congr 1
      exact decide_eq_decide.mpr (by omega)
    · have hj : 0 = j := by simpa using hb
      subst hj
      simp at h1
      subst h1
      exact ⟨_, by rw [List.getElem?_set_self hl], rfl, rfl, dd, v, rfl, h2, h4⟩
/-- told: try: return (told, a()) / except E1 as n: return (t1, n.f1) / .. -/
def TTh (K : PySem.W.Frag) (told : Str) (cl : List Cl) : (XK → Hp → VK → Prop) → Hp → VK → Prop := fun tl H Q => tl (Hit K cl Q) H fun v H1 => TupQ Q [.str told, v] H1
section
variable {X : Cx}
theorem heard_gives {Ng : List Str} {x a q told : Str} {sg : Scope} {g : Addr} {cdg : Value} {hds : List ExceptHandler} {h0 : ExceptHandler} {cl : List Cl} {j j2 : Nat} {p0 p1 p2 p3 p4 p8 : Pos} (nd : Ng.Nodup) (at0 : ∀ f : Addr, (L2.start Ng [V.ref f])[0]? = some (some (V.ref f)))
    (hh : ∀ (s : Shared) (H : Hp), ClsA (cxOf C8.CX0 X.prog X.w X.K X.mg X.base Ng x sg g cdg X.A X.stack s H C8.E0).nox (h0 :: hds) (clAll 1 cl)) :
    LamX.GivesTo X Ng x sg g cdg [.Try [.Return (some (.Tuple [.Constant (.str told) j p0, .Call (.Name a p1) [] [] p2] j2 p3)) p4] (h0 :: hds) [] [] p8] a q (TTh X.K told cl) := by
  intro f c' s H Q tl act hc h
  refine ⟨_, pss_one (ps_try_all (X := (cxOf C8.CX0 X.prog X.w X.K X.mg X.base Ng x sg g cdg X.A X.stack s H C8.E0).nox)
      (tb := fun W D σ H => ∃ Ech : XK, (∀ cls d σ' H', Ech cls d H' → W cls d σ' H') ∧ σ[0]? = some (some (.ref f)) ∧ H c' = some (LamX.CodeO c' q) ∧ tl Ech H fun v H1 => TupQ D.rt [.str told, v] H1)
      rfl rfl nd (fun W pn xe tk _ => ?_) (hh s H)), ?_⟩
  · refine ⟨fun pins s' σ H' D I h' => ?_⟩
    obtain ⟨Ech, hW, h1, h2, h3⟩ := h'
    have hp := act W pn xe Ech p1 p2 tk hW
    have hq := pss_one (ps_ret (pos := p4) (pe_tupF (x1 := j2) (pos := p3) (pa_cons (pe_str (x := told) (j := j) (pos := p0)) (pa_cons hp pa_nil))))
    exact hq.run pins s' σ H' D I ⟨h1, h2, h3⟩
  · exact ⟨Hit X.K cl Q, fun cls d σ' H' w => wAll_hit w, at0 f, hc, h⟩
end
/-! ### from the plain side -/
/-- what is known of the clauses -/
structure ClsOk (K : PySem.W.Frag) (mg : Str → Option Value) (tags : List Tag) (cl : List Cl) : Prop where
  same : Paired (fun (t : Tag) (c : Cl) => mg t.1 = some (.ref c.1) ∧ t.2 = c.2) tags cl
  apart : ∀ (i j : Nat) (c c' : Cl), cl[j]? = some c → cl[i]? = some c' → PySem.W.exmOne K (.ref c.1) (.ref c'.1) = some (decide (i = j))
theorem tag_hit {mg : Str → Option Value} {x : Exn} {d : D} : ∀ {tags : List Tag} {cl : List Cl}, Paired (fun (t : Tag) (c : Cl) => mg t.1 = some (.ref c.1) ∧ t.2 = c.2) tags cl → tagOf tags x = some d →
    ∃ (j : Nat) (c : Cl) (e : D), cl[j]? = some c ∧ mg x.cls = some (.ref c.1) ∧ x.fld = [(c.2.1, e)] ∧ d = .tuple [.str c.2.2, e]
  | [], _, _, h => by cases h
  | t :: tags, _, .cons (b := c) r rs, h => by
    unfold tagOf at h
    split at h
    · rename_i e
      split at h
      · rename_i g d' e2
        split at h
        · rename_i e3
          cases h
          refine ⟨0, c, d', rfl, by rw [e]; exact r.1, ?_, ?_⟩
          · rw [e2, e3, ← r.2]
          · rw [← r.2]
        · cases h
      · cases h
    · obtain ⟨j, c', e, h1, h2⟩ := tag_hit rs h
      exact ⟨j + 1, c', e, by simpa using h1, h2⟩
theorem Sim.tabs {C : Fix} {Z : AP'} {Fs : Nat → List Addr} {ρ : Env'} {σ : L2.St} {H H1 : Hp} (S : Sim C Z Fs ρ σ H) (x : LamX.ExtN H H1) (t : LamX.Tabs C.T H1) : Sim C Z Fs ρ σ H1 ∧ Ext Z H (InF Fs) Z H1 (InF Fs) := by
  have nx : ∀ a o, H a = some o → nt o → H1 a = some o := fun a o h n => x a o h n
  have rd : ∀ a u, nt u → Rd H a u → Rd H1 a u := fun a u n r => r.elim (fun r => .inl (nx _ _ r n)) fun ⟨ob, r⟩ => .inr ⟨ob, nx _ _ r (fun ps z => by cases z)⟩
  have kp : Keeps Z Z H H1 := ⟨fun a u _ r => nx a _ r (fun ps z => by cases z), fun a u _ r => rd a _ (fun ps z => by cases z) r, fun a o es _ d r => nx a _ r (fun ps z => by subst z; cases d), fun a xs r => nx a _ r (fun ps z => by cases z), fun a h => h, fun a o u r => nx a _ r (fun ps z => by cases z), fun a o r _ n => nx a _ r n⟩
  refine ⟨S.same kp (fun a ha o h => ?_) (fun a ⟨i, ha⟩ z => S.zf i a ha z) (fun a z => ?_) t, ⟨fun a o h _ n => nx a o h n, fun a h => h, fun a h => .inl h, fun a h => .inl h, fun a o h n => ⟨o, nx a o h n, n⟩⟩⟩
  · obtain ⟨u, hu, l⟩ := S.objF ha
    rw [h] at hu; cases hu
    exact nx a o h l.nt
  · obtain ⟨u, hu, n⟩ := S.zin a z
    exact ⟨u, nx a u hu n, n⟩
/-- one's wish where the body of a lambda runs -/
abbrev WL (E : XK) : WX := fun cls d _ H => E cls d H
theorem tLam_of {C : Fix} {W : WX} {m : EM D} {told : Str} {tags : List Tag} {cl : List Cl} (ok : ClsOk C.K C.mg tags cl) (σ : L2.St) (H : Hp) (Q : VK) (t : tE C W (heardM told tags m) σ H Q) : LamX.tLam C.T (TTh C.K told cl) (fun E => tE C (WL E) m) σ H Q := by
  obtain ⟨Z, Fs, ρ, rr, ρ', S, e, k⟩ := t
  refine ⟨S.tb, fun H1 xN t1 => ?_⟩
  obtain ⟨S1, x1⟩ := S.tabs xN t1
  unfold heardM at e
  cases hm : m ρ with
  | none => rw [hm] at e; cases e
  | some p =>
    obtain ⟨r, ρ2⟩ := p
    rw [hm] at e
    refine ⟨Z, Fs, ρ, r, ρ2, S1, hm, ?_⟩
    cases r with
    | ok d =>
      cases e
      intro v H' Z' Fs' x2 S2 rp
      refine ⟨by show 2 ≤ sizeLine; decide, ?_⟩
      exact finTT (ds := [.str told, d]) S2 (.cons (.str told) (.cons rp .nil)) fun w H'' Z'' x3 S3 r3 => k w H'' Z'' Fs' ((x1.trans x2).trans x3) S3 r3
    | error x =>
      have e' : (tagOf tags x).map (fun d => ((Except.ok d : Except Exn D), ρ2)) = some (rr, ρ') := e
      rw [Option.map_eq_some_iff] at e'
      obtain ⟨d, h1, h2⟩ := e'
      cases h2
      intro cls dx H' Z' Fs' x2 S2 ex
      obtain ⟨j, c, dd, g1, g2, g3, rfl⟩ := tag_hit ok.same h1
      obtain ⟨C0, a, vs, m1, rfl, rfl, m2, m3⟩ := ex
      have m1' : C.mg x.cls = some (.ref C0) := m1
      rw [g2] at m1'
      cases m1'
      rw [g3] at m2 m3
      cases m3 with
      | cons r1 r2 =>
        cases r2
        refine ⟨j, c, a, _, g1, rfl, rfl, m2, fun i c' hc => ok.apart i j c c' g1 hc, by show 2 ≤ sizeLine; decide, ?_⟩
        exact finTT (ds := [.str c.2.2, dd]) S2 (.cons (.str c.2.2) (.cons r1 .nil)) fun w H'' Z'' x3 S3 r3 => k w H'' Z'' Fs' ((x1.trans x2).trans x3) S3 r3
/-- what is known of heard: its text, its object -/
structure HeardF (P : Program) (w : World) (K : PySem.W.Frag) (mg : Str → Option Value) (base : Heap) (x a : Str) (Ng : List Str) (told : Str) (cl : List Cl) : Prop where
  ex : ∃ (g : Addr) (pg : Arguments) (sg : Scope) (dV kV doc pm cdv ct oc : Value) (an od : Option Addr) (osl : Array (Option Value)) (h0 : ExceptHandler) (hds : List ExceptHandler) (j j2 : Nat) (p0 p1 p2 p3 p4 p8 : Pos),
    mg x = some (.ref g) ∧ PySem.W.keepIn K (.ref g) = true ∧
    K.lookup g = some ⟨oc, od, .func (PySem.W.fnOf x x pg [.Try [.Return (some (.Tuple [.Constant (.str told) j p0, .Call (.Name a p1) [] [] p2] j2 p3)) p4] (h0 :: hds) [] [] p8] sg dV kV doc pm an cdv ct), osl⟩ ∧ PySem.W.codeIn K cdv x = true ∧
    L2.Binds K (PySem.W.fnOf x x pg [.Try [.Return (some (.Tuple [.Constant (.str told) j p0, .Call (.Name a p1) [] [] p2] j2 p3)) p4] (h0 :: hds) [] [] p8] sg dV kV doc pm an cdv ct) [a] [] ∧ FnScope Ng [a] sg ∧ Vis sg a ∧
    ∀ (X : Cx) (s : Shared) (H : Hp), X.prog = P → X.w = w → X.K = K → X.mg = mg → X.base = base → ClsA (cxOf C8.CX0 X.prog X.w X.K X.mg X.base Ng x sg g cdv X.A X.stack s H C8.E0).nox (h0 :: hds) (clAll 1 cl)
  nd : Ng.Nodup
  at0 : Ng[0]? = some a
  st : ∀ f : Addr, (L2.start Ng [V.ref f])[0]? = some (some (V.ref f))
section
variable {X : Cx} {B : Bx} {W : WX} {x a : Str} {Ng : List Str} {told : Str} {tags : List Tag} {cl : List Cl} {params : Arguments} {body : Expr} {scope : Scope} {p lpos pos : Pos} {c Pt : Addr} {k : Nat}
/-- heard(lambda: body) -/
theorem se_heard {m : EM D} (F : HeardF X.prog X.w X.K X.mg X.base x a Ng told cl) (ok : ClsOk X.K X.mg tags cl) (hg : Gl X x) (TB : LamX.TabB X.base X.mg c Pt) (hcode : X.env.code = .ref c) (hmT : (Pt, X.env.qual ++ "<lambda>") ∈ B.T) (hu : ∀ p ∈ B.T, p.1 = Pt → p.2 = X.env.qual ++ "<lambda>")
    (hr : Room (k + 2) X.A) (L : LamX.LamS X.env.scope scope) (hdef : defaultsOf params X.env = ([], []))
    (hbind : ∀ (q : Str) (cl : List (Str × Addr)) (pm cv ctv : Value), bindArgs (PySem.W.kla_fn "<lambda>" q params body scope cl pm cv ctv) ⟨[], []⟩ = pure [])
    (hbody : ∀ (A : Around) (outer : List Env) (s : Shared) (H : Hp) (E : XK) (f c' : Addr), Room k (A.deeper (LamX.lamEnv X scope s.heap.objs.size f c')) → PE (LamX.lamCx X A outer s H E scope f c') body (tE (fx X B) (WL E) m))
    (hdb : (x == ("__debug__" : Str)) = false := by decide) (hd : (a == ("__debug__" : Str)) = false := by decide) (hcd : (a == ("__classdict__" : Str)) = false := by decide) :
    PE X (.Call (.Name x p) [.Lambda params body scope lpos] [] pos) (tE (fx X B) W (heardM told tags m)) := by
  obtain ⟨g, pg, sg, dV, kV, doc, pm, cdv, ct, oc, an, od, osl, h0, hds, j, j2, p0, p1, p2, p3, p4, p8, e1, e2, e3, e4, e5, e6, e7, e8⟩ := F.ex
  exact PE_imp (LamX.pe_lamcall hg e1 e2 e3 e4 e5 e6 F.at0 e7 (heard_gives F.nd F.st fun s H => e8 X s H rfl rfl rfl rfl rfl) TB hcode hmT hu hr L hdef hbind hbody hdb hd hcd) fun σ H Q t => tLam_of (C := fx X B) ok σ H Q t
end
end NH
namespace NH
open PySem Spec PyProof.Rows L2
/-! ### small helps for the walks -/
theorem pt_w {X : Cx} {op : PySem.BoolOp} {es : List Expr} {pos : Pos} {t : TT} (h : PW X (.BoolOp op es pos) t) : PT X (.BoolOp op es pos) t := h.pt
theorem room65 {k : Nat} {A : Around} (hr : Room k A) : A.units + 65 < cLine := by have := hr.un; omega
theorem room64 {k : Nat} {A : Around} (hr : Room k A) : A.units + 64 < cLine := by have := hr.un; omega
theorem room1 {k : Nat} {A : Around} (hr : Room k A) : A.units + 1 < cLine := by have := hr.un; omega
theorem room2 {k : Nat} {A : Around} (hr : Room k A) : A.units + 2 < cLine := by have := hr.un; omega
end NH

/-! NhRepr: repr of a tree, its dicts being empty. -/
namespace NH
open PySem Spec PyProof.Rows L2
open EM

mutual
/-- a tree whose dicts are empty -/
def eDict : D → Bool
  | .list ds => eDictL ds
  | .tuple ds => eDictL ds
  | .dict kvs => kvs.isEmpty
  | .none => true
  | .bool _ => true
  | .int _ => true
  | .str _ => true
def eDictL : List D → Bool
  | [] => true
  | d :: ds => eDict d && eDictL ds
end
def dLen : HO → Nat
  | .dK kvs => kvs.length
  | .dT kvs => kvs.length
  | _ => 0
theorem DObj.size {o : HO} {es : List (D × V)} (h : DObj o es) : es.length = dLen o := by
  cases h with
  | k l => exact List.length_map ..
  | t l => exact List.length_map ..
section
variable {K : PySem.W.Frag} {Z : AP'} {H : Hp}
theorem TpR.inj {a : Addr} {xs ys : List V} {b c : Bool} (h : TpR H a xs b) (h' : TpR H a ys c) : xs = ys := by
  unfold TpR at h h'
  split at h <;> split at h'
  · obtain ⟨o, e, _⟩ := h; obtain ⟨o', e', _⟩ := h'
    rw [e] at e'; cases e'; rfl
  · obtain ⟨o, e, _⟩ := h; rw [e] at h'; cases h'
  · obtain ⟨o, e, _⟩ := h'; rw [e] at h; cases h
  · rw [h] at h'; cases h'; rfl
mutual
theorem Rp.det : ∀ (d d' : D) (v : V), eDict d = true → Rp K Z H v d → Rp K Z H v d' → d = d'
  | .none, _, _, _, h, h' => by cases h; cases h'; rfl
  | .bool _, _, _, _, h, h' => by cases h; cases h'; rfl
  | .int _, _, _, _, h, h' => by cases h; cases h'; rfl
  | .str _, _, _, _, h, h' => by cases h; cases h'; rfl
  | .list ds, _, _, he, h, h' => by
    cases h with
    | lst h1 h2 =>
      cases h' with
      | lst h3 h4 =>
        have e := h1.2.symm.trans h3.2
        cases e
        rw [RpAll.det ds _ _ (by simpa only [eDict] using he) h2 h4]
      | tup h3 h4 =>
        unfold TpR at h3
        have := h1.2
        split at h3
        · obtain ⟨o, e, _⟩ := h3; rw [e] at this; cases this
        · rw [h3] at this; cases this
      | dct h3 h4 h5 =>
        obtain ⟨_, o, e, q⟩ := h3
        rw [h1.2] at e; cases e; cases q
  | .tuple ds, _, _, he, h, h' => by
    cases h with
    | tup h1 h2 =>
      cases h' with
      | tup h3 h4 =>
        have e := h1.inj h3
        subst e
        rw [RpAll.det ds _ _ (by simpa only [eDict] using he) h2 h4]
      | lst h3 h4 =>
        unfold TpR at h1
        have := h3.2
        split at h1
        · obtain ⟨o, e, _⟩ := h1; rw [e] at this; cases this
        · rw [h1] at this; cases this
      | dct h3 h4 h5 =>
        obtain ⟨_, o, e, q⟩ := h3
        unfold TpR at h1
        split at h1
        · obtain ⟨o, e', _⟩ := h1; rw [e'] at e; cases e; cases q
        · rw [h1] at e; cases e; cases q
  | .dict kvs, _, _, he, h, h' => by
    have hk : kvs = [] := by simpa [eDict] using he
    subst hk
    cases h with
    | dct h1 h2 h3 =>
      obtain ⟨_, o, e, q⟩ := h1
      cases h' with
      | lst h4 h5 => rw [h4.2] at e; cases e; cases q
      | tup h4 h5 =>
        unfold TpR at h4
        split at h4
        · obtain ⟨o, e', _⟩ := h4; rw [e'] at e; cases e; cases q
        · rw [h4] at e; cases e; cases q
      | dct h4 h5 h6 =>
        obtain ⟨_, o', e', q'⟩ := h4
        rw [e] at e'; cases e'
        have z := congrArg List.length h2
        have z2 := congrArg List.length h5
        rw [List.length_map, q.size] at z
        rw [List.length_map, q'.size, z, List.length_map, List.length_map] at z2
        exact congrArg PyData.dict (List.eq_nil_of_length_eq_zero (by rw [← z2]; rfl)).symm
theorem RpAll.det : ∀ (ds ds' : List D) (vs : List V), eDictL ds = true → RpAll K Z H vs ds → RpAll K Z H vs ds' → ds = ds'
  | [], _, _, _, h, h' => by cases h; cases h'; rfl
  | d :: ds, _, _, he, h, h' => by
    have he' : eDict d = true ∧ eDictL ds = true := by simpa [eDictL] using he
    cases h with
    | cons h1 h2 =>
      cases h' with
      | cons h3 h4 => rw [Rp.det d _ _ he'.1 h1 h3, RpAll.det ds _ _ he'.2 h2 h4]
end
/-- bs are things whose trees have at most n levels -/
def AM (K : PySem.W.Frag) (Z : AP') (H : Hp) (n : Nat) (bs : List Addr) : Prop := ∀ b ∈ bs, ∃ d, eDict d = true ∧ Rp K Z H (.ref b) d ∧ d.depth ≤ n
theorem AM.nil {n : Nat} : AM K Z H n [] := fun b h => by simp at h
theorem AM.le {n m : Nat} {bs : List Addr} (h : AM K Z H n bs) (q : n ≤ m) : AM K Z H m bs := fun b z => by
  obtain ⟨d, h1, h2, h3⟩ := h b z
  exact ⟨d, h1, h2, by omega⟩
theorem AM.app {n : Nat} {bs cs : List Addr} (h : AM K Z H n bs) (q : AM K Z H n cs) : AM K Z H n (bs ++ cs) := fun b z => (List.mem_append.mp z).elim (h b) (q b)
theorem AM.add {a : Addr} {d : D} {n : Nat} {bs : List Addr} (r : Rp K Z H (.ref a) d) (e : eDict d = true) (q : n ≤ d.depth) (h : AM K Z H n bs) : AM K Z H d.depth (a :: bs) := fun b z => by
  rcases List.mem_cons.mp z with z | z
  · rw [z]; exact ⟨d, e, r, Nat.le_refl _⟩
  · exact h.le q b z
theorem AM.out {a : Addr} {d : D} {n : Nat} {bs : List Addr} (r : Rp K Z H (.ref a) d) (q : n < d.depth) (h : AM K Z H n bs) : a ∉ bs := fun z => by
  obtain ⟨d', e, r', l⟩ := h a z
  rw [Rp.det d' d _ e r' r] at l
  omega
theorem TpR.rd {a : Addr} {xs : List V} {b : Bool} (h : TpR H a xs b) : Rd H a (.tup xs) := by
  unfold TpR at h
  split at h
  · obtain ⟨o, e, _⟩ := h; exact .inr ⟨o, e⟩
  · exact .inl h
variable {P : Program} {w : World} {h : Heap}
theorem DObj.none_in {o : HO} {a : Addr} (ok : HOk P w H h) (e : H a = some o) (q : DObj o []) : (a == sysModules) = false ∧ ∃ ob es n, h.get? a = some ob ∧ ob.cls = .type "dict" ∧ ob.data = .dict es n ∧ es.toList = [] := by
  have hs := q.size
  cases o with
  | dK kvs =>
    have hk : kvs = [] := List.eq_nil_of_length_eq_zero hs.symm
    subst hk
    obtain ⟨_, y, vs, kv, ob, es, ep, g, x, dd, _, pr, _⟩ := dk_of ok e
    cases kv
    cases hl : es.toList with
    | nil => exact ⟨y, ob, es, ep, g, x.1, dd, hl⟩
    | cons p l => rw [hl] at pr; cases pr
  | dT kvs =>
    have hk : kvs = [] := List.eq_nil_of_length_eq_zero hs.symm
    subst hk
    obtain ⟨_, y, xs, kt, ob, es, ep, g, x, dd, hl, _⟩ := dt_of ok e
    cases kt
    exact ⟨y, ob, es, ep, g, x.1, dd, hl⟩
  | _ => cases q
mutual
theorem Rp.shows (ok : HOk P w H h) : ∀ (d : D) (v : V) (u : Value), Rp K Z H v d → RelV v u → d.showable = true → eDict d = true → d.shown.length ≤ sizeLine → ∃ bs, AM K Z H d.depth bs ∧ ReprK P w bs h d.depth u d.shown
  | .none, _, u, r, ru, _, _, _ => by
    cases r; cases ru
    exact ⟨[], AM.nil, .of_is ReprIs.none _ _ _⟩
  | .bool b, _, u, r, ru, _, _, _ => by
    cases r; cases ru
    exact ⟨[], AM.nil, .of_is (ReprIs.bool b) _ _ _⟩
  | .int i, _, u, r, ru, hs, _, _ => by
    cases r; obtain ⟨t, rfl⟩ := ru
    exact ⟨[], AM.nil, .of_is (ReprIs.int t (of_decide_eq_true hs)) _ _ _⟩
  | .str x, _, u, r, ru, _, _, hz => by
    cases r; obtain ⟨t, rfl⟩ := ru
    exact ⟨[], AM.nil, .of_is (ReprIs.str x t hz) _ _ _⟩
  | .list ds, _, u, r, ru, hs, he, hz => by
    have r0 := r
    cases r with
    | @lst a xs _ h1 h2 =>
      cases ru
      obtain ⟨_, its, n, rv, g⟩ := ok _ _ h1.2
      obtain ⟨bs, am, rk⟩ := RpAll.shows ok ds _ _ h2 rv hs he (fun t ht => Nat.le_trans (listText_mem_le ht) hz)
      have hd : (PyData.list ds).depth = PyData.depthAll ds + 1 := by simp only [PyData.depth] <;> omega
      refine ⟨a :: bs, AM.add r0 he (by omega) am, ?_⟩
      rw [hd]
      cases its with
      | nil =>
        have hx : xs = [] := by cases rv; rfl
        subst hx
        cases h2
        show ReprK P w _ h _ _ (listText [])
        rw [listText_nil]
        exact ReprK.listEmpty g rfl rfl
      | cons y its => exact ReprK.list g rfl rfl (AM.out r0 (by omega) am) (by simpa using rk.length_eq) fun i z e => rk.item i z (by simpa using e)
  | .tuple ds, _, u, r, ru, hs, he, hz => by
    have r0 := r
    cases r with
    | @tup a xs _ h1 h2 =>
      cases ru
      obtain ⟨_, its, rv, ob, g, hc, n, hda⟩ := rd_of ok h1.rd
      obtain ⟨bs, am, rk⟩ := RpAll.shows ok ds _ _ h2 rv hs he (fun t ht => Nat.le_trans (tupleText_mem_le ht) hz)
      have hd : (PyData.tuple ds).depth = PyData.depthAll ds + 1 := by simp only [PyData.depth] <;> omega
      refine ⟨a :: bs, AM.add r0 he (by omega) am, ?_⟩
      rw [hd]
      exact ReprK.tuple g hc hda (AM.out r0 (by omega) am) rk
  | .dict kvs, _, u, r, ru, hs, he, hz => by
    have hk : kvs = [] := by simpa [eDict] using he
    subst hk
    have r0 := r
    cases r with
    | @dct a es _ h1 h2 h3 =>
      cases ru
      have hes : es = [] := List.map_eq_nil_iff.mp h2
      subst hes
      obtain ⟨_, o, e, q⟩ := h1
      obtain ⟨y, ob, es, n, g, hc, hda, hl⟩ := q.none_in ok e
      have hd : (PyData.dict []).depth = 0 + 1 := by simp [PyData.depth, PyData.depthKv]
      refine ⟨[a], AM.add r0 he (by omega) (n := 0) AM.nil, ?_⟩
      rw [hd]
      exact ReprK.dict g hc hda y (by simp) (by rw [hl]; exact .nil)
theorem RpAll.shows (ok : HOk P w H h) : ∀ (ds : List D) (vs : List V) (us : List Value), RpAll K Z H vs ds → Vals vs us → PyData.showableAll ds = true → eDictL ds = true → (∀ t ∈ PyData.shownAll ds, t.length ≤ sizeLine) → ∃ bs, AM K Z H (PyData.depthAll ds) bs ∧ ReprAllK P w bs h (PyData.depthAll ds) us (PyData.shownAll ds)
  | [], _, us, r, rv, _, _, _ => by
    cases r; cases rv
    exact ⟨[], AM.nil, .nil⟩
  | d :: ds, _, us, r, rv, hs, he, hz => by
    have hs' : d.showable = true ∧ PyData.showableAll ds = true := by simpa [PyData.showableAll] using hs
    have he' : eDict d = true ∧ eDictL ds = true := by simpa [eDictL] using he
    cases r with
    | cons r1 r2 =>
      cases rv with
      | cons v1 v2 =>
        obtain ⟨b1, a1, k1⟩ := Rp.shows ok d _ _ r1 v1 hs'.1 he'.1 (hz _ List.mem_cons_self)
        obtain ⟨b2, a2, k2⟩ := RpAll.shows ok ds _ _ r2 v2 hs'.2 he'.2 fun t ht => hz t (List.mem_cons_of_mem _ ht)
        have e : PyData.depthAll (d :: ds) = max d.depth (PyData.depthAll ds) := by simp only [PyData.depthAll]
        rw [e]
        exact ⟨b1 ++ b2, (a1.le (Nat.le_max_left ..)).app (a2.le (Nat.le_max_right ..)), .cons ((k1.more fun b z => List.mem_append_left _ z).level_le (Nat.le_max_left ..)) (k2.more_le (fun b z => List.mem_append_right _ z) (Nat.le_max_right ..))⟩
end
end

/-! ### repr(x) of a list or a tuple -/
def reprD : D → Option D
  | .list ds => if PyData.showableAll ds = true ∧ eDictL ds = true ∧ PyData.depthAll ds ≤ 60 ∧ (PyData.list ds).shown.length ≤ 16777216 then some (.str (PyData.list ds).shown) else none
  | .tuple ds => if PyData.showableAll ds = true ∧ eDictL ds = true ∧ PyData.depthAll ds ≤ 60 ∧ (PyData.tuple ds).shown.length ≤ 16777216 then some (.str (PyData.tuple ds).shown) else none
  | _ => none
def rReprD (K : PySem.W.Frag) : List V → Hp → VK → Prop := fun xs H Q => ∃ Z a ds ys,  xs = [.ref a] ∧ RpAll K Z H ys ds ∧ PyData.showableAll ds = true ∧ eDictL ds = true ∧ PyData.depthAll ds ≤ 60 ∧
  ((H a = some (.lst ys) ∧ (PyData.list ds).shown.length ≤ sizeLine ∧ Q (.str (PyData.list ds).shown) H) ∨ (Rd H a (.tup ys) ∧ (PyData.tuple ds).shown.length ≤ sizeLine ∧ Q (.str (PyData.tuple ds).shown) H))
theorem cr_repr {X : Cx} (hg : X.A.guards = some []) (hu : X.A.units + 70 < cLine) : CallR X (.builtin "repr") (rReprD X.K) := by
  intro pins s σ H xs us Q I rv q
  obtain ⟨Z, a, ds, ys, rfl, ra, hs, he, hd, q⟩ := q
  obtain ⟨u, rfl, ru⟩ := vals1 rv
  cases ru
  have up : RpAll X.K (zadd Z a) H ys ds := RpAll.keep ⟨fun _ _ _ x => x, fun _ _ _ x => x, fun _ _ _ _ _ x => x, fun _ _ x => x, fun _ z => .inl z, fun _ _ _ x => x, fun _ _ x _ _ => x⟩ ds ys ra
  rcases q with ⟨hl, hz, q⟩ | ⟨hl, hz, q⟩
  · obtain ⟨_, its, n, rv, g⟩ := I.hok _ _ hl
    obtain ⟨bs, am, rk⟩ := RpAll.shows (P := X.prog) (w := X.w) I.hok ds _ _ up rv hs he (fun t ht => Nat.le_trans (listText_mem_le ht) hz)
    have r0 : Rp X.K (zadd Z a) H (.ref a) (.list ds) := .lst ⟨.inr rfl, hl⟩ up
    have hdd : (PyData.list ds).depth = PyData.depthAll ds + 1 := by simp only [PyData.depth] <;> omega
    refine call_repr_slot (by omega) ⟨_, g, rfl⟩ F.slot_list_repr.toG ?_
    cases its with
    | nil =>
      have hx : ys = [] := by cases rv; rfl
      subst hx
      cases ra
      have q' : Q (.str (listText [])) H := q
      rw [listText_nil] at q'
      exact call_list_repr_empty ⟨_, g, rfl⟩ g rfl ⟨_, _, rfl, .str "[]", H, I.kept (t' := s.toks + 1) (fun _ _ e => e), ⟨_, rfl⟩, q'⟩
    | cons y its =>
      exact call_list_reprK g rfl rfl (AM.out r0 (by omega) am) (by simpa using rk.length_eq) (fun i z e => rk.item i z (by simpa using e)) hg (fun b _ => Clear.nil b) (by show X.A.units + 1 + _ < _; omega) (fun _ _ e => e)
        (fun h' u tk kp => ⟨_, _, rfl, .str _, H, I.kept (t' := tk) kp, ⟨u, rfl⟩, q⟩) hz
  · obtain ⟨_, its, rv, ob, g, hc, n, hda⟩ := rd_of I.hok hl
    obtain ⟨bs, am, rk⟩ := RpAll.shows (P := X.prog) (w := X.w) I.hok ds _ _ ra rv hs he (fun t ht => Nat.le_trans (tupleText_mem_le ht) hz)
    have hdd : (PyData.tuple ds).depth = PyData.depthAll ds + 1 := by simp only [PyData.depth] <;> omega
    have hna : a ∉ bs := fun z => by
      obtain ⟨d', e, r', l⟩ := am a z
      have hx : d'.depth = PyData.depthAll ds + 1 := by
        cases r' with
        | @lst _ xs es h1 h2 =>
          have := h1.2
          rcases hl with hl | ⟨o, hl⟩ <;> rw [hl] at this <;> cases this
        | @tup _ xs es h1 h2 =>
          have ex : xs = ys := by
            have := h1.rd
            rcases hl with hl | ⟨o, hl⟩ <;> rcases this with t | ⟨o', t⟩ <;> rw [hl] at t <;> cases t <;> rfl
          subst ex
          rw [RpAll.det es ds _ (by simpa only [eDict] using e) h2 ra]
          exact hdd
        | @dct _ es kvs h1 h2 h3 =>
          obtain ⟨_, o, e, q⟩ := h1
          rcases hl with hl | ⟨ob, hl⟩ <;> rw [hl] at e <;> cases e <;> cases q
      omega
    exact call_repr_slot (by omega) ⟨_, g, hc⟩ F.slot_tuple_repr (call_tuple_reprK g hc hda hna rk hg (fun b _ => Clear.nil b) (by show X.A.units + 1 + _ < _; omega) (fun _ _ e => e)
        (fun h' u tk kp => ⟨_, _, rfl, .str _, H, I.kept (t' := tk) kp, ⟨u, rfl⟩, q⟩) hz)
section
variable {C : Fix}
theorem ud_repr : UnD C (r1 (rReprD C.K)) reprD := by
  intro Z Fs ρ σ H x d z Q S rx h k
  unfold reprD at h
  split at h
  · split at h
    · rename_i ds hc
      cases h
      obtain ⟨a, ys, rfl, h1, r⟩ := rx
      exact ⟨Z, a, ds, ys, rfl, r, hc.1, hc.2.1, hc.2.2.1, .inl ⟨h1, by rw [sizeL]; exact hc.2.2.2, fin0 S (.str _) k⟩⟩
    · cases h
  · split at h
    · rename_i ds hc
      cases h
      obtain ⟨a, ys, rfl, h1, r⟩ := rx.tup
      exact ⟨Z, a, ds, ys, rfl, r, hc.1, hc.2.1, hc.2.2.1, .inr ⟨h1.rd, by rw [sizeL]; exact hc.2.2.2, fin0 S (.str _) k⟩⟩
    · cases h
  · cases h
end
theorem bt_repr : bootBuiltins "repr" = some (.builtin "repr") := by decide +kernel
section
variable {X : Cx} {B : Bx} {W : WX} {a : Expr} {pos p : Pos} {o : Opd} {k : Nat}
theorem se_repr (gr : X.A.guards = some []) (hr : Room k X.A) (hg : Gl X "repr") (hm : X.mg "repr" = none) (ha : PE X a (tO (fx X B) W o)) (he : starEach [a] X.env = (false, eval a X.env) :: starEach [] X.env := by rfl) (hpl : (backTo pos (starEach [] X.env)).any (·.1) = false := by rfl) :
    PE X (.Call (.Name "repr" p) [a] [] pos) (tE (fx X B) W (un1 o reprD)) := se_callB1 (cr_repr gr (by have := hr.un; omega)) hg hm bt_repr ud_repr ha (by decide) (by decide) he hpl
end
end NH

/-! NhEq: == of two trees that are the same, their dicts being empty. -/
namespace NH
open PySem Spec PyProof.Rows L2
open EM

mutual
/-- the same tree -/
def sameD : D → D → Bool
  | .none, .none => true
  | .bool a, .bool b => a == b
  | .int i, .int j => i == j
  | .str x, .str y => x == y
  | .list xs, .list ys => sameL xs ys
  | .tuple xs, .tuple ys => sameL xs ys
  | .dict xs, .dict ys => xs.isEmpty && ys.isEmpty
  | _, _ => false
def sameL : List D → List D → Bool
  | [], [] => true
  | x :: xs, y :: ys => sameD x y && sameL xs ys
  | _, _ => false
end
mutual
theorem sameD_eq : ∀ (d e : D), sameD d e = true → d = e
  | .none, e, h => by cases e <;> first | rfl | (simp [sameD] at h)
  | .bool a, e, h => by cases e <;> first | (simp [sameD] at h; rw [h]) | (simp [sameD] at h)
  | .int a, e, h => by cases e <;> first | (simp [sameD] at h; rw [h]) | (simp [sameD] at h)
  | .str a, e, h => by cases e <;> first | (simp [sameD] at h; rw [h]) | (simp [sameD] at h)
  | .list a, e, h => by
    cases e with
    | list b => rw [sameL_eq a b (by simpa only [sameD] using h)]
    | _ => simp [sameD] at h
  | .tuple a, e, h => by
    cases e with
    | tuple b => rw [sameL_eq a b (by simpa only [sameD] using h)]
    | _ => simp [sameD] at h
  | .dict a, e, h => by
    cases e with
    | dict b =>
      simp [sameD] at h
      rw [h.1, h.2]
    | _ => simp [sameD] at h
theorem sameL_eq : ∀ (d e : List D), sameL d e = true → d = e
  | [], e, h => by cases e <;> first | rfl | (simp [sameL] at h)
  | x :: xs, e, h => by
    cases e with
    | nil => simp [sameL] at h
    | cons y ys =>
      have h' : sameD x y = true ∧ sameL xs ys = true := by simpa [sameL] using h
      rw [sameD_eq x y h'.1, sameL_eq xs ys h'.2]
end
mutual
theorem sameD_self : ∀ (d : D), eDict d = true → sameD d d = true
  | .none, _ => rfl
  | .bool a, _ => by simp [sameD]
  | .int a, _ => by simp [sameD]
  | .str a, _ => by simp [sameD]
  | .list a, h => by
    have := sameL_self a (by simpa only [eDict] using h)
    simpa only [sameD] using this
  | .tuple a, h => by
    have := sameL_self a (by simpa only [eDict] using h)
    simpa only [sameD] using this
  | .dict a, h => by
    have h' : a.isEmpty = true := by simpa only [eDict] using h
    simp only [sameD, h', Bool.and_self]
theorem sameL_self : ∀ (d : List D), eDictL d = true → sameL d d = true
  | [], _ => rfl
  | x :: xs, h => by
    have h' : eDict x = true ∧ eDictL xs = true := by simpa [eDictL] using h
    simp only [sameL, sameD_self x h'.1, sameL_self xs h'.2, Bool.and_self]
end
def anyA : AP' := fun _ => True
theorem Rp.any {K : PySem.W.Frag} {Z : AP'} {H : Hp} {v : V} {d : D} (r : Rp K Z H v d) : Rp K anyA H v d := r.up fun _ _ => trivial
theorem RpT.any {K : PySem.W.Frag} {Z : AP'} {H : Hp} {v : V} {d : D} (r : RpT K Z H v d) : Rp K anyA H v d := by
  have up : ∀ (ds : List D) (vs : List V), RpAll K Z H vs ds → RpAll K anyA H vs ds := fun ds vs ra => RpAll.keep ⟨fun _ _ _ x => x, fun _ _ _ x => x, fun _ _ _ _ _ x => x, fun _ _ x => x, fun _ _ => trivial, fun _ _ _ x => x, fun _ _ x _ _ => x⟩ ds vs ra
  cases d with
  | list ds => obtain ⟨a, xs, rfl, h1, h2⟩ := r; exact .lst ⟨trivial, h1⟩ (up _ _ h2)
  | dict kvs => obtain ⟨a, o, es, rfl, h1, h2, h3, h4⟩ := r; exact .dct ⟨trivial, o, h1, h2⟩ h3 (up _ _ h4)
  | _ => exact Rp.any r
section
variable {K : PySem.W.Frag} {H : Hp} {X : Cx} {pins : List (Addr × Obj)} {σ : L2.St} {s : Shared}
/-- an empty dict, whatever its keys might be -/
theorem none_dict {h : Heap} {a : Addr} {ob : Obj} {es : Array DictEntry} {n : Nat} (g : h.get? a = some ob) (x : ob.ExactDict) (dd : ob.data = .dict es n) (hl : es.toList = []) (P : Program) (w : World) : h.DictOf (mixKind P w) a [] := by
  have he : es = #[] := by
    apply Array.toList_inj.mp
    exact hl
  subst he
  exact ⟨ob, #[], n, g, x, dd, fun e hm => absurd hm (by simp), .nil, .nil⟩
theorem DObj.exact {P : Program} {w : World} {h : Heap} {o : HO} {a : Addr} (ok : HOk P w H h) (e : H a = some o) (q : DObj o []) : (a == sysModules) = false ∧ ∀ P' w', h.DictOf (mixKind P' w') a [] := by
  have hs := q.size
  cases o with
  | dK kvs =>
    have hk : kvs = [] := List.eq_nil_of_length_eq_zero hs.symm
    subst hk
    obtain ⟨_, y, vs, kv, ob, es, ep, g, x, dd, _, pr, _⟩ := dk_of ok e
    cases kv
    cases hl : es.toList with
    | nil => exact ⟨y, none_dict g x dd hl⟩
    | cons p l => rw [hl] at pr; cases pr
  | dT kvs =>
    have hk : kvs = [] := List.eq_nil_of_length_eq_zero hs.symm
    subst hk
    obtain ⟨_, y, xs, kt, ob, es, ep, g, x, dd, hl, _⟩ := dt_of ok e
    cases kt
    exact ⟨y, none_dict g x dd hl⟩
  | _ => cases q
/-- items that are equal one by one -/
def ItemsEq (A : Around) (s : Shared) (us ws : List Value) : Prop := ∀ j (h1 : j < us.length) (h2 : j < ws.length), SeqAt.EqAt A s us[j] ws[j] true
theorem rcL (I : Inv X pins σ H s) {A : Around} {a b : Addr} {xs ys : List V} (hu : A.units < cLine) (ha : SqL X.K H a xs) (hb : SqL X.K H b ys) (hl : xs.length = ys.length) (k : ∀ us ws, Vals xs us → Vals ys ws → ItemsEq A.in1 s us ws) : SeqAt.RcAt A s (.ref a) (.ref b) true := by
  obtain ⟨us, r1, p1, _⟩ := I.list ha
  obtain ⟨ws, r2, p2, _⟩ := I.list hb
  have e1 : us.toArray.size = ws.toArray.size := by rw [List.size_toArray, List.size_toArray, ← r1.length, ← r2.length, hl]
  have k := SeqAt.RcAt.lists (A := A) (e := fun _ => true) p1.isList p2.isList e1 hu fun j q1 q2 => by
    have z := k us ws r1 r2 j (by simpa using q1) (by simpa using q2)
    simpa using z
  have t : ((List.range us.toArray.size).all fun _ => true) = true := by simp
  rwa [t] at k
theorem rcT (I : Inv X pins σ H s) {A : Around} {a b : Addr} {xs ys : List V} (hu : A.units < cLine) (ha : SqT X.K H a xs) (hb : SqT X.K H b ys) (hl : xs.length = ys.length) (k : ∀ us ws, Vals xs us → Vals ys ws → ItemsEq A.in1 s us ws) : SeqAt.RcAt A s (.ref a) (.ref b) true := by
  obtain ⟨us, r1, p1, _⟩ := I.tuple ha
  obtain ⟨ws, r2, p2, _⟩ := I.tuple hb
  have e1 : us.toArray.size = ws.toArray.size := by rw [List.size_toArray, List.size_toArray, ← r1.length, ← r2.length, hl]
  have k := SeqAt.RcAt.tuples (A := A) (e := fun _ => true) p1 p2 hu fun j q1 q2 => by
    have z := k us ws r1 r2 j (by simpa using q1) (by simpa using q2)
    simpa using z
  have t : ((List.range (min us.toArray.size ws.toArray.size)).all (fun _ => true) && us.toArray.size == ws.toArray.size) = true := by rw [e1]; simp
  rwa [t] at k
mutual
theorem Rp.eqs (I : Inv X pins σ H s) : ∀ (d : D), eDict d = true → ∀ (A : Around), A.units + d.depth < cLine → ∀ (x y : V) (u v : Value), Rp X.K anyA H x d → Rp X.K anyA H y d → RelV x u → RelV y v → SeqAt.EqAt A s u v true
  | .none, _, A, _, _, _, _, _, hx, hy, ru, rv => by cases hx; cases hy; cases ru; cases rv; exact SeqAt.EqAt.same _
  | .bool _, _, A, _, _, _, _, _, hx, hy, ru, rv => by cases hx; cases hy; cases ru; cases rv; exact SeqAt.EqAt.same _
  | .int _, _, A, _, _, _, _, _, hx, hy, ru, rv => by cases hx; cases hy; exact eqAt_same ru rv rfl
  | .str _, _, A, _, _, _, _, _, hx, hy, ru, rv => by cases hx; cases hy; exact eqAt_same ru rv rfl
  | .list ds, he, A, hu, _, _, _, _, hx, hy, ru, rv => by
    cases hx with
    | @lst a xs _ h1 h2 =>
      cases hy with
      | @lst b ys _ h3 h4 =>
        cases ru; cases rv
        by_cases e : a = b
        · subst e; exact SeqAt.EqAt.same _
        · exact SeqAt.EqAt.of_refs e (rcL I (by omega) (.of h1.2) (.of h3.2) (by rw [h2.length, h4.length]) fun us ws r1 r2 => RpAll.eqs I ds (by simpa only [eDict] using he) A.in1 (by simp only [PyData.depth] at hu; show A.units + 1 + _ < _; omega) xs ys us ws h2 h4 r1 r2)
  | .tuple ds, he, A, hu, _, _, _, _, hx, hy, ru, rv => by
    cases hx with
    | @tup a xs _ h1 h2 =>
      cases hy with
      | @tup b ys _ h3 h4 =>
        cases ru; cases rv
        by_cases e : a = b
        · subst e; exact SeqAt.EqAt.same _
        · exact SeqAt.EqAt.of_refs e (rcT I (by omega) h1.sq h3.sq (by rw [h2.length, h4.length]) fun us ws r1 r2 => RpAll.eqs I ds (by simpa only [eDict] using he) A.in1 (by simp only [PyData.depth] at hu; show A.units + 1 + _ < _; omega) xs ys us ws h2 h4 r1 r2)
  | .dict kvs, he, A, hu, _, _, _, _, hx, hy, ru, rv => by
    have hk : kvs = [] := by simpa [eDict] using he
    subst hk
    cases hx with
    | @dct a es _ h1 h2 h3 =>
      cases hy with
      | @dct b fs _ h4 h5 h6 =>
        cases ru; cases rv
        have hes : es = [] := List.map_eq_nil_iff.mp h2
        have hfs : fs = [] := List.map_eq_nil_iff.mp h5
        subst hes; subst hfs
        obtain ⟨_, o, e1, q1⟩ := h1
        obtain ⟨_, o', e2, q2⟩ := h4
        obtain ⟨y1, d1⟩ := q1.exact I.hok e1
        obtain ⟨y2, d2⟩ := q2.exact I.hok e2
        by_cases e : a = b
        · subst e; exact SeqAt.EqAt.same _
        · exact SeqAt.EqAt.of_refs e fun P w E Q h => PySem.W.rcP_dicts (r := true) y1 y2 (d1 P w) (d2 P w) (by omega) (fun _ => .nil) E Q h
theorem RpAll.eqs (I : Inv X pins σ H s) : ∀ (ds : List D), eDictL ds = true → ∀ (A : Around), A.units + PyData.depthAll ds < cLine → ∀ (xs ys : List V) (us ws : List Value), RpAll X.K anyA H xs ds → RpAll X.K anyA H ys ds → Vals xs us → Vals ys ws → ItemsEq A s us ws
  | [], _, A, _, _, _, us, _, h1, h2, r1, r2, j, q1, q2 => by
    cases h1; cases r1
    exact absurd q1 (Nat.not_lt_zero j)
  | d :: ds, he, A, hu, _, _, us, ws, h1, h2, r1, r2, j, q1, q2 => by
    have he' : eDict d = true ∧ eDictL ds = true := by simpa [eDictL] using he
    have hm : PyData.depthAll (d :: ds) = max d.depth (PyData.depthAll ds) := by simp only [PyData.depthAll]
    have := Nat.le_max_left d.depth (PyData.depthAll ds)
    have := Nat.le_max_right d.depth (PyData.depthAll ds)
    cases h1 with
    | cons a1 b1 =>
      cases h2 with
      | cons a2 b2 =>
        cases r1 with
        | cons c1 d1 =>
          cases r2 with
          | cons c2 d2 =>
            cases j with
            | zero => exact Rp.eqs I d he'.1 A (by omega) _ _ _ _ a1 a2 c1 c2
            | succ j => exact RpAll.eqs I ds he'.2 A (by omega) _ _ _ _ b1 b2 d1 d2 j (Nat.lt_of_succ_lt_succ q1) (Nat.lt_of_succ_lt_succ q2)
end
end

/-! ### == -/
def eqD0 (a b : D) : Option D := if SeqAt.shaped a = true ∧ SeqAt.shaped b = true then some (.bool (PyData.eqv a b)) else match a with
  | .list _ => if sameD a b = true ∧ eDict a = true ∧ a.depth ≤ 60 then some (.bool true) else none
  | .tuple _ => if sameD a b = true ∧ eDict a = true ∧ a.depth ≤ 60 then some (.bool true) else none
  | _ => none
def rEqS (K : PySem.W.Frag) : R2 := fun x y H Q => ∃ d, ((∃ ds, d = .list ds) ∨ ∃ ds, d = .tuple ds) ∧ eDict d = true ∧ d.depth ≤ 60 ∧ Rp K anyA H x d ∧ Rp K anyA H y d ∧ Q (.bl true) H
theorem op_eqS {X : Cx} (hu : X.A.units + 64 < cLine) : OpR X (compareOp .Eq) (rEqS X.K) := by
  intro pins s σ H x y v u Q I rx ry h
  obtain ⟨d, hd, he, hp, r1, r2, q⟩ := h
  rcases hd with ⟨ds, rfl⟩ | ⟨ds, rfl⟩
  · cases r1 with
    | @lst a xs _ h1 h2 =>
      cases r2 with
      | @lst b ys _ h3 h4 =>
        cases rx; cases ry
        exact rcL I (by omega) (.of h1.2) (.of h3.2) (by rw [h2.length, h4.length]) (fun us ws r1 r2 => RpAll.eqs I ds (by simpa only [eDict] using he) X.A.in1 (by simp only [PyData.depth] at hp; show X.A.units + 1 + _ < _; omega) xs ys us ws h2 h4 r1 r2) _ _ _ _ ⟨.bl true, H, I, rfl, q⟩
  · cases r1 with
    | @tup a xs _ h1 h2 =>
      cases r2 with
      | @tup b ys _ h3 h4 =>
        cases rx; cases ry
        exact rcT I (by omega) h1.sq h3.sq (by rw [h2.length, h4.length]) (fun us ws r1 r2 => RpAll.eqs I ds (by simpa only [eDict] using he) X.A.in1 (by simp only [PyData.depth] at hp; show X.A.units + 1 + _ < _; omega) xs ys us ws h2 h4 r1 r2) _ _ _ _ ⟨.bl true, H, I, rfl, q⟩
/-- two texts of any signs; else as above -/
def eqD' (a b : D) : Option D := match a with
  | .str x => (match b with
    | .str y => some (.bool (decide (x = y)))
    | b => eqD0 (.str x) b)
  | a => eqD0 a b
def rEqV (K : PySem.W.Frag) : R2 := fun x y H Q => rEqD K x y H Q ∨ rEqS K x y H Q
def rEqW (K : PySem.W.Frag) : R2 := fun x y H Q => rEqV K x y H Q ∨ rEq x y H Q
theorem op_eqW {X : Cx} (hu : X.A.units + 64 < cLine) : OpR X (compareOp .Eq) (rEqW X.K) := ((op_eqD hu).or (op_eqS hu)).or op_eq
theorem eqD'_cases {a b z : D} (h : eqD' a b = some z) : (∃ x y, a = .str x ∧ b = .str y ∧ z = .bool (decide (x = y))) ∨ eqD0 a b = some z := by
  unfold eqD' at h
  split at h
  · split at h
    · cases h; exact .inl ⟨_, _, rfl, rfl, rfl⟩
    · exact .inr h
  · exact .inr h
theorem od_eqW {C : Fix} : OpD C (rEqW C.K) eqD' := by
  intro Z Fs ρ σ H x y d e z Q S rx ry h k
  rcases eqD'_cases h with ⟨a, b, rfl, rfl, rfl⟩ | h
  · have e1 := rx.str
    have e2 := ry.str
    subst e1 e2
    refine .inr ⟨rfl, ?_⟩
    have ed : decide (V.str a = V.str b) = decide (a = b) := decide_eq_decide.mpr ⟨fun z => by cases z; rfl, fun z => by rw [z]⟩
    rw [ed]
    exact fin0 S (.bl _) k
  refine .inl ?_
  unfold eqD0 at h
  split at h
  · rename_i hc
    cases h
    exact .inl ⟨d, e, rx.dp (SeqAt.canLay_of_shaped hc.1), ry.dp (SeqAt.canLay_of_shaped hc.2), hc.1, hc.2, fin0 S (.bl _) k⟩
  · split at h
    · split at h
      · rename_i ds hc
        cases h
        have e := sameD_eq _ _ hc.1
        subst e
        exact .inr ⟨_, .inl ⟨_, rfl⟩, hc.2.1, hc.2.2, rx.any, ry.any, fin0 S (.bl _) k⟩
      · cases h
    · split at h
      · rename_i ds hc
        cases h
        have e := sameD_eq _ _ hc.1
        subst e
        exact .inr ⟨_, .inr ⟨_, rfl⟩, hc.2.1, hc.2.2, rx.any, ry.any, fin0 S (.bl _) k⟩
      · cases h
    · cases h
end NH

/-! NhRo: the script's beginning. -/
namespace NH
open PySem Spec PyProof.Rows L2
open EM

/-- script[:n], a new list -/
def eRo (i : Nat) (n : Int) : EM D := fun ρ => match slot ρ i with
  | .ro _ (.list ds) => some (.ok (.list (cutD ds none (some n))), ρ)
  | _ => none
section
variable {X : Cx} {B : Bx} {W : WX} {e b : Expr} {pos p2 : Pos}
theorem se_ro {i : Nat} {n : Int} (he : PE X e (tVar i)) (hb : PE X b (tE (fx X B) W (lit (.int n)))) : PE X (.Subscript e (.Slice none (some b) none p2) pos) (tE (fx X B) W (eRo i n)) := by
  refine PE_imp (pe_slice sl_list he (sp_none (B := B) (W := W)) (sp_some hb)) fun σ H Q t => ?_
  obtain ⟨Z, Fs, ρ, rr, ρ', S, e, k⟩ := t
  unfold eRo at e
  split at e
  · rename_i tg ds hs
    cases e
    have q := S.sl i
    rw [hs] at q
    obtain ⟨_, hv, a, xs, ds', h1, h2, h3, h4⟩ := q
    cases h2
    have hv' : σ[i]? = some (some (.ref a)) := by rw [hv, h1]
    refine ⟨.ref a, hv', Z, Fs, ρ, .ok none, ρ, S, rfl, fun H1 Z1 Fs1 x1 S1 => ⟨Z1, Fs1, ρ, .ok (some n), ρ, S1, rfl, fun H2 Z2 Fs2 x2 S2 => ?_⟩⟩
    have kp := (S.keeps x1).trans (S1.keeps x2)
    exact ⟨a, xs, rfl, (kp.roL h3).seq, fun p hp => finL S2 hp ((RpAll.keep kp _ _ h4).cut none (some n)) fun v H' Z' x3 S3 rp => k v H' Z' Fs2 ((x1.trans x2).trans x3) S3 rp⟩
  · cases e
end
end NH

/-! NhActs: [f(x) for x in L], L a list that is known, its items' expression walked with the maker's own state at hand. -/
namespace NH
open PySem Spec PyProof.Rows L2
open EM

section
variable {X : Cx} {pins : List (Addr × Obj)} {σ : L2.St} {H : Hp} {s : Shared}
/-- what the loop keeps: D the new list, ys the results so far -/
structure LcP (L : Addr) (od : Obj) (vs : List V) (R : Addr → List V → Hp → Prop) (D : Addr) (ys : List V) (H : Hp) : Prop where
  src : H L = some (.frz od (.lst vs))
  new : H D = some (.lst ys)
  le : ys.length ≤ vs.length
  rest : R D ys H
theorem lc_run {elt iter : Expr} {x : Str} {p0 pos : Pos} {scope : Scope} {i j : Nat} {L : Addr} {od : Obj} {vs : List V} {R : Addr → List V → Hp → Prop} {Q : VK}
    (calm : X.calm = true) (nd : X.N.Nodup) (I : Inv X pins σ H s) (hi : PE X iter (tVar j)) (ok : BlkOk X.N X.env.scope scope [(x, i)])
    (hx : X.N[i]? = some x) (hloc : ∀ (s : Shared) (H : Hp) (C : Addr) (cl : List (Str × Addr)) (fp : List Addr), PG (X.blk s H scope (compEnvC scope cl C X.env) fp) (.Name x p0) (gName i))
    (hs : ∀ v, foldedSetIterable iter X.env v = pure v) (hj : σ[j]? = some (some (.ref L))) (hL : H L = some (.frz od (.lst vs)))
    (start : ∀ D, H D = none → R D [] (upd H D (.lst [])))
    (turn : ∀ (D : Addr) (v : V) (ys : List V) (s0 : Shared) (H0 : Hp) (C : Addr) (cl : List (Str × Addr)) (fp : List Addr) (pb : List (Addr × Obj)) (σb : L2.St) (s' : Shared) (H' : Hp),
      vs[ys.length]? = some v → LcP L od vs R D ys H' → (∀ (pb2 : List (Addr × Obj)) (σ2 : L2.St) (H2 : Hp) (s2 : Shared), Inv (X.blk s0 H0 scope (compEnvC scope cl C X.env) fp) pb2 σ2 H2 s2 → Inv X pins σ H2 s2) → Inv (X.blk s0 H0 scope (compEnvC scope cl C X.env) fp) pb σb H' s' → σb[i]? = some (some v) →
      wpAny (model X.prog X.w) X.A (eval elt (compEnvC scope cl C X.env)) (fun u s2 => ∃ y H2, Inv (X.blk s0 H0 scope (compEnvC scope cl C X.env) fp) pb σb H2 s2 ∧ RelV y u ∧ H2 L = some (.frz od (.lst vs)) ∧ H2 D = some (.lst ys) ∧ R D (ys ++ [y]) (upd H2 D (.lst (ys ++ [y])))) (fun _ _ => False) s')
    (fin : ∀ D ys H', LcP L od vs R D ys H' → ys.length = vs.length → Q (.ref D) H') :
    wpAny (model X.prog X.w) X.A (eval (.ListComp elt [⟨.Name x p0, iter, [], 0⟩] scope pos) X.env) (EP X pins σ Q) X.xe s := by
  have cells : ∀ y ∈ scope.names, y.2 = .free → ∃ c, X.env.cells.lookup y.1 = some c := fun y hy e => by
    cases ok.free y hy e with
    | inl k => exact I.ok.has _ (.inl k)
    | inr k => exact I.ok.has _ (.inr k)
  rw [eval_ListComp]
  refine wpAny_comprehension_free (use := none) rfl hs (closure_ok cells) ok.kind (fun y hy e => by rw [ok.uniq y hy, e]) ?_
  refine thn (hi.run pins s σ H (fun v H1 => v = .ref L ∧ H1 = H) I ⟨_, hj, rfl, rfl⟩) fun u0 s1 z => ?_
  obtain ⟨v0, H1, I1, r0, e0, e1⟩ := z
  subst e0 e1
  cases r0
  obtain ⟨its, rv, pl, hsz⟩ := I1.list (.inl (.inr ⟨od, hL⟩))
  have hlen : vs.length ≤ sizeLine := hsz
  refine wpAny_pyIter_list pl.isList ?_
  generalize hit : s1.heap.objs.size = it
  generalize hs2 : ({ s1 with heap := s1.heap.push { cls := .type "list_iterator", data := .fields #[.ref L, .int 0 0] } } : Shared) = s2
  have old2 : ∀ b o, s1.heap.get? b = some o → s2.heap.get? b = some o := fun b o e => by
    rw [← hs2]; exact Heap.get?_push_of_some _ e
  have I2 : Inv X pins σ H1 s2 := by rw [← hs2]; exact I1.kept (t' := s1.toks) fun b o e => Heap.get?_push_of_some _ e
  have T := turn_list (P := X.prog) (w := X.w) (K := X.K) (tg := .Name x p0) L it
  have at2 : s2.heap.IsListIter it L 0 := by rw [← hs2, ← hit]; exact ⟨_, Heap.get?_push_size _ rfl, rfl, rfl⟩
  have f2 : FpOk X pins H1 it := I1.fpOk (Nat.le_of_eq hit) (I1.hok.fresh (Nat.le_of_eq hit))
  refine wpAny_newObj_type (newEnv_comp ?_) (by show 0 ≤ sizeLine; decide)
  generalize hD : s2.heap.objs.size = D
  have nD : H1 D = none := I2.hok.fresh (Nat.le_of_eq hD)
  have itD : it < D := by
    obtain ⟨o, e, _⟩ := at2
    rw [← hD]; exact Heap.lt_size e
  generalize hs3 : ({ s2 with heap := s2.heap.push { cls := .type "list", data := .seq ([] : List Value).toArray } } : Shared) = s3
  have I3 : Inv X pins σ (upd H1 D (.lst [])) s3 := by
    rw [← hs3]
    exact I2.laid (t' := s2.toks) (fun b o e => Heap.get?_push_of_some _ e) (Nat.le_of_eq hD) ⟨Nat.zero_le _, [], 0, .nil, by rw [← hD]; exact Heap.get?_push_size _ rfl⟩
  have at3 : s3.heap.IsListIter it L 0 := by
    refine T.keep 0 _ _ at2 fun b _ o e => ?_
    rw [← hs3]; exact Heap.get?_push_of_some _ e
  have f3 : FpOk X pins (upd H1 D (.lst [])) it := ⟨by rw [upd_ne (Nat.ne_of_lt itD)]; exact f2.1, f2.2⟩
  have lt3 : it < s3.heap.objs.size := by
    obtain ⟨o, e, _⟩ := at3
    exact Heap.lt_size e
  have all3 : ∀ b ∈ [it], FpOk X pins (upd H1 D (.lst [])) b ∧ b < s3.heap.objs.size := fun b hb => by
    rw [List.mem_singleton.mp hb]; exact ⟨f3, lt3⟩
  have I4 := block_start I3 ok nd all3
  generalize hcl : cellsFrom (s3.heap.objs.size + 1) scope.names (cloFrom X.env.cells scope.names []) = cl at I4
  generalize hC : s3.heap.objs.size = C at I4 hcl
  generalize hH3 : upd H1 D (.lst []) = H3 at I3 I4 f3 all3
  have pg := hloc s3 H3 C cl [it]
  show codeAny _ _ (.compStart (.ListComp elt [⟨.Name x p0, iter, [], 0⟩] scope pos) 0 (.ref it) (.ref D) (compEnvC scope cl C X.env)) (compPost (model X.prog X.w) X.A X.xe none (EP X pins σ Q) (.ref D) C) { s3 with heap := pushCells (s3.heap.push { cls := .type "dict", data := .dict #[] }) scope.names }
  generalize hs4 : ({ s3 with heap := pushCells (s3.heap.push { cls := .type "dict", data := .dict #[] }) scope.names } : Shared) = s4 at I4 ⊢
  have at4 : s4.heap.IsListIter it L 0 := T.keep 0 _ _ at3 fun b _ o e => by
    rw [← hs4]; exact pushCells_keeps _ _ _ _ (Heap.get?_push_of_some _ e)
  let Xb : Cx := X.blk s3 H3 scope (compEnvC scope cl C X.env) [it]
  have itOk : ∀ {σ' : L2.St} {H' : Hp} {s' : Shared}, Inv Xb [] σ' H' s' → H' it = none → ∀ b ∈ [it], FpOk Xb [] H' b := fun {σ' H' s'} J hn b hb => by
    have e : b = it := List.mem_singleton.mp hb
    rw [e]
    have m : it ∈ Xb.ex := List.mem_singleton.mpr rfl
    exact ⟨hn, (J.ok.exf it m).1, J.ok.exfs it m, .inl m, fun y c e => (J.ok.exf it m).2 y c e, fun p hp => absurd (show p ∈ ([] : List (Addr × Obj)) ++ [] from hp) (by simp)⟩
  /- the maker's state at any moment of the loop -/
  have back : ∀ {pb : List (Addr × Obj)} {σ' : L2.St} {H' : Hp} {s' : Shared}, Inv Xb pb σ' H' s' → Inv X pins σ H' s' := fun {pb σ' H' s'} J =>
    I3.call' (ch := [it]) J.os J.base J.hok J.bare fun b hb => by
      have e : b = it := List.mem_singleton.mp hb
      rw [e]
      exact ⟨f3.2.2.2.1, f3.2.1, f3.2.2.2.2.1, f3.2.2.2.2.2⟩
  have loop : codeAny (model X.prog X.w) X.A (.compLoop (.ListComp elt [⟨.Name x p0, iter, [], 0⟩] scope pos) 0 (.ref it) (.ref D) (compEnvC scope cl C X.env)) (compPost (model X.prog X.w) X.A X.xe none (EP X pins σ Q) (.ref D) C) s4 := by
    refine compLoop_any (fun n s' => ∃ ys H', n + ys.length = vs.length ∧ LcP L od vs R D ys H' ∧ Inv Xb [] (wipe σ [i]) H' s' ∧ s'.heap.IsListIter it L ys.length ∧ H' it = none) ?_ vs.length ⟨[], H3, by simp, ?_, I4, at4, f3.1⟩
    · intro n s5 hn
      obtain ⟨ys, H5, hl, lp, I5, at5, n5⟩ := hn
      by_cases hend : ys.length = vs.length
      · have td := T.done Xb rfl rfl rfl calm ys.length [] s5 _ H5 (fun _ _ => False) I5 (itOk I5 n5) at5 ⟨vs, .inl (.inr ⟨od, lp.src⟩), by omega⟩
        refine thnF td fun r s6 h6 => ?_
        obtain ⟨hr, I6⟩ := h6
        subst hr
        have nC : H5 C = none := I6.free
        obtain ⟨m, hm, _⟩ := I6.loc
        have I7 := back I6
        refine ⟨m, hm, fun h2 sb => ?_⟩
        obtain ⟨g0, g1, g2, g3, g4, g5⟩ := I3.fpOk (b := C) (Nat.le_of_eq hC) nC
        exact ⟨.ref D, H5, I7.turned (t' := s6.toks) (fun b o hb e => (sb.2 b hb).trans e) g0 g1 g3 g4 g5, rfl, fin D ys H5 lp hend⟩
      · have lt : ys.length < vs.length := by have := lp.le; omega
        have ti := T.item Xb rfl rfl rfl calm ys.length [] s5 _ H5 (fun _ _ => False) I5 (itOk I5 n5) at5 ⟨vs, vs[ys.length], .inl (.inr ⟨od, lp.src⟩), by simp [lt]⟩
        refine thnF ti fun r s6 h6 => ?_
        obtain ⟨u, hr, h6⟩ := h6
        subst hr
        refine thnF h6 fun _ s7 h7 => ?_
        obtain ⟨v, H7, I7, r7, y7, at7, n7⟩ := h7
        obtain ⟨e7, hv⟩ := y7
        subst e7
        have hv2 := hv vs (.inl (.inr ⟨od, lp.src⟩))
        have I7p := I7.pinned (itOk I7 (n7 it (List.mem_singleton.mpr rfl))) (T.obj _ _ at7)
        refine thnF (pg.run _ s7 _ H7 v u (fun σ2 H2 => σ2 = (wipe σ [i]).set i (some v) ∧ H2 = H7) I7p r7 ⟨rfl, rfl⟩) fun _ s8 h8 => ?_
        obtain ⟨σ8, H8, I8, e8, e9⟩ := h8
        subst e8 e9
        refine wpAny_tests_nil ?_
        simp only [if_true]
        have li : i < (wipe σ [i]).length := by
          rw [wipe_length, I.len]
          exact (List.getElem?_eq_some_iff.mp hx).1
        refine thnF (turn D v ys s3 H3 C cl [it] _ _ s8 H8 hv2 lp (fun _ _ _ _ => back) I8 (by rw [List.getElem?_set_self li])) fun z s10 h10 => ?_
        obtain ⟨y, H10, I10, r10, q1, q2, q3⟩ := h10
        refine app_ok (X := Xb) I10 q2 (Nat.lt_of_lt_of_le lt hlen) r10 fun s11 I11 => ?_
        have nD' : L ≠ D := fun e => by
          subst e
          rw [q1] at q2
          cases q2
        have pin' : ∀ o, s7.heap.get? it = some o → s11.heap.get? it = some o ∧ upd H10 D (.lst (ys ++ [y])) it = none := fun o e =>
          let z := I11.pin (it, o) (List.mem_append_right _ (List.mem_append_right _ (mem_pinsAt (List.mem_singleton.mpr rfl) e)))
          ⟨z.1, z.2.1⟩
        refine ⟨n - 1, by omega, ys ++ [y], _, by simp; omega, ⟨by rw [upd_ne nD']; exact q1, upd_same, by simp; omega, q3⟩, (I11.unpinned (pins := [])).weak (by simp [wipe_length]) (fun k v e => ?_), ?_, ?_⟩
        · have h2 : (wipe σ [i])[k]? = some (some v) := e
          have ne : i ≠ k := fun z => by
            subst z
            exact (wipe_some h2).2 (List.mem_singleton.mpr rfl)
          rw [List.getElem?_set_ne ne]
          exact h2
        · rw [List.length_append]
          exact T.keep _ _ _ at7 fun b hb o e => by
            rw [List.mem_singleton.mp hb] at e ⊢
            exact (pin' o e).1
        · obtain ⟨o, e, _⟩ := T.obj _ _ at7 it (List.mem_singleton.mpr rfl)
          exact (pin' o e).2
    · rw [← hH3]
      have nDL : L ≠ D := ne_of_none hL nD
      exact ⟨by rw [upd_ne nDL]; exact hL, upd_same, Nat.zero_le _, start D nD⟩
  exact codeAny_compStart_list loop (T.self X.A 0 _ _ _ at4 loop)
end
end NH

/-! NhActs2: heard(act) in the block, act a lambda that is pinned. -/
namespace NH
open PySem Spec PyProof.Rows L2
open EM
section
variable {X : Cx} {pins : List (Addr × Obj)} {σ : L2.St} {H : Hp} {s : Shared}
/-- what is known of a lambda that was made: its object, its code object -/
structure Made (X : Cx) (pins : List (Addr × Obj)) (H : Hp) (params : Arguments) (body : Expr) (scope : Scope) (f : Addr) (c' : Addr) : Prop where
  obj : ∃ pm ctv, (f, PySem.W.kla_obj "<lambda>" (X.env.qual ++ "<lambda>") params body scope (cloFrom X.env.cells scope.names []) pm c' ctv) ∈ X.pn ++ pins
  nofr : f ∉ frs X.stack
  code : H c' = some (LamX.CodeO c' (X.env.qual ++ "<lambda>"))
theorem act_call {x a act told : Str} {Ng : List Str} {cl : List Cl} {params : Arguments} {body : Expr} {scope sc : Scope} {p pa pos : Pos} {f c' C : Addr} {k i : Nat} {s0 : Shared} {H0 : Hp} {cl0 : List (Str × Addr)} {fp : List Addr} {pb : List (Addr × Obj)} {σb : L2.St} {t : XK → TE} {Q : VK}
    (F : HeardF X.prog X.w X.K X.mg X.base x a Ng told cl) (Ib : Inv (X.blk s0 H0 sc (compEnvC sc cl0 C X.env) fp) pb σb H s) (back : ∀ (pb2 : List (Addr × Obj)) (σ2 : L2.St) (H2 : Hp) (s2 : Shared), Inv (X.blk s0 H0 sc (compEnvC sc cl0 C X.env) fp) pb2 σ2 H2 s2 → Inv X pins σ H2 s2) (M : Made X pins H params body scope f c')
    (hg : Gl (X.blk s0 H0 sc (compEnvC sc cl0 C X.env) fp) x) (var : PE (X.blk s0 H0 sc (compEnvC sc cl0 C X.env) fp) (.Name act pa) (tVar i)) (hi : σb[i]? = some (some (.ref f)))
    (hr : Room (k + 2) X.A) (L : LamX.LamS X.env.scope scope)
    (hbind : ∀ (q : Str) (cl : List (Str × Addr)) (pm cv ctv : Value), bindArgs (PySem.W.kla_fn "<lambda>" q params body scope cl pm cv ctv) ⟨[], []⟩ = pure [])
    (hbody : ∀ (A : Around) (outer : List Env) (s : Shared) (H : Hp) (E : XK) (f c' : Addr), Room k (A.deeper (LamX.lamEnv X scope s.heap.objs.size f c')) → PE (LamX.lamCx X A outer s H E scope f c') body (t E))
    (h : TTh X.K told cl (fun E H' Q' => t E σ H' Q') H Q)
    (hdb : (x == ("__debug__" : Str)) = false := by decide) (hd : (a == ("__debug__" : Str)) = false := by decide) (hcd : (a == ("__classdict__" : Str)) = false := by decide) :
    wpAny (model X.prog X.w) X.A (eval (.Call (.Name x p) [.Name act pa] [] pos) (compEnvC sc cl0 C X.env)) (EP (X.blk s0 H0 sc (compEnvC sc cl0 C X.env) fp) pb σb Q) (fun _ _ => False) s := by
  obtain ⟨g, pg, sg, dV, kV, doc, pm, cdv, ct, oc, an, od, osl, h0, hds, j, j2, p0, p1, p2, p3, p4, p8, e1, e2, e3, e4, e5, e6, e7, e8⟩ := F.ex
  have G := heard_gives (X := X) (a := a) (q := X.env.qual ++ "<lambda>") (told := told) (j := j) (j2 := j2) (p0 := p0) (p1 := p1) (p2 := p2) (p3 := p3) (p4 := p4) (p8 := p8) F.nd F.st fun s H => e8 X s H rfl rfl rfl rfl rfl
  obtain ⟨pml, ctv, hp⟩ := M.obj
  refine wpAny_Call_Name_kw (ld_glob Ib hg e1 (PySem.W.callWith_K (h₀ := X.base) Ib.ok.mod.kin e2 ?_ (by rfl) (by rfl)) hdb)
  show wpAny _ _ (spliced ((false, eval (.Name act pa) (compEnvC sc cl0 C X.env)) :: backTo pos (starEach [] (compEnvC sc cl0 C X.env)))) _ _ s
  refine Calls.spliced_cons (thn (var.run pb s σb H (fun v H1 => v = .ref f ∧ H1 = H) Ib ⟨_, hi, rfl, rfl⟩) fun u s1 z => ?_)
  obtain ⟨v1, H1, J1, r1, q1, q2⟩ := z
  subst q1 q2
  cases r1
  refine Calls.spliced_nil ⟨J1.kIn, ?_⟩
  have Im := back _ _ _ _ J1
  obtain ⟨hf, hfn, _⟩ := Im.pin _ hp
  have rc : codeAny (model X.prog X.w) X.A (.call (.ref g) ⟨[.ref f], []⟩) (CR C8.CX0 X.stack X.prog X.w H1 s1 Q C8.E0) s1 := by
    refine LamX.run_ofS (N := Ng) (ps := [a]) (us := [.ref f]) (vs := [.ref f]) e3 e4 e6 hr Im.env0
      (e5 s1 [.ref f] Im.kIn rfl) (.cons rfl .nil) rfl fun hr2 => ?_
    obtain ⟨t2, ht2, hq2⟩ := G f c' s1 H1 Q (fun E H' Q' => t E σ H' Q') (fun W pn xe E q1 q2 tk hW =>
      LamX.pe_act (i := 0) Im L hf hfn M.nofr (hbind _ _ _ _ _) tk hW hr2 (fun A outer s H r3 => hbody A outer s H E f c' r3) F.at0 e7 hd hcd) M.code h
    exact ⟨t2, ht2.nox, hq2⟩
  refine wpAny_call (codeAny_mono rc fun r s2 hq => ?_)
  cases r with
  | error e => exact (show False from hq).elim
  | ok fl =>
    cases fl with
    | ret u => exact J1.after hq
    | next => exact False.elim hq
    | brk => exact False.elim hq
    | cont => exact False.elim hq
end
end NH

/-! NhActs3: a list of lambdas made by a display and appends, known from then on; heard(act) for each of them. -/
namespace NH
open PySem Spec PyProof.Rows L2
open EM

/-! ### plain -/
def isUn : Sl → Bool
  | .un => true
  | _ => false
def isKnS (t : Nat) : Sl → Bool
  | .kn s => s == t
  | _ => false
def tagged (t : Nat) : Sl → Bool
  | .rf s _ _ => s == t
  | .ro s _ => s == t
  | .kn s => s == t
  | _ => false
def noTag (t : Nat) (ρ : Env') : Bool := ρ.all fun s => !tagged t s
/-- slot i is known under the tag t while m runs -/
def sActs (i t : Nat) (m : EM Fl) : EM Fl := fun ρ => if isUn (slot ρ i) = true ∧ noTag t ρ = true ∧ i < ρ.length then (match m (ρ.set i (.kn t)) with
  | some (r, ρ') => if isKnS t (slot ρ' i) = true ∧ noTag t (ρ'.set i .un) = true then some (r, ρ'.set i .un) else none
  | none => none) else none
def isKn (i t : Nat) : EM Unit := fun ρ => if isKnS t (slot ρ i) = true then some (.ok (), ρ) else none
def seqH (told : Str) (tags : List Tag) : List (EM D) → EM (List D)
  | [] => EM.ret []
  | m :: ms => bnd (heardM told tags m) fun d => bnd (seqH told tags ms) fun ds => EM.ret (d :: ds)
def eActs (i t : Nat) (told : Str) (tags : List Tag) (ms : List (EM D)) : EM (List D) := bnd (isKn i t) fun _ => seqH told tags ms

/-! ### making -/
structure LamI where
  params : Arguments
  body : Expr
  scope : Scope
section
variable {X : Cx} {pins : List (Addr × Obj)} {σ : L2.St} {H : Hp} {s : Shared}
def FunObj (X : Cx) (li : LamI) (pm : Value) (c' : Addr) (ctv : Value) : Obj := PySem.W.kla_obj "<lambda>" (X.env.qual ++ "<lambda>") li.params li.body li.scope (cloFrom X.env.cells li.scope.names []) pm c' ctv
/-- the value v is the lambda li -/
def IsLam (X : Cx) (pl : List (Addr × Obj)) (H : Hp) (li : LamI) (v : V) : Prop := ∃ f c', v = .ref f ∧ (∃ pm ctv, (f, FunObj X li pm c' ctv) ∈ pl) ∧ f ∉ frs X.stack ∧ H c' = some (LamX.CodeO c' (X.env.qual ++ "<lambda>"))
theorem IsLam.mono {pl pl' : List (Addr × Obj)} {H' : Hp} {li : LamI} {v : V} (h : IsLam X pl H li v) (hp : ∀ p ∈ pl, p ∈ pl') (hh : ∀ c q, H c = some (LamX.CodeO c q) → H' c = some (LamX.CodeO c q)) : IsLam X pl' H' li v := by
  obtain ⟨f, c', e, ⟨pm, ctv, m⟩, n, h⟩ := h
  exact ⟨f, c', e, ⟨pm, ctv, hp _ m⟩, n, hh _ _ h⟩
theorem codeO_nl {c : Addr} {q : Str} : ¬ LD (LamX.CodeO c q) := fun h => by
  unfold LamX.CodeO at h
  rcases h with ⟨xs, h⟩ | ⟨es, h⟩
  · cases h
  · cases h
theorem codeO_nt {c : Addr} {q : Str} : nt (LamX.CodeO c q) := fun ps => LamX.codeO_ne ps
structure LamOk (X : Cx) (T : List (Addr × Str)) (c P : Addr) (li : LamI) : Prop where
  df : defaultsOf li.params X.env = ([], [])
  fr : ∀ y ∈ li.scope.names, y.2 = .free → ∃ c, X.env.cells.lookup y.1 = some c
/-- a lambda is made, and pinned -/
theorem lam_pin {C : Fix} {Z : AP'} {Fs : Nat → List Addr} {ρ : Env'} {c P : Addr} {li : LamI} {pos : Pos} {E : Value → Shared → Prop} {Q : Value → Shared → Prop} (I : Inv X pins σ H s) (S : Sim C Z Fs ρ σ H) (TB : LamX.TabB X.base X.mg c P) (hcode : X.env.code = .ref c)
    (hm : (P, X.env.qual ++ "<lambda>") ∈ C.T) (hu : ∀ p ∈ C.T, p.1 = P → p.2 = X.env.qual ++ "<lambda>") (L : LamOk X C.T c P li)
    (h : ∀ (f : Addr) (o : Obj) (H1 : Hp) (s' : Shared), Inv X ((f, o) :: pins) σ H1 s' → LamX.ExtN H H1 → Sim C Z Fs ρ σ H1 → Ext Z H (InF Fs) Z H1 (InF Fs) → IsLam X ((f, o) :: pins) H1 li (.ref f) → Q (.ref f) s') :
    wpAny (model X.prog X.w) X.A (eval (.Lambda li.params li.body li.scope pos) X.env) Q E s := by
  refine LamX.lam_make2 (T := C.T) I TB hcode hm hu S.tb L.df L.fr fun f c' pm ctv H1 s' I1 xN tb hf hn hfr hco => ?_
  obtain ⟨S1, x1⟩ := S.tabs xN tb
  have nL : f ≠ X.env.locals := fun e => by
    obtain ⟨m, ⟨o, es, ep, ho, hx, hd, _⟩, _⟩ := I1.loc
    rw [← e, hf] at ho
    cases ho
    cases hx
  have nF : f ∉ X.fs := fun z => hfr (by
    have ok := I1.ok.stk
    rcases ok with e | ⟨e, _⟩
    · rw [e]; exact z
    · rw [e]
      obtain ⟨ev, he, q⟩ := List.mem_filterMap.mp z
      exact List.mem_filterMap.mpr ⟨ev, List.mem_cons_of_mem _ he, q⟩)
  have I2 : Inv X ((f, FunObj X li pm c' ctv) :: pins) σ H1 s' := I1.pins_of fun p hp => by
    rcases List.mem_cons.mp hp with e | hp
    · rw [e]; exact ⟨hf, hn, nL, nF, fun v z => by cases z⟩
    · exact I1.pin p (List.mem_append_right _ hp)
  exact h f _ H1 s' I2 xN S1 x1 ⟨f, c', rfl, ⟨pm, ctv, List.mem_cons_self⟩, hfr, hco⟩
end
/-- an unset slot may hold anything -/
theorem Sim.setUn {C : Fix} {Z : AP'} {Fs : Nat → List Addr} {ρ : Env'} {σ : L2.St} {H : Hp} (S : Sim C Z Fs ρ σ H) {i : Nat} {ov : Option V} (h : slot ρ i = .un) : Sim C Z Fs ρ (σ.set i ov) H := by
  refine ⟨fun j => ?_, S.nd, S.dj, S.zf, S.zin, S.tb, by rw [List.length_set]; exact S.len⟩
  have q := S.sl j
  by_cases e : i = j
  · subst e
    rw [h] at q ⊢
    exact q
  · rw [List.getElem?_set_ne e]; exact q
/-- what is known while the list is made -/
structure ActS (X : Cx) (C : Fix) (i : Nat) (pins : List (Addr × Obj)) (lis : List LamI) (L : Addr) (vs : List V) (H0 : Hp) (Z : AP') (Fs : Nat → List Addr) (ρ : Env') (σ : L2.St) (H : Hp) : Prop where
  ext : Ext Z H0 (InF Fs) Z H (fun a => InF Fs a ∨ a = L)
  sim : Sim C Z Fs ρ σ H
  un : slot ρ i = .un
  at_ : σ[i]? = some (some (.ref L))
  lst : H L = some (.lst vs)
  nz : ¬ Z L
  nf : ¬ InF Fs L
  made : Paired (IsLam X pins H) lis vs
theorem paired_imp {α β : Type} {R R' : α → β → Prop} (h : ∀ a b, R a b → R' a b) : ∀ {l : List α} {m : List β}, Paired R l m → Paired R' l m
  | _, _, .nil => .nil
  | _, _, .cons r t => .cons (h _ _ r) (paired_imp h t)
theorem paired_snoc {α β : Type} {R : α → β → Prop} {a : α} {b : β} (r : R a b) : ∀ {l : List α} {m : List β}, Paired R l m → Paired R (l ++ [a]) (m ++ [b])
  | _, _, .nil => .cons r .nil
  | _, _, .cons q t => .cons q (paired_snoc r t)
section
variable {X : Cx} {C : Fix} {Z : AP'} {Fs : Nat → List Addr} {ρ : Env'} {pins : List (Addr × Obj)} {σ : L2.St} {H : Hp} {s : Shared} {c P : Addr} {li : LamI} {i : Nat} {x : Str}
/-- x = [lambda: e] -/
theorem mk_first {pos p1 p2 lp : Pos} {E : Value → Shared → Prop} {Q : Flow → Shared → Prop} (I : Inv X pins σ H s) (S : Sim C Z Fs ρ σ H) (TB : LamX.TabB X.base X.mg c P) (hcode : X.env.code = .ref c)
    (hm : (P, X.env.qual ++ "<lambda>") ∈ C.T) (hu : ∀ p ∈ C.T, p.1 = P → p.2 = X.env.qual ++ "<lambda>") (LO : LamOk X C.T c P li) (nd : X.N.Nodup) (hi : X.N[i]? = some x) (hx : X.env.scope.names.lookup x = some .local) (un : slot ρ i = .un)
    (hw : swapsWith (.List [.Lambda li.params li.body li.scope lp] p1) (some (.Name x p2)) pos.line X.env = pure false)
    (h : ∀ (p : Addr × Obj) (L f : Addr) (H1 : Hp) (s1 : Shared), Inv X (p :: pins) (σ.set i (some (.ref L))) H1 s1 → ActS X C i (p :: pins) [li] L [.ref f] H Z Fs ρ (σ.set i (some (.ref L))) H1 → Q .next s1) :
    wpAny (model X.prog X.w) X.A (exec (.Assign [.Name x p2] (.List [.Lambda li.params li.body li.scope lp] p1) pos) X.env) Q E s := by
  refine wpAny_Assign_Name (wpAny_List_spliced ?_) hw
  show wpAny _ _ (spliced ((false, eval (.Lambda li.params li.body li.scope lp) X.env) :: backTo p1 (starEach [] X.env))) _ _ s
  refine Calls.spliced_cons ?_
  refine lam_pin I S TB hcode hm hu LO fun f o H1 s1 I1 xN S1 x1 il => ?_
  refine Calls.spliced_nil ⟨by show 1 ≤ sizeLine; decide, ?_⟩
  have hf : H1 s1.heap.objs.size = none := I1.hok.fresh (Nat.le_refl _)
  generalize hL : s1.heap.objs.size = L at hf ⊢
  obtain ⟨S2, x2, kp2, nz2, nf2⟩ := S1.newF (o := .lst [.ref f]) hf
  have I2 : Inv X ((f, o) :: pins) σ (upd H1 L (.lst [.ref f])) { s1 with heap := s1.heap.push { cls := .type "list", data := .seq ([.ref f] : List Value).toArray } } :=
    I1.laid (t' := s1.toks) (fun b u e => Heap.get?_push_of_some _ e) (Nat.le_of_eq hL) ⟨by show 1 ≤ sizeLine; decide, [.ref f], 0, .cons rfl .nil, by rw [← hL]; exact Heap.get?_push_size _ rfl⟩
  refine store_ok (v := .ref L) I2 nd hi (.inl hx) rfl (fun s3 I3 => ?_) (.inr hx)
  refine h (f, o) L f _ s3 I3 ⟨x1.trans (x2.less fun a z => z.elim .inl fun e => .inr (by rw [e]; exact List.mem_singleton.mpr rfl)), S2.setUn un, un, ?_, upd_same, nz2, nf2, .cons (il.mono (fun _ z => z) fun c q e => by rw [upd_ne (ne_of_none e hf)]; exact e) .nil⟩
  have li : i < σ.length := by
    rw [I.len]
    exact (List.getElem?_eq_some_iff.mp hi).1
  rw [List.getElem?_set_self li]
/-- x.append(lambda: e) -/
inductive AppSt (X : Cx) (x : Str) : Stmt → LamI → Prop
  | mk {params : Arguments} {body : Expr} {scope : Scope} {pos apos cpos lp epos : Pos} (hbase : attributeBase (.Name x pos) "append" X.env (eval (.Name x pos) X.env) = eval (.Name x pos) X.env)
    (hfew : ((backTo cpos (starEach [.Lambda params body scope lp] X.env)).all (fun x => !x.1) && (backToKw cpos (keywordEach [] X.env)).all (fun x => x.1.isSome)
      && decide ([Expr.Lambda params body scope lp].length + ([] : List Keyword).length + (if ([] : List Keyword).isEmpty then 0 else 1) < 30)) = true)
    (hline : (apos.endLine == cpos.line) = true)
    (hsw : swapsWith (.Call (.Attribute (.Name x pos) "append" apos) [.Lambda params body scope lp] [] cpos) none epos.line X.env = pure false) :
    AppSt X x (.Expr (.Call (.Attribute (.Name x pos) "append" apos) [.Lambda params body scope lp] [] cpos) epos) ⟨params, body, scope⟩
theorem mk_app {st : Stmt} {lis : List LamI} {L : Addr} {vs : List V} {E : Value → Shared → Prop} {Q : Flow → Shared → Prop} (I : Inv X pins σ H s) {H0 : Hp} (A : ActS X C i pins lis L vs H0 Z Fs ρ σ H) (TB : LamX.TabB X.base X.mg c P) (hcode : X.env.code = .ref c)
    (hm : (P, X.env.qual ++ "<lambda>") ∈ C.T) (hu : ∀ p ∈ C.T, p.1 = P → p.2 = X.env.qual ++ "<lambda>") (LO : LamOk X C.T c P li) (var : ∀ pos, PE X (.Name x pos) (tVar i)) (hl : vs.length < 1000) (hE : ∀ u s', X.xe u s' → E u s')
    (ap : AppSt X x st li)
    (h : ∀ (p : Addr × Obj) (f : Addr) (H1 : Hp) (s1 : Shared), Inv X (p :: pins) σ H1 s1 → ActS X C i (p :: pins) (lis ++ [li]) L (vs ++ [.ref f]) H0 Z Fs ρ σ H1 → Q .next s1) :
    wpAny (model X.prog X.w) X.A (exec st X.env) Q E s := by
  obtain ⟨hbase, hfew, hline, hsw⟩ := ap
  rename_i params body scope pos apos cpos lp epos
  refine wpAny_Expr_any ?_ I.quiet hsw
  refine wpAny_Call_method_late hbase hfew hline rfl (wpAny_mono ((var pos).run pins s σ H (fun v H1 => v = .ref L ∧ H1 = H) I ⟨_, A.at_, rfl, rfl⟩) (fun v s1 z => ?_) hE)
  obtain ⟨v1, H1, I1, r1, q1, q2⟩ := z
  subst q1 q2
  obtain ⟨h1, h2⟩ := tyV_is (T := "list") I1 r1 (.inl ⟨rfl, vs, .of A.lst⟩)
  refine ⟨"list", "list.append", PySem.F.plainAttrs_list, PySem.F.slot_list_append, PySem.F.type_list_append, h1, h2, ?_⟩
  cases r1
  refine Calls.callWith_builtin (by rfl) (Calls.evalArgs_plain ?_)
  show wpAny _ _ (spliced ((false, eval (.Lambda params body scope lp) X.env) :: backTo cpos (starEach [] X.env))) _ _ s1
  refine Calls.spliced_cons ?_
  refine lam_pin I1 A.sim TB hcode hm hu LO fun f o H2 s2 I2 xN S2 x2 il => ?_
  have hL2 : H2 L = some (.lst vs) := x2.keep L _ A.lst A.nf (fun ps => by intro z; cases z)
  refine Calls.spliced_nil ?_
  refine wpAny_mono (mt_append (X := X) ((f, o) :: pins) s2 σ H2 (.ref L) [.ref f] (.ref L) [.ref f] (fun v H3 => H3 = upd H2 L (.lst (vs ++ [.ref f]))) I2 rfl (.cons rfl .nil) ⟨L, vs, .ref f, rfl, rfl, hL2, by rw [sizeL]; omega, rfl⟩) (fun u s3 z => ?_) hE
  obtain ⟨v3, H3, I3, _, q3⟩ := z
  subst q3
  obtain ⟨S3, kp3⟩ := S2.grow (acc' := vs ++ [.ref f]) hL2 A.nz A.nf
  have cne : ∀ c q, H2 c = some (LamX.CodeO c q) → upd H2 L (.lst (vs ++ [.ref f])) c = some (LamX.CodeO c q) := fun c q e => by
    rw [upd_ne (fun z => by subst z; rw [hL2] at e; have e' := (Option.some.inj e).symm; unfold LamX.CodeO at e'; cases e')]; exact e
  refine h (f, o) f _ s3 I3 ⟨(A.ext.trans (x2.wid L)).trans Ext.growL, S3, A.un, A.at_, upd_same, A.nz, A.nf, paired_snoc (il.mono (fun _ z => z) cne) (paired_imp (fun a b r => ?_) A.made)⟩
  exact r.mono (fun p hp => List.mem_cons_of_mem _ hp) fun c q e => cne c q (x2.keep c _ e (fun z => by
    obtain ⟨o, ho, l⟩ := A.sim.objF z
    rw [e] at ho; cases ho
    exact codeO_nl l) codeO_nt)
/-- appends, then the rest -/
inductive ActSts (X : Cx) (x : Str) : List Stmt → List LamI → List Stmt → Prop
  | done {rest : List Stmt} : ActSts X x rest [] rest
  | app {st : Stmt} {li : LamI} {sts rest : List Stmt} {lis : List LamI} : AppSt X x st li → ActSts X x sts lis rest → ActSts X x (st :: sts) (li :: lis) rest
theorem mk_apps {sts rest : List Stmt} {lis2 : List LamI} {E : Value → Shared → Prop} {Q : Flow → Shared → Prop} {H0 : Hp} {L : Addr} (TB : LamX.TabB X.base X.mg c P) (hcode : X.env.code = .ref c)
    (hm : (P, X.env.qual ++ "<lambda>") ∈ C.T) (hu : ∀ p ∈ C.T, p.1 = P → p.2 = X.env.qual ++ "<lambda>") (var : ∀ pos, PE X (.Name x pos) (tVar i)) (hE : ∀ u s', X.xe u s' → E u s') (A : ActSts X x sts lis2 rest) :
    ∀ {pins : List (Addr × Obj)} {lis : List LamI} {vs : List V} {H : Hp} {s : Shared}, Inv X pins σ H s → ActS X C i pins lis L vs H0 Z Fs ρ σ H → (∀ li ∈ lis2, LamOk X C.T c P li) → vs.length + lis2.length < 1000 →
      (∀ (pl : List (Addr × Obj)) (vs' : List V) (H1 : Hp) (s1 : Shared), Inv X (pl ++ pins) σ H1 s1 → ActS X C i (pl ++ pins) (lis ++ lis2) L vs' H0 Z Fs ρ σ H1 → wpAny (model X.prog X.w) X.A (execs rest X.env) Q E s1) →
      wpAny (model X.prog X.w) X.A (execs sts X.env) Q E s := by
  induction A with
  | done => intro pins lis vs H s I A0 _ _ k; exact k [] vs H s I (by rw [List.append_nil]; exact A0)
  | @app st li sts rest lis2 ap _ ih =>
    intro pins lis vs H s I A0 ok hl k
    refine wpAny_execs_cons (mk_app I A0 TB hcode hm hu (ok li List.mem_cons_self) var (by simp at hl; omega) hE ap fun p f H1 s1 I1 A1 => ?_)
    refine ih I1 A1 (fun l hl => ok l (List.mem_cons_of_mem _ hl)) (by simp at hl ⊢; omega) fun pl vs' H2 s2 I2 A2 => ?_
    have e1 : pl ++ p :: pins = (pl ++ [p]) ++ pins := by simp
    have e2 : lis ++ [li] ++ lis2 = lis ++ li :: lis2 := by simp
    rw [e1] at I2 A2
    rw [e2] at A2
    exact k _ vs' H2 s2 I2 A2
end

/-! ### known from then on -/
def Fix.know (C : Fix) (t : Nat) (L : Addr) (fs : List (Addr × HO)) : Fix := { C with tv := fun s => if s = t then .ref L else C.tv s, kf := fun s => if s = t then fs else C.kf s }
def Bx.know (B : Bx) (t : Nat) (L : Addr) (fs : List (Addr × HO)) : Bx := { B with tv := fun s => if s = t then .ref L else B.tv s, kf := fun s => if s = t then fs else B.kf s }
theorem SlR.know {C : Fix} {t : Nat} {L : Addr} {fs : List (Addr × HO)} {Z : AP'} {H : Hp} {o : Option (Option V)} {F : List Addr} {s : Sl} (hn : tagged t s = false) : SlR C Z H s o F ↔ SlR (C.know t L fs) Z H s o F := by
  cases s with
  | un => exact Iff.rfl
  | fz d => exact Iff.rfl
  | ow k d => exact Iff.rfl
  | rf u k d =>
    have ne : u ≠ t := fun e => by simp [tagged, e] at hn
    unfold SlR Fix.know
    simp only [if_neg ne]
  | ro u d =>
    have ne : u ≠ t := fun e => by simp [tagged, e] at hn
    unfold SlR Fix.know
    simp only [if_neg ne]
  | kn u =>
    have ne : u ≠ t := fun e => by simp [tagged, e] at hn
    unfold SlR Fix.know
    simp only [if_neg ne]
theorem noTag_at {t : Nat} {ρ : Env'} (h : noTag t ρ = true) (j : Nat) : tagged t (slot ρ j) = false := by
  by_cases hj : j < ρ.length
  · have := List.all_eq_true.mp h ρ[j] (List.getElem_mem hj)
    have e : slot ρ j = ρ[j] := by unfold slot; rw [List.getD_eq_getElem?_getD, List.getElem?_eq_getElem hj]; rfl
    rw [e]
    simpa using this
  · rw [slot_out (by omega)]; rfl
section
variable {C : Fix} {Z : AP'} {Fs : Nat → List Addr} {ρ : Env'} {σ : L2.St} {H : Hp} {t i : Nat} {L : Addr} {fs : List (Addr × HO)}
theorem Sim.toKn (S : Sim C Z Fs ρ σ H) (hn : noTag t ρ = true) (hi : slot ρ i = .un) (hl : i < ρ.length) (hv : σ[i]? = some (some (.ref L))) (hf : ∀ p ∈ fs, H p.1 = some p.2 ∧ ¬ LD p.2 ∧ nt p.2) : Sim (C.know t L fs) Z Fs (ρ.set i (.kn t)) σ H := by
  refine ⟨fun j => ?_, S.nd, S.dj, S.zf, S.zin, S.tb, by rw [List.length_set]; exact S.len⟩
  have q := S.sl j
  rw [slot_set]
  by_cases e : i = j
  · subst e
    rw [if_pos ⟨rfl, hl⟩]
    rw [hi] at q
    refine ⟨q, ?_, fun p hp => hf p ?_⟩
    · show σ[i]? = some (some (if t = t then _ else _))
      rw [if_pos rfl]; exact hv
    · have hp' : p ∈ (if t = t then fs else C.kf t) := hp
      rw [if_pos rfl] at hp'; exact hp'
  · rw [if_neg (fun z => e z.1)]
    exact (SlR.know (noTag_at hn j)).mp q
theorem Sim.ofKn {ρ' : Env'} (S : Sim (C.know t L fs) Z Fs ρ' σ H) (hk : isKnS t (slot ρ' i) = true) (hn : noTag t (ρ'.set i .un) = true) : Sim C Z Fs (ρ'.set i .un) σ H := by
  refine ⟨fun j => ?_, S.nd, S.dj, S.zf, S.zin, S.tb, by rw [List.length_set]; exact S.len⟩
  have q := S.sl j
  by_cases e : i = j
  · subst e
    have hl : i < ρ'.length := slot_lt fun z => by rw [z] at hk; cases hk
    rw [slot_set, if_pos ⟨rfl, hl⟩]
    cases hs : slot ρ' i with
    | kn u => rw [hs] at q; exact q.1
    | _ => rw [hs] at hk; cases hk
  · have hs : slot (ρ'.set i .un) j = slot ρ' j := by rw [slot_set, if_neg (fun z => e z.1)]
    have := noTag_at hn j
    rw [hs] at this ⊢
    exact (SlR.know this).mpr q
end
/-- a list that nobody has is locked -/
theorem Sim.lockL {C : Fix} {Z : AP'} {Fs : Nat → List Addr} {ρ : Env'} {σ : L2.St} {H : Hp} (S : Sim C Z Fs ρ σ H) {L : Addr} {vs : List V} {o : HO} (hL : H L = some (.lst vs)) (nz : ¬ Z L) (nf : ¬ InF Fs L) (hn : nt o) : Sim C Z Fs ρ σ (upd H L o) := by
  have old : ∀ a, a ≠ L → upd H L o a = H a := fun a h => upd_ne h
  have zn : ∀ a, Z a → a ≠ L := fun a h e => by subst e; exact nz h
  have ne : ∀ a u, H a = some u → ¬ LD u → a ≠ L := fun a u r l e => by subst e; rw [hL] at r; cases r; exact l (.inl ⟨_, rfl⟩)
  have kp : Keeps Z Z H (upd H L o) := by
    refine ⟨fun a xs h r => by rw [old a (zn a h)]; exact r, fun a xs h r => ?_, fun a o es h _ r => ?_, fun a xs r => ?_, fun a h => h, fun a u v r => ?_, fun a u r l _ => ?_⟩
    · unfold Rd at r ⊢; rw [old a (zn a h)]; exact r
    · rw [old a (zn a h)]; exact r
    · rw [old a (fun e => by subst e; rw [hL] at r; cases r)]; exact r
    · rw [old a (fun e => by subst e; rw [hL] at r; cases r)]; exact r
    · rw [old a (ne a u r l)]; exact r
  refine S.same kp (fun a ha u h => by rw [old a (fun e => by subst e; exact nf ha)]; exact h) (fun a ⟨i, h⟩ => S.zf i a h) (fun a h => ?_) (S.tb.set hL (.inl ⟨_, rfl⟩) hn)
  obtain ⟨u, q, n⟩ := S.zin a h
  exact ⟨u, by rw [old a (zn a h)]; exact q, n⟩
/-- what is known behind the making -/
def KnA (X : Cx) (B : Bx) (t : Nat) (lis : List LamI) : Prop := ∃ L od vs, B.tv t = .ref L ∧ (L, HO.frz od (.lst vs)) ∈ B.kf t ∧
  Paired (fun li v => ∃ f c', v = V.ref f ∧ (∃ pm ctv, (f, FunObj X li pm c' ctv) ∈ X.pn) ∧ f ∉ frs X.stack ∧ (c', LamX.CodeO c' (X.env.qual ++ "<lambda>")) ∈ B.kf t) lis vs
theorem paired_codes {X : Cx} {pl : List (Addr × Obj)} {H : Hp} : ∀ {lis : List LamI} {vs : List V}, Paired (IsLam X pl H) lis vs → ∃ cs : List (Addr × HO), (∀ p ∈ cs, H p.1 = some p.2 ∧ ¬ LD p.2 ∧ nt p.2) ∧
    Paired (fun li v => ∃ f c', v = V.ref f ∧ (∃ pm ctv, (f, FunObj X li pm c' ctv) ∈ pl) ∧ f ∉ frs X.stack ∧ (c', LamX.CodeO c' (X.env.qual ++ "<lambda>")) ∈ cs) lis vs
  | _, _, .nil => ⟨[], fun _ h => by simp at h, .nil⟩
  | _, _, .cons ⟨f, c', e, m, n, hc⟩ t => by
    obtain ⟨cs, h1, h2⟩ := paired_codes t
    refine ⟨(c', LamX.CodeO c' (X.env.qual ++ "<lambda>")) :: cs, fun p hp => ?_, .cons ⟨f, c', e, m, n, List.mem_cons_self⟩ (paired_imp (fun li v ⟨f, c', e, m, n, hc⟩ => ⟨f, c', e, m, n, List.mem_cons_of_mem _ hc⟩) h2)⟩
    rcases List.mem_cons.mp hp with e | hp
    · rw [e]; exact ⟨hc, codeO_nl, codeO_nt⟩
    · exact h1 p hp
theorem Takes.tr {X : Cx} {W : WX} {pn : List (Addr × Obj)} (tk : Takes X W) (h : ∀ p ∈ X.pn, p ∈ pn) : Takes (X.tr pn X.xe) W := fun u s' ⟨a, Bh, sI, pins, σ, H, cls, d, e, I, nb, up, sky, na, os, ag, w⟩ => by
  refine tk u s' ⟨a, Bh, sI, pins, σ, H, cls, d, e, ⟨I.ok.ofTry, I.os, I.bare, I.base, I.loc, I.cell, I.free, I.freeC, fun p hp => I.pin p ?_, I.hok, I.len⟩, nb, up, sky, na, os, ag, w⟩
  rcases List.mem_append.mp hp with z | z
  · exact List.mem_append_left _ (h p z)
  · exact List.mem_append_right _ z
inductive LamL (X : Cx) : List LamI → Prop
  | nil : LamL X []
  | cons {params : Arguments} {body : Expr} {scope : Scope} {r : List LamI} (df : defaultsOf params X.env = ([], [])) (ls : LamX.LamS X.env.scope scope) (t : LamL X r) : LamL X (⟨params, body, scope⟩ :: r)
theorem LamL.ok {X : Cx} {T : List (Addr × Str)} {c P : Addr} (ok : X.Ok) {l : List LamI} (h : LamL X l) : ∀ li ∈ l, LamOk X T c P li := by
  induction h with
  | nil => intro li hl; simp at hl
  | cons df ls t ih =>
    intro li hl
    rcases List.mem_cons.mp hl with e | hl
    · subst e; exact ⟨df, ls.has ok⟩
    · exact ih li hl
section
variable {X : Cx} {B : Bx} {W : WX} {x : Str} {i t : Nat} {c P : Addr}
/-- x = [lambda: e0]; x.append(lambda: e1) ..; then the rest, with these known -/
theorem ss_acts {T : List (Addr × Str)} {params : Arguments} {body : Expr} {scope : Scope} {pos p1 p2 lp : Pos} {sts rest : List Stmt} {lis : List LamI} {m : EM Fl} (hB : B.T = T) (TB : LamX.TabB X.base X.mg c P) (hcode : X.env.code = .ref c)
    (hm : (P, X.env.qual ++ "<lambda>") ∈ T) (hu : ∀ p ∈ T, p.1 = P → p.2 = X.env.qual ++ "<lambda>") (nd : X.N.Nodup) (hi : X.N[i]? = some x) (hx : X.env.scope.names.lookup x = some .local) (var : ∀ pos, PE X (.Name x pos) (tVar i)) (tk : Takes X W)
    (A : ActSts X x sts lis rest) (LL : LamL X (⟨params, body, scope⟩ :: lis)) (hlen : lis.length < 900)
    (hw : swapsWith (.List [.Lambda params body scope lp] p1) (some (.Name x p2)) pos.line X.env = pure false)
    (hrest : ∀ (pn : List (Addr × Obj)) (B' : Bx), B'.T = T → KnA (X.tr pn X.xe) B' t (⟨params, body, scope⟩ :: lis) → Takes (X.tr pn X.xe) W → PSs (X.tr pn X.xe) rest (tS (fx X B') W m)) :
    PSs X (.Assign [.Name x p2] (.List [.Lambda params body scope lp] p1) pos :: sts) (tS (fx X B) W (sActs i t m)) := by
  subst hB
  refine ⟨fun pins s σ H D' I h => ?_⟩
  have LO := LL.ok (T := B.T) (c := c) (P := P) I.ok
  obtain ⟨Z, Fs, ρ, r, ρ', S, e, k⟩ := h
  unfold sActs at e
  split at e
  · rename_i hc
    obtain ⟨un, hn, hl⟩ := hc
    have un' : slot ρ i = .un := by
      cases hs : slot ρ i with
      | un => rfl
      | _ => rw [hs] at un; cases un
    split at e
    · rename_i r1 ρ1 em
      split at e
      · rename_i hc2
        obtain ⟨hk, hn2⟩ := hc2
        cases e
        refine wpAny_execs_cons (mk_first (li := ⟨params, body, scope⟩) (C := fx X B) I S TB hcode hm hu (LO _ List.mem_cons_self) nd hi hx un' hw fun p L f H1 s1 I1 A1 => ?_)
        refine mk_apps TB hcode hm hu var (fun _ _ z => z) A I1 A1 (fun li hl => LO li (List.mem_cons_of_mem _ hl)) (by show 1 + lis.length < 1000; omega) fun pl vs H2 s2 I2 A2 => ?_
        obtain ⟨od, I3⟩ := I2.lock A2.lst trivial
        obtain ⟨cs, hcs, pr⟩ := paired_codes A2.made
        have I4 := I3.toTry X.xe
        have nfz : nt (HO.frz od (.lst vs)) := fun ps z => by cases z
        have lfz : ¬ LD (HO.frz od (.lst vs)) := fun z => by
          rcases z with ⟨xs, z⟩ | ⟨es, z⟩
          · cases z
          · cases z
        have hfs : ∀ p ∈ (L, HO.frz od (.lst vs)) :: cs, upd H2 L (.frz od (.lst vs)) p.1 = some p.2 ∧ ¬ LD p.2 ∧ nt p.2 := fun p hp => by
          rcases List.mem_cons.mp hp with e | hp
          · rw [e]; exact ⟨upd_same, lfz, nfz⟩
          · obtain ⟨g1, g2, g3⟩ := hcs p hp
            exact ⟨by rw [upd_ne (fun z => by rw [z, A2.lst] at g1; exact g2 (by rw [← Option.some.inj g1]; exact .inl ⟨_, rfl⟩))]; exact g1, g2, g3⟩
        have Sk : Sim (fx X (B.know t L ((L, HO.frz od (.lst vs)) :: cs))) Z Fs (ρ.set i (.kn t)) _ (upd H2 L (.frz od (.lst vs))) := (A2.sim.lockL A2.lst A2.nz A2.nf nfz).toKn (L := L) hn un' hl A2.at_ hfs
        have xk : Ext Z H (InF Fs) Z (upd H2 L (.frz od (.lst vs))) (InF Fs) := (A2.ext.trans (Ext.growL nfz)).less fun a z => .inl z
        have kn : KnA (X.tr (X.pn ++ (pl ++ p :: pins)) X.xe) (B.know t L ((L, HO.frz od (.lst vs)) :: cs)) t (⟨params, body, scope⟩ :: lis) := by
          refine ⟨L, od, vs, if_pos rfl, ?_, paired_imp (fun li v z => ?_) pr⟩
          · show _ ∈ (if t = t then _ else _)
            rw [if_pos rfl]; exact List.mem_cons_self
          · obtain ⟨f, c', q1, ⟨pm, ctv, q2⟩, q3, q4⟩ := z
            refine ⟨f, c', q1, ⟨pm, ctv, List.mem_append_right _ q2⟩, q3, ?_⟩
            show _ ∈ (if t = t then _ else _)
            rw [if_pos rfl]; exact List.mem_cons_of_mem _ q4
        have run := (hrest _ (B.know t L ((L, HO.frz od (.lst vs)) :: cs)) rfl kn (Takes.tr tk fun p hp => List.mem_append_left _ hp)).run [] s2 _ _ D' I4 ⟨Z, Fs, _, _, _, Sk, em, ?_⟩
        · have dn : ∀ {σ' H' s'}, Inv (X.tr (X.pn ++ (pl ++ p :: pins)) X.xe) [] σ' H' s' → Inv X pins σ' H' s' := fun J => by
            have J2 := J.ofTry I.ok
            exact J2.pins_of fun q hq => J2.pin q (List.mem_append_right _ (List.mem_append_right _ (List.mem_cons_of_mem _ hq)))
          refine wpAny_mono run (fun fl s3 hsp => ?_) fun _ _ z => z
          cases fl with
          | next => exact let ⟨_, _, J, q⟩ := hsp; ⟨_, _, dn J, q⟩
          | brk => exact let ⟨_, _, J, q⟩ := hsp; ⟨_, _, dn J, q⟩
          | cont => exact let ⟨_, _, J, q⟩ := hsp; ⟨_, _, dn J, q⟩
          | ret u => exact let ⟨_, _, _, J, rv, q⟩ := hsp; ⟨_, _, _, dn J, rv, q⟩
        · have bk : ∀ {Z' Fs' σ' H'}, Sim (fx X (B.know t L ((L, HO.frz od (.lst vs)) :: cs))) Z' Fs' _ σ' H' → Sim (fx X B) Z' Fs' _ σ' H' := fun S2 => Sim.ofKn (C := fx X B) (t := t) (L := L) (fs := (L, HO.frz od (.lst vs)) :: cs) S2 hk hn2
          cases r with
          | error ex => exact fun cls dx σ' H' Z' Fs' x2 S2 xr => k cls dx σ' H' Z' Fs' (xk.trans x2) (bk S2) xr
          | ok fl =>
            cases fl with
            | next => exact fun σ' H' Z' Fs' x2 S2 => k σ' H' Z' Fs' (xk.trans x2) (bk S2)
            | brk => exact fun σ' H' Z' Fs' x2 S2 => k σ' H' Z' Fs' (xk.trans x2) (bk S2)
            | cont => exact fun σ' H' Z' Fs' x2 S2 => k σ' H' Z' Fs' (xk.trans x2) (bk S2)
            | ret kk d => exact fun σ' v H' Z' Fs' Fr x2 S2 ow => k σ' v H' Z' Fs' Fr (xk.trans x2) (bk S2) ⟨ow.ow, ow.nd, ow.fs, ow.z⟩
      · cases e
    · cases e
  · cases e
/-! ### the list walked -/
def HBind (li : LamI) : Prop := ∀ (q : Str) (cl : List (Str × Addr)) (pm cv ctv : Value), bindArgs (PySem.W.kla_fn "<lambda>" q li.params li.body li.scope cl pm cv ctv) ⟨[], []⟩ = pure []
/-- a lambda of the list, walked -/
structure ActB (X : Cx) (B : Bx) (k : Nat) (li : LamI) (m : EM D) : Prop where
  sc : LamX.LamS X.env.scope li.scope
  bind : HBind li
  body : ∀ (A : Around) (outer : List Env) (s : Shared) (H : Hp) (E : XK) (f c' : Addr), Room k (A.deeper (LamX.lamEnv X li.scope s.heap.objs.size f c')) → PE (LamX.lamCx X A outer s H E li.scope f c') li.body (tE (fx X B) (WL E) m)
theorem heardM_ok {told : Str} {tags : List Tag} {m : EM D} {ρ ρ' : Env'} {r : Except Exn D} (h : heardM told tags m ρ = some (r, ρ')) : ∃ d, r = .ok d := by
  unfold heardM at h
  split at h
  · cases h; exact ⟨_, rfl⟩
  · rw [Option.map_eq_some_iff] at h
    obtain ⟨d, _, e⟩ := h
    cases e; exact ⟨_, rfl⟩
  · cases h
theorem seqH_ok {told : Str} {tags : List Tag} : ∀ {ms : List (EM D)} {ρ ρ' : Env'} {r : Except Exn (List D)}, seqH told tags ms ρ = some (r, ρ') → ∃ ds, r = .ok ds ∧ ds.length = ms.length
  | [], _, _, _, h => by cases h; exact ⟨[], rfl, rfl⟩
  | m :: ms, ρ, ρ', r, h => by
    rcases bnd_inv (show bnd (heardM told tags m) _ ρ = some (r, ρ') from h) with ⟨d, ρ1, q1, q2⟩ | ⟨x, q1, q2⟩
    · rcases bnd_inv q2 with ⟨ds, ρ2, q3, q4⟩ | ⟨x, q3, q4⟩
      · cases q4
        obtain ⟨_, e, hl⟩ := seqH_ok q3
        cases e
        exact ⟨_, rfl, by simp [hl]⟩
      · obtain ⟨_, e, _⟩ := seqH_ok q3
        cases e
    · obtain ⟨d, e⟩ := heardM_ok q1
      cases e
theorem paired_len {α β : Type} {R : α → β → Prop} : ∀ {l : List α} {m : List β}, Paired R l m → l.length = m.length
  | _, _, .nil => rfl
  | _, _, .cons _ t => by simp [paired_len t]
theorem paired_at {α β : Type} {R : α → β → Prop} {a : α} : ∀ {l : List α} {m : List β} {j : Nat}, Paired R l m → l[j]? = some a → ∃ b, m[j]? = some b ∧ R a b
  | _, _, _, .nil, h => by simp at h
  | _, _, 0, .cons r _, h => by
    simp at h; subst h; exact ⟨_, rfl, r⟩
  | _, _, j + 1, .cons _ t, h => by
    obtain ⟨b, h1, h2⟩ := paired_at (j := j) t (by simpa using h)
    exact ⟨b, by simpa using h1, h2⟩
/-- [heard(act) for act in acts] -/
theorem sf_acts {y a act acts told : Str} {Ng : List Str} {tags : List Tag} {cl : List Cl} {scope : Scope} {pa p0 p pos epos ip : Pos} {j k : Nat} {lis : List LamI} {ms : List (EM D)}
    (F : HeardF X.prog X.w X.K X.mg X.base y a Ng told cl) (ok : ClsOk X.K X.mg tags cl) (KA : KnA X B t lis) (calm : X.calm = true) (nd : X.N.Nodup) (hi : ∀ q, PE X (.Name acts q) (tVar i)) (bo : BlkOk X.N X.env.scope scope [(act, j)])
    (hx : X.N[j]? = some act) (hloc : ∀ (s : Shared) (H : Hp) (C : Addr) (cl : List (Str × Addr)) (fp : List Addr), PG (X.blk s H scope (compEnvC scope cl C X.env) fp) (.Name act p0) (gName j))
    (hvar : ∀ (s : Shared) (H : Hp) (C : Addr) (cl : List (Str × Addr)) (fp : List Addr), PE (X.blk s H scope (compEnvC scope cl C X.env) fp) (.Name act pa) (tVar j)) (hgl : ∀ (s : Shared) (H : Hp) (C : Addr) (cl : List (Str × Addr)) (fp : List Addr), Gl (X.blk s H scope (compEnvC scope cl C X.env) fp) y)
    (hr : Room (k + 2) X.A) (hb : Paired (ActB X B k) lis ms)
    (hs : ∀ v, foldedSetIterable (.Name acts ip) X.env v = pure v := by intro _; rfl)
    (hdb : (y == ("__debug__" : Str)) = false := by decide) (hd : (a == ("__debug__" : Str)) = false := by decide) (hcd : (a == ("__classdict__" : Str)) = false := by decide) :
    PE X (.ListComp (.Call (.Name y p) [.Name act pa] [] epos) [⟨.Name act p0, .Name acts ip, [], 0⟩] scope pos) (tF (fx X B) W (eActs i t told tags ms)) := by
  refine ⟨fun pins s σ H Q I h => ?_⟩
  obtain ⟨Z, Fs, ρ, r, ρ', S, e, kk⟩ := h
  rcases bnd_inv e with ⟨_, ρ1, e1, e2⟩ | ⟨x, e1, e2⟩
  · unfold isKn at e1
    split at e1
    · rename_i hk
      cases e1
      obtain ⟨ds, hr2, hdl⟩ := seqH_ok e2
      subst hr2
      obtain ⟨L, od, vs, k1, k2, k3⟩ := KA
      have q := S.sl i
      obtain ⟨hF, hv, hkf⟩ : Fs i = [] ∧ σ[i]? = some (some (.ref L)) ∧ ∀ p ∈ B.kf t, H p.1 = some p.2 ∧ ¬ LD p.2 ∧ nt p.2 := by
        cases hs : slot ρ i with
        | kn u =>
          rw [hs] at q hk
          have eu : u = t := by simpa [isKnS] using hk
          subst eu
          exact ⟨q.1, by rw [q.2.1]; show some (some (B.tv u)) = _; rw [k1], q.2.2⟩
        | _ => rw [hs] at hk; cases hk
      have hL : H L = some (.frz od (.lst vs)) := (hkf _ k2).1
      have hll : lis.length = vs.length := paired_len k3
      have hlm : lis.length = ms.length := paired_len hb
      refine lc_run (R := fun D ys H' => ∃ Z3 Fs3 ρ3 as rest, Gr (fx X B) D Z H (InF Fs) as Z3 Fs3 ρ3 σ H' ys ∧ seqH told tags (ms.drop ys.length) ρ3 = some (.ok rest, ρ') ∧ ds = as ++ rest ∧ H D = none) calm nd I (hi _) bo hx hloc hs hv hL (fun D hD => ?_) (fun D v ys s0 H0 C0 cl0 fp pb σb s' H' hv' lp back Ib hσ => ?_) fun D ys H' lp hy => ?_
      · obtain ⟨S2, x2, kp2, nz2, nf2⟩ := S.newF (o := .lst []) hD
        exact ⟨Z, Fs, ρ, [], ds, ⟨S2, x2.less fun a z => z.elim .inl fun e => .inr (by rw [e]; exact List.mem_singleton.mpr rfl), upd_same, .nil, nz2, nf2⟩, e2, rfl, hD⟩
      · obtain ⟨Z3, Fs3, ρ3, as, rest, g, h6, h7, hD⟩ := lp.rest
        have lt : ys.length < vs.length := (List.getElem?_eq_some_iff.mp hv').1
        have ltm : ys.length < ms.length := by omega
        obtain ⟨li, hli⟩ : ∃ li, lis[ys.length]? = some li := ⟨_, List.getElem?_eq_getElem (by omega)⟩
        obtain ⟨v2, hv2, f, c', rfl, hob, nfr, hco⟩ := paired_at k3 hli
        rw [hv'] at hv2
        cases hv2
        obtain ⟨m, hm, ab⟩ := paired_at hb hli
        have hdr : ms.drop ys.length = m :: ms.drop (ys.length + 1) := by
          obtain ⟨hi, e⟩ := List.getElem?_eq_some_iff.mp hm
          rw [List.drop_eq_getElem_cons hi, e]
        rw [hdr] at h6
        rcases bnd_inv (show bnd (heardM told tags m) _ ρ3 = some (.ok rest, ρ') from h6) with ⟨d, ρ4, q1, q2⟩ | ⟨x, q1, q2⟩
        · rcases bnd_inv q2 with ⟨r5, ρ5, q3, q4⟩ | ⟨x, q3, q4⟩
          · cases q4
            have kp := S.keeps (g.ext.less (F' := InF Fs3) fun a z => .inl z)
            have hco' : H' c' = some (LamX.CodeO c' (X.env.qual ++ "<lambda>")) := kp.ks _ _ (hkf _ hco).1 codeO_nl codeO_nt
            have tt := tLam_of (C := fx X B) (W := W) (cl := cl) ok σ H' (fun y H2 => H2 L = some (.frz od (.lst vs)) ∧ H2 D = some (.lst ys) ∧ ∃ Z3 Fs3 ρ3 as rest, Gr (fx X B) D Z H (InF Fs) as Z3 Fs3 ρ3 σ (upd H2 D (.lst (ys ++ [y]))) (ys ++ [y]) ∧ seqH told tags (ms.drop (ys ++ [y]).length) ρ3 = some (.ok rest, ρ') ∧ ds = as ++ rest ∧ H D = none)
              ⟨Z3, Fs3, ρ3, .ok d, ρ4, g.sim, q1, fun y H2 Z2 Fs2 x2 S2 rp => ?_⟩
            · have hh := tt.2 H' (LamX.ExtN.refl H') tt.1
              refine thnF (act_call (a := a) (t := fun E => tE (fx X B) (WL E) m) F Ib back ⟨hob.elim fun pm z => z.elim fun ctv z => ⟨pm, ctv, List.mem_append_left _ z⟩, nfr, hco'⟩ (hgl s0 H0 C0 cl0 fp) (hvar s0 H0 C0 cl0 fp) hσ hr ab.sc ab.bind ab.body hh hdb hd hcd) fun u s2 z => ?_
              obtain ⟨y, H2, J2, rv, w1, w2, w3⟩ := z
              exact ⟨y, H2, J2, rv, w1, w2, w3⟩
            · have gs := g.step x2 S2
              refine ⟨(g.sim.keeps x2).fr _ _ _ lp.src, gs.at_, Z2, Fs2, ρ4, as ++ [d], r5, gs.app rp, ?_, ?_, hD⟩
              · rw [List.length_append]; exact q3
              · rw [h7]; simp
          · obtain ⟨_, e, _⟩ := seqH_ok q3
            cases e
        · obtain ⟨_, e⟩ := heardM_ok q1
          cases e
      · obtain ⟨Z3, Fs3, ρ3, as, rest, g, h6, h7, hD⟩ := lp.rest
        have : ms.drop ys.length = [] := List.drop_eq_nil_of_le (by omega)
        rw [this] at h6
        cases h6
        rw [List.append_nil] at h7
        subst h7
        refine kk D ys H' Z3 Fs3 ?_ g.sim g.nz g.nf g.at_ g.rp
        refine ⟨g.ext.keep, g.ext.zz, g.ext.znew, fun a h => g.ext.fnew a ?_, g.ext.thr⟩
        rcases h with h | h
        · exact .inl h
        · exact .inr (List.mem_singleton.mp h)
    · cases e1
  · unfold isKn at e1
    split at e1
    · cases e1
    · cases e1
end
end NH

/-! NhEnd: the end of a law whose def wants no repr under way; facts of the head. -/
namespace NH
open PySem Spec PyProof.Rows L2
open EM

/-! ### the call of the law -/
def scriptO (vs : List Value) : Obj := { cls := .type "list", data := .seq vs.toArray }
def emptyT : Obj := { cls := .none, data := .fields #[] }
/-- what is tracked at the start: the script (if the written part has it not), the tables -/
noncomputable def hp0 (K : PySem.W.Frag) (a : Addr) (vs : List Value) (ns : List Int) (ts : List Addr) : Hp := fun b =>
  if b = a ∧ K.lookup a = none then some (.frz (scriptO vs) (.lst (ns.map V.int))) else if b ∈ ts then some (.tbl #[]) else none
section
variable {P : Program} {w : World} {K : PySem.W.Frag} {mg mb : Str → Option Value} {k : Nat} {fa a : Addr} {cs : List (Addr × Addr)} {sp : Sp} {s : Shared} {vs : List Value} {ns : List Int}
theorem hp0_cases {ts : List Addr} {b : Addr} {u : HO} (h : hp0 K a vs ns ts b = some u) : (b = a ∧ K.lookup a = none ∧ u = .frz (scriptO vs) (.lst (ns.map V.int))) ∨ (b ∈ ts ∧ u = .tbl #[]) := by
  unfold hp0 at h
  split at h
  · rename_i c
    cases h
    exact .inl ⟨c.1, c.2, rfl⟩
  · split at h
    · rename_i c
      cases h
      exact .inr ⟨c, rfl⟩
    · cases h
/-- the law is called with no repr under way -/
theorem end_call (inK : K.In s.heap) (gNs : s.heap.Ns mainGlobals mg) (bNs : s.heap.Ns builtinsNs mb) (boot : ∀ x : Str, x ≠ "__name__" → mb x = bootBuiltins x) (nolim : s.heap.NoLimit) (gens : s.gens = #[])
    (tabs : ∀ p ∈ cs, s.heap.get? p.2 = some emptyT) (outK : ∀ p ∈ cs, K.lookup p.2 = none) (heads : ∀ p ∈ cs, PySem.W.CodeHd s.heap p.1 p.2)
    (bmod : ∃ (bm : Addr) (ob : Obj), mg "__builtins__" = some (.ref bm) ∧ bm ≠ builtinsNs ∧ s.heap.get? bm = some ob ∧ ob.cls = .type "module" ∧ ob.dict = some builtinsNs ∧ ob.data = .plain)
    (scr : s.heap.get? a = some (scriptO vs)) (isI : IntsAre vs ns) (short : ns.length ≤ sizeLine) (room : Room k callerA)
    (F : ∀ base : Heap, K.In base → base.Ns mainGlobals mg → (∀ p ∈ cs, LamX.TabB base mg p.1 p.2) → ∃ fd ps, FnG P w K mg base true k fa fd ps sp ∧ Binds K fd ps [] ∧ ps.length = 1)
    (want : ∀ H : Hp, (∀ p ∈ cs, H p.2 = some (.tbl #[])) → (Rd H a (.lst (ns.map V.int)) ∨ (H a = none ∧ Kl K a (ns.map V.int))) → sp [.ref a] H (fun v _ => v = .bl true) fun _ _ _ => False) :
    codeAny (model P w) callerA (.call (.ref fa) ⟨[.ref a], []⟩) (fun r s' => r = .ok (.ret (.bool true)) ∧ OldK s.heap s'.heap ∧ s'.os = s.os ∧ AllBare s'.gens) s := by
  let ts : List Addr := cs.map (·.2)
  let H : Hp := hp0 K a vs ns ts
  have vals : Vals (ns.map V.int) vs := vals_ints isI
  have tabAt : ∀ b ∈ ts, s.heap.get? b = some emptyT := fun b hb => by
    obtain ⟨p, hp, e⟩ := List.mem_map.mp hb
    rw [← e]; exact tabs p hp
  have notT : a ∉ ts := fun z => by
    have q := tabAt a z
    rw [scr] at q
    cases congrArg Obj.data (Option.some.inj q)
  have atT : ∀ b ∈ ts, H b = some (.tbl #[]) := fun b hb => by
    have ne : b ≠ a := fun e => notT (e ▸ hb)
    show hp0 K a vs ns ts b = _
    unfold hp0
    rw [if_neg (fun z => ne z.1), if_pos hb]
  -- an object of another kind is not tracked
  have plain : ∀ {b : Addr} {o : Obj}, s.heap.get? b = some o → o ≠ scriptO vs → o ≠ emptyT → H b = none := fun {b o} e n1 n2 => by
    cases q : H b with
    | none => rfl
    | some u =>
      rcases hp0_cases q with ⟨e1, _, _⟩ | ⟨e1, _⟩
      · rw [e1, scr] at e
        exact absurd (Option.some.inj e).symm n1
      · rw [tabAt b e1] at e
        exact absurd (Option.some.inj e).symm n2
  have ofD : ∀ {b : Addr} {m : Str → Option Value}, s.heap.Ns b m → (hidT s.heap H).Ns b m := fun {b m} z => by
    obtain ⟨o, es, ep, e, d, r⟩ := z
    refine ⟨o, es, ep, hidT_get e (plain e ?_ ?_), d, r⟩
    · rintro rfl; cases d
    · rintro rfl; cases d
  have inB : K.In (hidT s.heap H) := fun b o e => hidT_get (inK b o e) (by
    cases q : H b with
    | none => rfl
    | some u =>
      rcases hp0_cases q with ⟨e1, e2, _⟩ | ⟨e1, _⟩
      · rw [e1, e2] at e; cases e
      · obtain ⟨p, hp, ep⟩ := List.mem_map.mp e1
        rw [← ep, outK p hp] at e; cases e)
  have modB : L2.Mod K mg (hidT s.heap H) := ⟨inB, ofD gNs, ⟨mb, ofD bNs, boot⟩, nolim.elim fun mc z => ⟨mc, ofD z.1, z.2⟩⟩
  have tabB : ∀ p ∈ cs, LamX.TabB (hidT s.heap H) mg p.1 p.2 := fun p hp => by
    refine ⟨?_, ?_, fun z => ?_⟩
    · obtain ⟨o, us, file, tf, flags, tg, inF, text, tt, e1, r1, r2, r3, rest⟩ := heads p hp
      refine ⟨o, us, file, tf, flags, tg, inF, text, tt, hidT_get e1 (plain e1 ?_ ?_), r1, r2, r3, rest⟩
      · rintro rfl; cases r2
      · rintro rfl
        cases r2
        simp at r3
    · obtain ⟨bm, ob, q1, q2, q3, q4, q5, q6⟩ := bmod
      refine ⟨bm, ob, q1, q2, fun z => ?_, fun z => ?_, hidT_get q3 (plain q3 ?_ ?_), q4, q5, q6⟩
      · obtain ⟨o, es, ep, e, d, _⟩ := gNs
        rw [z, e] at q3
        cases q3
        rw [d] at q6; cases q6
      · rw [z, tabs p hp] at q3
        cases q3; cases q6
      · rintro rfl; cases q6
      · rintro rfl; cases q6
    · obtain ⟨o, es, ep, e, d, _⟩ := gNs
      rw [z, tabs p hp] at e
      cases e; cases d
  have hok : HOk P w H s.heap := fun b u e => by
    rcases hp0_cases e with ⟨e1, _, e3⟩ | ⟨e1, e3⟩
    · subst e1 e3
      exact ⟨scr, by rw [List.length_map]; exact short, vs, 0, vals, scr⟩
    · subst e3
      exact tabAt b e1
  have env : Env0 P w K mg (hidT s.heap H) callerA [] s H := ⟨rfl, modB, fun b o e => of_hidT e, Nat.le_of_eq (hidT_size _ _), trivial, fun b hb => (List.not_mem_nil (show b ∈ ([] : List Addr) from hb)).elim, hok, .of_eq gens⟩
  have sq : Rd H a (.lst (ns.map V.int)) ∨ (H a = none ∧ Kl K a (ns.map V.int)) := by
    cases hk : K.lookup a with
    | none =>
      refine .inl (.inr ⟨scriptO vs, ?_⟩)
      show hp0 K a vs ns ts a = _
      unfold hp0
      rw [if_pos ⟨rfl, hk⟩]
    | some o =>
      have e := inK a o hk
      rw [scr] at e
      cases e
      refine .inr ⟨?_, _, vs.toArray, 0, hk, rfl, rfl, rfl, by rw [List.size_toArray, isI.length]; exact short, by simpa using vals⟩
      show hp0 K a vs ns ts a = none
      unfold hp0
      rw [if_neg (fun z => by rw [z.2] at hk; cases hk), if_neg notT]
  obtain ⟨fd, ps, FG, bi, hl⟩ := F _ inB (ofD gNs) tabB
  have bt := bi s [.ref a] inK (by rw [hl]; rfl)
  rw [List.append_nil] at bt
  refine codeAny_mono (FG.goes callerA [] s H ⟨[.ref a], []⟩ [.ref a] [.ref a] _ _ room (fun _ => rfl) env bt (.cons rfl .nil) (want H (fun p hp => atT p.2 (List.mem_map.mpr ⟨p, hp, rfl⟩)) sq)) fun r s' h => ?_
  rcases r with e | fl
  · obtain ⟨_, _, _, _, _, _, _, _, _, _, _, _, z⟩ := h
    exact z.elim
  rcases fl with _ | _ | _ | u
  · exact False.elim h
  · exact False.elim h
  · exact False.elim h
  obtain ⟨v, H', os, bare, un, hok', rv, q⟩ := h
  have q' : v = .bl true := q
  subst q'
  obtain rfl : u = Value.bool true := rv
  have tabEnd : ∀ b ∈ ts, ∃ more : Array Value, s'.heap.get? b = some { cls := .none, data := .fields more } := fun b hb => by
    obtain ⟨more, z⟩ := un.tbls b #[] (atT b hb)
    exact ⟨_, hok' b _ z⟩
  have stay : ∀ b o, b ∉ ts → s.heap.get? b = some o → s'.heap.get? b = some o := fun b o nb e => by
    cases q : H b with
    | none => exact un.keep b o e q (fun z => (List.not_mem_nil (show b ∈ ([] : List Addr) from z)).elim) (fun z => (List.not_mem_nil z).elim)
    | some u =>
      rcases hp0_cases q with ⟨e1, e2, e3⟩ | ⟨e1, _⟩
      · subst e3
        have f1 := (hok b _ q).1
        have f2 := (hok' b _ (un.frzs b _ _ q)).1
        rw [f1] at e
        cases e
        exact f2
      · exact absurd e1 nb
  refine ⟨rfl, ⟨fun b o e => ?_, fun b o e => ?_⟩, os, bare⟩
  · by_cases hb : b ∈ ts
    · obtain ⟨more, hm⟩ := tabEnd b hb
      obtain ⟨p, hp, ep⟩ := List.mem_map.mp hb
      have ep' : p.2 = b := ep
      subst ep'
      rw [tabs p hp] at e
      cases e
      exact .inr (.inl ⟨((heads p hp).tab (tabs p hp)).isCodeTable, rfl, #[], more, rfl, by rw [Array.empty_append]; exact hm⟩)
    · exact .inl (stay b o hb e)
  · by_cases hb : b ∈ ts
    · obtain ⟨more, hm⟩ := tabEnd b hb
      exact ⟨_, hm⟩
    · exact ⟨o, stay b o hb e⟩
end

/-! ### the law's promise, from the plain side -/
theorem ow_true {K : PySem.W.Frag} {Z : AP'} {H : Hp} {k : Nat} {v : V} {F : List Addr} (h : Ow K Z H k v (.bool true) F) : v = .bl true := by
  have r : Rp K Z H v (.bool true) := by
    cases k with
    | zero => exact h.1
    | succ k => exact h.1
  cases r
  rfl
/-- plain: the law tells True -/
def PlainLaw (F : Fn) : Prop := ∀ ns : List Int, ns.length ≤ 63 → (∀ z ∈ ns, Builtin.Int.intBits z ≤ 1048576) → ∃ k outs, F [.ro 0 (.list (ns.map PyData.int))] = some (.ok (k, .bool true), outs)
theorem plain_want {K : PySem.W.Frag} {mg : Str → Option Value} {T : List (Addr × Str)} {F : Fn} {H : Hp} {a : Addr} {ns : List Int} (hF : ∃ k outs, F [.ro 0 (.list (ns.map PyData.int))] = some (.ok (k, .bool true), outs)) (hT : ∀ p ∈ T, H p.1 = some (.tbl #[]))
    (hS : Rd H a (.lst (ns.map V.int)) ∨ (H a = none ∧ Kl K a (ns.map V.int))) : spF K mg T 1 F [.ref a] H (fun v _ => v = .bl true) fun _ _ _ => False := by
  obtain ⟨k, outs, e⟩ := hF
  refine ⟨rfl, fun b => b = a ∧ ∃ o, H b = some o ∧ nt o, fun _ => [], _, _, outs, ?_, e, ?_⟩
  · refine ⟨fun i => ?_, fun _ => .nil, fun i j b h => by simp at h, fun i b h => by simp at h, fun b h => h.2, fun p hp => LamX.TabS.nil (hT p hp), rfl⟩
    cases i with
    | zero =>
      refine ⟨rfl, rfl, a, ns.map V.int, _, rfl, rfl, ?_, .of_ints ns⟩
      rcases hS with h | ⟨_, h⟩
      · refine .inl ⟨⟨rfl, ?_⟩, h⟩
        rcases h with h | ⟨o, h⟩
        · exact ⟨_, h, fun ps z => by cases z⟩
        · exact ⟨_, h, fun ps z => by cases z⟩
      · exact .inr h
    | succ i =>
      show SlR _ _ _ (slot [_] (i + 1)) _ _
      rw [slot_out (by simp)]
      exact rfl
  · intro v H' Z' Gs' Fr _ _ ow
    exact ow_true ow.ow
/-! ### functions of the head -/
section
variable {K : PySem.W.Frag} {x qual : Str} {st : Stmt} {f : Addr} {fd : FuncData}
theorem fun_of (F : FunD K x qual (defArgs st) (defBody st) (defScope st) [] [] f fd) : Fun K x qual st f fd := by
  obtain ⟨oc, od, dV, kV, doc, pm, an, cdv, ct, osl, h1, h2, h3, h4, _⟩ := F.ex
  rcases h4 with ⟨_, e⟩ | ⟨e, _⟩
  · subst e
    exact ⟨⟨oc, od, kV, doc, pm, an, cdv, ct, osl, h1, h2, h3⟩, F.kp⟩
  · exact absurd rfl e
theorem funC_of {p : Str × Option Str} (F : FunD K x qual (defArgs st) (defBody st) (defScope st) [] [] (He.fAd K p) fd) : FunP K x qual st (He.fAd K p) fd fun v => v = .ref (He.cT K p).1 := by
  obtain ⟨oc, od, dV, kV, doc, pm, an, cdv, ct, osl, h1, h2, h3, h4, _⟩ := F.ex
  rcases h4 with ⟨_, e⟩ | ⟨e, _⟩
  · subst e
    refine ⟨⟨oc, od, kV, doc, pm, an, cdv, ct, osl, h1, h2, h3, ?_⟩, F.kp⟩
    obtain ⟨c, e⟩ := He.codeIn_ref h3
    have q : fd.code = .ref c := by rw [h1, ← e]
    rw [e, show (He.cT K p).1 = c from He.codeOf_eq h2 q]
  · exact absurd rfl e
end
/-! ### classes of errors -/
def oexB (K : PySem.W.Frag) (C : Addr) : Bool := (match K.lookup C with
  | some ⟨.type t, _, .cls cd, sl⟩ => decide (t = "type") && (cd.hasDict && (!cd.hasDel && (match cd.mro with
    | .ref C' :: bm => decide (C' = C) && (PySem.HandSPX.refsVE bm && (match sl.toList with
      | [_, _, _, _, some (.builtin n), _] => decide (n = "ValueError.__new__")
      | _ => false))
    | _ => false)))
  | _ => false) && (He.eqO (PySem.W.findIn K (.ref C) "__setattr__") (some (some (.builtin "object.__setattr__"))) && (decide (PySem.W.subIn K (.ref C) (.type "BaseException") = some true) && (decide (PySem.W.typeIn K (.ref C) = some (.type "type")) && PySem.W.keepIn K (.ref C))))
theorem oexB_ok {K : PySem.W.Frag} {C : Addr} (h : oexB K C = true) : OexC K C := by
  obtain ⟨h1, h⟩ := He.ba h
  obtain ⟨h2, h⟩ := He.ba h
  obtain ⟨h3, h⟩ := He.ba h
  obtain ⟨h4, h5⟩ := He.ba h
  refine ⟨?_, He.eqO_ok h2, of_decide_eq_true h3, of_decide_eq_true h4, h5⟩
  split at h1
  · rename_i t dd cd sl hk
    obtain ⟨g1, g⟩ := He.ba h1
    obtain ⟨g2, g⟩ := He.ba g
    obtain ⟨g3, g⟩ := He.ba g
    split at g
    · rename_i C' bm hm
      obtain ⟨g4, g⟩ := He.ba g
      obtain ⟨g5, g⟩ := He.ba g
      split at g
      · rename_i k0 k1 k2 k3 n k5 hs
        have e1 := of_decide_eq_true g1
        have e2 := of_decide_eq_true g4
        have e3 := of_decide_eq_true g
        subst e1 e2 e3
        obtain ⟨nm, bs, mro, N, q, hdct, sn, sub, ab, col, del⟩ := cd
        have m1 : mro = .ref C' :: bm := hm
        have m2 : hdct = true := g2
        have m3 : del = false := by
          cases del with
          | false => rfl
          | true => cases g3
        subst m1 m2 m3
        refine ⟨nm, q, N, bs, bm, sn, sub, ab, col, dd, k0, k1, k2, k3, k5, ?_, g5⟩
        rw [hk]
        have es : sl = #[k0, k1, k2, k3, some (.builtin "ValueError.__new__"), k5] := by
          have := congrArg List.toArray hs
          simpa using this
        rw [es]
      · cases g
    · cases g
  · cases h1
/-- the class x with its field f, as the head has it -/
def errB (K : PySem.W.Frag) (x f : Str) : Bool := oexB K (He.ga K x) && (He.eqO (PySem.W.nsIn K mainGlobals x) (some (some (.ref (He.ga K x)))) && (He.eqO (PySem.W.findIn K (.ref (He.ga K x)) f) (some none) &&
  (He.eqO (PySem.W.findIn K (.ref (He.ga K x)) "__getattribute__") (some (some (.builtin "BaseException.__getattribute__"))) && (He.eqO (PySem.W.findIn K (.ref (He.ga K x)) "__getattr__") (some none) && (PySem.W.hasDictIn K (He.ga K x) &&
  (He.eqO (PySem.W.findIn K (.ref (He.ga K x)) "__init__") (some (some (.ref (He.ma K (He.ga K x) "__init__")))) && decide (PySem.W.typeIn K (.ref (He.ma K (He.ga K x) "__init__")) = some (.type "function"))))))))
/-- what __init__(self, f) promises -/
def spIni (C : Addr) (f : Str) : Sp := fun vs H Q _ => ∃ a y, vs = [.ref a, y] ∧ H a = some (exo a C none) ∧ ∀ dx, H dx = none → dx ≠ a → Q .non (upd (upd H dx (exd dx [(f, y)])) a (exo a C (some dx)))
theorem errC_of {P : Program} {w : World} {K : PySem.W.Frag} {mg : Str → Option Value} {base h : Heap} {x f : Str} {fd : FuncData} (X : K.In h) (G : h.Ns mainGlobals mg) (e : errB K x f = true) (bi : Binds K fd ["self", f] [])
    (ini : OexC K (He.ga K x) → PySem.W.findIn K (.ref (He.ga K x)) f = some none → FnOk P w K mg base (L2.CX P w) 1 (He.fAd K (x, some "__init__")) fd ["self", f] (spIni (He.ga K x) f)) : ErrC P w K mg base x f (He.ga K x) := by
  obtain ⟨h1, e⟩ := He.ba e
  obtain ⟨h2, e⟩ := He.ba e
  obtain ⟨h3, e⟩ := He.ba e
  obtain ⟨h4, e⟩ := He.ba e
  obtain ⟨h5, e⟩ := He.ba e
  obtain ⟨h6, e⟩ := He.ba e
  obtain ⟨h7, h8⟩ := He.ba e
  have ox := oexB_ok h1
  exact ⟨ox, PySem.W.mg_of X G (He.eqO_ok h2), He.eqO_ok h3, He.eqO_ok h4, He.eqO_ok h5, h6, _, fd, He.eqO_ok h7, of_decide_eq_true h8, bi, ini ox (He.eqO_ok h3)⟩
/-- self.f = f -/
theorem ini_ok {P : Program} {w : World} {K : PySem.W.Frag} {mg : Str → Option Value} {base : Heap} {C f : Addr} {fd : FuncData} {q fld : Str} {st : Stmt} {p1 p2 p3 p4 : Pos} (F : Fun K "__init__" q st f fd) (S : FnScope ["self", fld] ["self", fld] (defScope st))
    (hb : defBody st = [.Assign [.Attribute (.Name "self" p1) fld p2] (.Name fld p3) p4])
    (v0 : ∀ (X : Cx), X.N = (["self", fld] : List Str) → X.env.scope = defScope st → PE X (.Name "self" p1) (tVar 0)) (v1 : ∀ (X : Cx), X.N = (["self", fld] : List Str) → X.env.scope = defScope st → PE X (.Name fld p3) (tVar 1))
    (hs : ∀ env : Env, swapsWith (.Name fld p3) (some (.Attribute (.Name "self" p1) fld p2)) p4.line env = pure false)
    (ox : OexC K C) (no : PySem.W.findIn K (.ref C) fld = some none) : FnOk P w K mg base (L2.CX P w) 1 f fd ["self", fld] (spIni C fld) := by
  refine F.okX S (fun vs H Q E h => ?_) (fun cdv A outer s H vs Q E hr h => ?_)
  · obtain ⟨a, y, rfl, _⟩ := h
    rfl
  · obtain ⟨a, y, rfl, ha, k⟩ := h
    rw [hb]
    refine ⟨_, pss_one (ps_ost (v0 _ rfl rfl) (v1 _ rfl rfl) (hs _)), ?_⟩
    exact ⟨y, rfl, _, rfl, a, C, rfl, ox, no, .inl ⟨ha, fun dx h1 h2 => k dx h1 h2⟩⟩
/-! ### clauses, tables -/
def clOf (K : PySem.W.Frag) (tags : List Tag) : List Cl := tags.map fun t => (He.ga K t.1, t.2)
def apartB (K : PySem.W.Frag) (tags : List Tag) : Bool := (List.range tags.length).all fun i => (List.range tags.length).all fun j => match tags[i]?, tags[j]? with
  | some s, some t => decide (PySem.W.exmOne K (.ref (He.ga K t.1)) (.ref (He.ga K s.1)) = some (decide (i = j)))
  | _, _ => false
theorem clsOk_of {K : PySem.W.Frag} {mg : Str → Option Value} {tags : List Tag} (h : apartB K tags = true) (g : ∀ t ∈ tags, mg t.1 = some (.ref (He.ga K t.1))) : ClsOk K mg tags (clOf K tags) := by
  refine ⟨?_, fun i j c c' hj hi => ?_⟩
  · have go : ∀ l : List Tag, (∀ t ∈ l, mg t.1 = some (.ref (He.ga K t.1))) → Paired (fun (t : Tag) (c : Cl) => mg t.1 = some (.ref c.1) ∧ t.2 = c.2) l (clOf K l) := by
      intro l
      induction l with
      | nil => intro _; exact .nil
      | cons t l ih => intro hl; exact .cons ⟨hl t List.mem_cons_self, rfl⟩ (ih fun u hu => hl u (List.mem_cons_of_mem _ hu))
    exact go tags g
  · unfold clOf at hj hi
    rw [List.getElem?_map, Option.map_eq_some_iff] at hj hi
    obtain ⟨t, ht, rfl⟩ := hj
    obtain ⟨s, hs, rfl⟩ := hi
    have li := (List.getElem?_eq_some_iff.mp hs).1
    have lj := (List.getElem?_eq_some_iff.mp ht).1
    have q := List.all_eq_true.mp (List.all_eq_true.mp h i (List.mem_range.mpr li)) j (List.mem_range.mpr lj)
    rw [hs, ht] at q
    exact of_decide_eq_true q
/-- the tables of code: each one's lambdas' name -/
def tabsT (K : PySem.W.Frag) (tf : List (He.Defn × Str)) : List (Addr × Str) := tf.map fun p => ((He.cT K p.1).2, p.2)
def tabsN (K : PySem.W.Frag) (tf : List (He.Defn × Str)) : Bool := decide ((tf.map fun p => (He.cT K p.1).2).Nodup)
theorem tabs_u {K : PySem.W.Frag} {tf : List (He.Defn × Str)} (h : tabsN K tf = true) {d : He.Defn} {q : Str} (hm : (d, q) ∈ tf) : ((He.cT K d).2, q) ∈ tabsT K tf ∧ ∀ p ∈ tabsT K tf, p.1 = (He.cT K d).2 → p.2 = q := by
  have nd : (tf.map fun p => (He.cT K p.1).2).Nodup := of_decide_eq_true h
  refine ⟨List.mem_map.mpr ⟨_, hm, rfl⟩, fun p hp e => ?_⟩
  obtain ⟨⟨d', q'⟩, h', rfl⟩ := List.mem_map.mp hp
  have go : ∀ l : List (He.Defn × Str), (l.map fun p => (He.cT K p.1).2).Nodup → (d, q) ∈ l → (d', q') ∈ l → q' = q := by
    intro l
    induction l with
    | nil => intro _ h _; simp at h
    | cons a l ih =>
      intro nd h1 h2
      obtain ⟨n1, n2⟩ := List.nodup_cons.mp (show ((He.cT K a.1).2 :: l.map fun p => (He.cT K p.1).2).Nodup from nd)
      rcases List.mem_cons.mp h1 with e1 | m1
      · rcases List.mem_cons.mp h2 with e2 | m2
        · rw [← e1] at e2
          exact (Prod.mk.inj e2).2
        · rw [← e1] at n1
          exact absurd (List.mem_map.mpr ⟨(d', q'), m2, e⟩) n1
      · rcases List.mem_cons.mp h2 with e2 | m2
        · rw [← e2] at n1
          exact absurd (List.mem_map.mpr ⟨(d, q), m1, e.symm⟩) n1
        · exact ih n2 m1 m2
  exact go tf nd hm h'
/-- what the head tells of the law -/
def LawG (l : PySem.W.OpenLaw) (w : World) (K : PySem.W.Frag) (k : Nat) (x : Str) (tf : List (He.Defn × Str)) (law : Fn) (mg : Str → Option Value) : Prop :=
  ∀ base : Heap, K.In base → base.Ns mainGlobals mg → (∀ p ∈ tf, LamX.TabB base mg (He.cT K p.1).1 (He.cT K p.1).2) → Df l.prog w K mg base (tabsT K tf) true x k 1 law
theorem end_walk {l : PySem.W.OpenLaw} {k nn : Nat} {q : Program} {loose : List Str} {XP : (Str → Option Value) → Heap → Prop} {d : DefRec} {x : Str} {fas : List He.Fa} {fn : List He.DefD} {tf : List (He.Defn × Str)} {ex : PySem.W.Frag → Bool} {law : Fn}
    (hn : l.most = some 63) (hdf : d.params.defaults = []) (hx : d.name = x) (hr : Room k callerA) (plain : PlainLaw law)
    (F : ∀ (w : World) (mg : Str → Option Value) (fa : Addr) (h : Heap) (K : PySem.W.Frag), K.In h → h.Ns mainGlobals mg → He.SaysX fas fn [] (tf.map (·.1)) ex w h K → mg d.name = some (.ref fa) → LawG l w K k x tf law mg) :
    PySem.W.WalkO q loose XP (He.hookX nn fas fn [] (tf.map (·.1)) ex).says l.row.toRowW d [] (fun f vs => PySem.call f vs) := by
  refine Att.attach_callB hn hdf fun w s₀ s₁ mg mb fa o pm cd doc a vs ns G Y ho hd hcd hmg hobj hints hlen hbits hg => ?_
  obtain ⟨K, KX, c⟩ := Y
  have hF := F w mg fa _ K KX G.T.g c hmg
  have mem : ∀ p ∈ tf.map fun p => He.cT K p.1, ∃ r ∈ tf.map (·.1), He.cT K r = p := fun p hp => by
    obtain ⟨z, hz, e⟩ := List.mem_map.mp hp
    exact ⟨z.1, List.mem_map.mpr ⟨z, hz, rfl⟩, e⟩
  refine end_call (cs := tf.map fun p => He.cT K p.1) (sp := spF K mg (tabsT K tf) 1 law) KX G.T.g G.T.b G.T.builtins G.T.nolimit hg (fun p hp => ?_) (fun p hp => ?_) (fun p hp => ?_) G.T.bmain hobj hints (Nat.le_trans hlen (by decide)) hr (fun base k1 k2 k3 => ?_) fun H hT hS => ?_
  · obtain ⟨r, hr, e⟩ := mem p hp
    rw [← e]; exact c.empty r hr
  · obtain ⟨r, hr, e⟩ := mem p hp
    rw [← e]; exact c.out r hr
  · obtain ⟨r, hr, e⟩ := mem p hp
    rw [← e]; exact PySem.W.codeHd_of_K KX (c.hd r hr)
  · obtain ⟨f, fd, ps, g1, g2, _, g3, g4⟩ := (hF base k1 k2 fun p hp => k3 _ (List.mem_map.mpr ⟨p, hp, rfl⟩)).ex
    rw [← hx, hmg] at g2
    cases g2
    exact ⟨fd, ps, g1, g3, g4⟩
  · refine plain_want (plain ns hlen hbits) (fun p hp => ?_) hS
    obtain ⟨z, hz, e⟩ := List.mem_map.mp hp
    rw [← e]
    exact hT _ (List.mem_map.mpr ⟨z, hz, rfl⟩)
end NH

/-! NhPlain: what a plain computation comes to, stepped through by rewriting: W o Q says that o has an outcome, of which Q holds. -/
namespace NH
open PySem Spec PyProof.Rows L2
open EM

def W {α : Type} (o : Option (Except Exn α × Env')) (Q : Except Exn α → Env' → Prop) : Prop := ∃ r ρ', o = some (r, ρ') ∧ Q r ρ'
/-- the continuation of a bind -/
def Kn {α β : Type} (f : α → EM β) (Q : Except Exn β → Env' → Prop) : Except Exn α → Env' → Prop
  | .ok a, ρ => W (f a ρ) Q
  | .error x, ρ => Q (.error x) ρ
def oW {α : Type} (o : Option α) (P : α → Prop) : Prop := ∃ a, o = some a ∧ P a
section
variable {α β : Type} {Q : Except Exn α → Env' → Prop} {R : Except Exn β → Env' → Prop} {m n : EM D} {ρ : Env'}
theorem W_mono {o : Option (Except Exn α × Env')} {Q' : Except Exn α → Env' → Prop} (h : W o Q) (i : ∀ r ρ', Q r ρ' → Q' r ρ') : W o Q' := by
  obtain ⟨r, ρ', e, q⟩ := h
  exact ⟨r, ρ', e, i _ _ q⟩
theorem W_some {r : Except Exn α} : W (some (r, ρ)) Q = Q r ρ := propext ⟨fun ⟨_, _, e, q⟩ => by cases e; exact q, fun q => ⟨_, _, rfl, q⟩⟩
theorem W_none : W (none : Option (Except Exn α × Env')) Q = False := propext ⟨fun ⟨_, _, e, _⟩ => (nomatch e), False.elim⟩
theorem W_ret {a : α} : W (EM.ret a ρ) Q = Q (.ok a) ρ := W_some
theorem oW_some {a : α} {P : α → Prop} : oW (some a) P = P a := propext ⟨fun ⟨_, e, q⟩ => by cases e; exact q, fun q => ⟨_, rfl, q⟩⟩
theorem oW_none {P : α → Prop} : oW (none : Option α) P = False := propext ⟨fun ⟨_, e, _⟩ => (nomatch e), False.elim⟩
theorem W_bnd {m : EM α} {f : α → EM β} : W (bnd m f ρ) R = W (m ρ) (Kn f R) := by
  refine propext ⟨fun ⟨r, ρ', e, q⟩ => ?_, fun ⟨r, ρ', e, q⟩ => ?_⟩
  · rcases bnd_inv e with ⟨a, ρ1, e1, e2⟩ | ⟨x, e1, rfl⟩
    · exact ⟨_, _, e1, _, _, e2, q⟩
    · exact ⟨_, _, e1, q⟩
  · cases r with
    | ok a =>
      obtain ⟨r2, ρ2, e2, q2⟩ := q
      exact ⟨r2, ρ2, by rw [bnd_ok e]; exact e2, q2⟩
    | error x => exact ⟨_, _, bnd_err e, q⟩
theorem Kn_ok {a : α} {f : α → EM β} : Kn f R (.ok a) ρ = W (f a ρ) R := rfl
theorem Kn_err {x : Exn} {f : α → EM β} : Kn f R (.error x) ρ = R (.error x) ρ := rfl
theorem W_opt {o : Option α} : W (opt o ρ) Q = oW o fun a => Q (.ok a) ρ := by
  refine propext ⟨fun ⟨r, ρ', e, q⟩ => ?_, fun ⟨a, e, q⟩ => ?_⟩
  · obtain ⟨a, rfl, rfl, rfl⟩ := opt_inv e
    exact ⟨a, rfl, q⟩
  · subst e; exact ⟨_, _, rfl, q⟩
theorem W_stuck : W (stuck ρ : Option (Except Exn α × Env')) Q = False := W_none
theorem W_ite {c : Prop} [Decidable c] {a b : EM α} : W ((if c then a else b) ρ) Q = if c then W (a ρ) Q else W (b ρ) Q := by split <;> rfl
theorem W_iteo {c : Prop} [Decidable c] {a b : Option (Except Exn α × Env')} : W (if c then a else b) Q = if c then W a Q else W b Q := by split <;> rfl
theorem oW_ite {c : Prop} [Decidable c] {a : α} {P : α → Prop} : oW (if c then some a else none) P = (c ∧ P a) := by
  by_cases h : c
  · rw [if_pos h, oW_some]; simp [h]
  · rw [if_neg h, oW_none]; simp [h]
theorem W_raise {x : Exn} : W (EM.raise x ρ : Option (Except Exn α × Env')) Q = Q (.error x) ρ := W_some
end
/-! ### slots -/
def nmW (s : Sl) (i : Nat) (ρ : Env') (Q : Except Exn D → Env' → Prop) : Prop := match s with
  | .fz d => Q (.ok d) ρ
  | .ow _ d => Q (.ok d) (ρ.set i (.fz d))
  | _ => False
def bnW (s : Sl) (ρ : Env') (Q : Except Exn D → Env' → Prop) : Prop := match s with
  | .fz d => Q (.ok d) ρ
  | .ow 1 d => Q (.ok d) ρ
  | .rf _ 1 d => Q (.ok d) ρ
  | _ => False
def chkW (s : Sl) (P : Prop) : Prop := match s with
  | .un => False
  | _ => P
def setW (s : Sl) (P : Prop) : Prop := match s with
  | .rf _ _ _ => False
  | .ro _ _ => False
  | .kn _ => False
  | _ => P
def ownW (s : Sl) (i : Nat) (ρ : Env') (Q : Except Exn (Nat × D) → Env' → Prop) : Prop := match s with
  | .fz d => Q (.ok (0, d)) ρ
  | .ow k d => Q (.ok (k, d)) (ρ.set i .un)
  | _ => False
section
variable {α : Type} {Q : Except Exn D → Env' → Prop} {R : Except Exn α → Env' → Prop} {ρ : Env'} {i : Nat} {d : D} {P : Prop}
theorem slot_zero {s : Sl} : slot (s :: ρ) 0 = s := rfl
theorem slot_succ {s : Sl} {n : Nat} : slot (s :: ρ) (n + 1) = slot ρ n := rfl
theorem W_nm : W (nm i ρ) Q = nmW (slot ρ i) i ρ Q := by
  unfold nm nmW
  cases slot ρ i <;> simp only [W_some, W_none]
theorem nmW_fz : nmW (.fz d) i ρ Q = Q (.ok d) ρ := rfl
theorem nmW_ow {k : Nat} : nmW (.ow k d) i ρ Q = Q (.ok d) (ρ.set i (.fz d)) := rfl
theorem W_bn : W (bn i ρ) Q = bnW (slot ρ i) ρ Q := by
  unfold bn bnW
  cases slot ρ i with
  | ow k d =>
    by_cases h : k = 1
    · subst h; simp only [if_true, W_some]
    · simp only [if_neg h, W_none]
      rcases k with _ | _ | k
      · rfl
      · exact absurd rfl h
      · rfl
  | rf t k d =>
    by_cases h : k = 1
    · subst h; simp only [if_true, W_some]
    · simp only [if_neg h, W_none]
      rcases k with _ | _ | k
      · rfl
      · exact absurd rfl h
      · rfl
  | _ => simp only [W_some, W_none]
theorem bnW_fz : bnW (.fz d) ρ Q = Q (.ok d) ρ := rfl
theorem bnW_ow : bnW (.ow 1 d) ρ Q = Q (.ok d) ρ := rfl
theorem bnW_rf {t : Nat} : bnW (.rf t 1 d) ρ Q = Q (.ok d) ρ := rfl
theorem W_chk {m : EM α} : W (chk i m ρ) R = chkW (slot ρ i) (W (m ρ) R) := by
  unfold chk chkW
  cases slot ρ i <;> simp only [W_none]
theorem chkW_fz : chkW (.fz d) P = P := rfl
theorem chkW_ow {k : Nat} : chkW (.ow k d) P = P := rfl
theorem chkW_rf {t k : Nat} : chkW (.rf t k d) P = P := rfl
theorem chkW_ro {t : Nat} : chkW (.ro t d) P = P := rfl
theorem W_setSl {s : Sl} {R : Except Exn Unit → Env' → Prop} : W (setSl i s ρ) R = setW (slot ρ i) (i < ρ.length ∧ R (.ok ()) (ρ.set i s)) := by
  unfold setSl setW
  have go : W (if i < ρ.length then some ((Except.ok () : Except Exn Unit), ρ.set i s) else none) R = (i < ρ.length ∧ R (.ok ()) (ρ.set i s)) := by
    rw [W_iteo, W_some, W_none]
    by_cases h : i < ρ.length <;> simp [h]
  cases slot ρ i <;> simp only [W_none, go]
theorem setW_un : setW .un P = P := rfl
theorem setW_fz : setW (.fz d) P = P := rfl
theorem setW_ow {k : Nat} : setW (.ow k d) P = P := rfl
theorem W_own {Q : Except Exn (Nat × D) → Env' → Prop} : W (own i ρ) Q = ownW (slot ρ i) i ρ Q := by
  unfold own ownW
  cases slot ρ i <;> simp only [W_some, W_none]
theorem ownW_fz {Q : Except Exn (Nat × D) → Env' → Prop} : ownW (.fz d) i ρ Q = Q (.ok (0, d)) ρ := rfl
theorem ownW_ow {k : Nat} {Q : Except Exn (Nat × D) → Env' → Prop} : ownW (.ow k d) i ρ Q = Q (.ok (k, d)) (ρ.set i .un) := rfl
theorem mkSl_zero : mkSl 0 d = .fz d := rfl
theorem mkSl_one : mkSl 1 d = .ow 1 d := rfl
theorem mkSl_two : mkSl 2 d = .ow 2 d := rfl
end
/-! ### expressions -/
section
variable {α : Type} {Q : Except Exn D → Env' → Prop} {B : Except Exn Bool → Env' → Prop} {L : Except Exn (List D) → Env' → Prop} {G : Except Exn (Nat × D) → Env' → Prop} {ρ : Env'} {m n : EM D} {i j : Nat} {op : D → D → Option D} {f : D → Option D} {d : D}
theorem W_lit : W (lit d ρ) Q = Q (.ok d) ρ := W_some
theorem W_binEE : W (bin (.ex m) (.ex n) op ρ) Q = W (m ρ) (Kn (fun x => bnd n fun y => opt (op x y)) Q) := by
  unfold bin Opd.one
  simp only [W_bnd]
  congr 1
  funext r ρ1
  cases r with
  | error x => rfl
  | ok a =>
    show W (EM.ret (some a) ρ1) _ = _
    simp only [W_ret, Kn_ok, W_bnd]
    congr 1
    funext r ρ2
    cases r with
    | error x => rfl
    | ok b =>
      show W (EM.ret (some b) ρ2) _ = _
      simp only [W_ret, Kn_ok, W_bnd, Opd.two]
theorem W_binES : W (bin (.ex m) (.sl j) op ρ) Q = W (m ρ) (Kn (fun x => chk j (bnd (bn j) fun y => opt (op x y))) Q) := by
  unfold bin Opd.one
  simp only [W_bnd]
  congr 1
  funext r ρ1
  cases r with
  | error x => rfl
  | ok a =>
    show W (EM.ret (some a) ρ1) _ = _
    simp only [W_ret, Kn_ok, W_bnd, W_chk, Opd.two]
theorem W_binSE : W (bin (.sl i) (.ex n) op ρ) Q = chkW (slot ρ i) (W (n ρ) (Kn (fun y => bnd (bn i) fun x => opt (op x y)) Q)) := by
  unfold bin Opd.one
  simp only [W_bnd, W_chk, W_ret, Kn_ok]
  congr 1
  congr 1
  funext r ρ1
  cases r with
  | error x => rfl
  | ok a =>
    show W (EM.ret (some a) ρ1) _ = _
    simp only [W_ret, Kn_ok, W_bnd, Opd.two]
    rfl
theorem W_binSS : W (bin (.sl i) (.sl j) op ρ) Q = chkW (slot ρ i) (chkW (slot ρ j) (W (bn i ρ) (Kn (fun x => bnd (bn j) fun y => opt (op x y)) Q))) := by
  unfold bin Opd.one
  simp only [W_bnd, W_chk, W_ret, Kn_ok, Opd.two]
theorem W_un1E : W (un1 (.ex m) f ρ) Q = W (m ρ) (Kn (fun x => opt (f x)) Q) := by
  unfold un1 Opd.one
  simp only [W_bnd]
  congr 1
  funext r ρ1
  cases r with
  | error x => rfl
  | ok a =>
    show W (EM.ret (some a) ρ1) _ = _
    simp only [W_ret, Kn_ok, W_bnd, Opd.two]
theorem W_un1S : W (un1 (.sl i) f ρ) Q = chkW (slot ρ i) (W (bn i ρ) (Kn (fun x => opt (f x)) Q)) := by
  unfold un1 Opd.one
  simp only [W_bnd, W_chk, W_ret, Kn_ok, Opd.two]
theorem W_tVal : W (tVal m ρ) B = W (m ρ) (Kn boolOf B) := W_bnd
theorem W_boolOf {b : Bool} : W (boolOf (.bool b) ρ) B = B (.ok b) ρ := W_some
theorem W_tNot {a : EM Bool} : W (tNotM a ρ) B = W (a ρ) (Kn (fun x => EM.ret (!x)) B) := W_bnd
theorem W_tAnd {a b : EM Bool} : W (tAndM a b ρ) B = W (a ρ) (Kn (fun x => if x = true then b else EM.ret false) B) := W_bnd
theorem W_tOr {a b : EM Bool} : W (tOrM a b ρ) B = W (a ρ) (Kn (fun x => if x = true then EM.ret true else b) B) := W_bnd
theorem W_tTruE : W (tTru (.ex m) ρ) B = W (m ρ) (Kn (fun x => opt (truD x)) B) := by
  unfold tTru Opd.one
  simp only [W_bnd]
  congr 1
  funext r ρ1
  cases r with
  | error x => rfl
  | ok a =>
    show W (EM.ret (some a) ρ1) _ = _
    simp only [W_ret, Kn_ok, W_bnd, Opd.two]
theorem W_tTruS : W (tTru (.sl i) ρ) B = chkW (slot ρ i) (W (bn i ρ) (Kn (fun x => opt (truD x)) B)) := by
  unfold tTru Opd.one
  simp only [W_bnd, W_chk, W_ret, Kn_ok, Opd.two]
theorem W_ifE {c : EM Bool} {a b : EM D} : W (ifE c a b ρ) Q = W (c ρ) (Kn (fun x => if x = true then a else b) Q) := W_bnd
theorem W_andV {a b : EM D} : W (andV a b ρ) Q = W (a ρ) (Kn (fun d => bnd (boolOf d) fun x => if x = true then b else EM.ret (.bool false)) Q) := W_bnd
theorem W_orV {a b : EM D} : W (orV a b ρ) Q = W (a ρ) (Kn (fun d => bnd (boolOf d) fun x => if x = true then EM.ret (.bool true) else b) Q) := W_bnd
theorem W_notV {c : EM Bool} : W (notV c ρ) Q = W (c ρ) (Kn (fun x => EM.ret (.bool (!x))) Q) := W_bnd
theorem W_aNil : W (aNil ρ) L = L (.ok []) ρ := W_some
theorem W_aCons {r : EM (List D)} : W (aCons m r ρ) L = W (m ρ) (Kn (fun d => bnd r fun ds => EM.ret (d :: ds)) L) := W_bnd
theorem W_aStar {r : EM (List D)} : W (aStar m r ρ) L = W (m ρ) (Kn (fun d => bnd (opt (itemsD d)) fun es => bnd r fun ds => EM.ret (es ++ ds)) L) := W_bnd
theorem W_eTup {r : EM (List D)} : W (eTup r ρ) Q = W (r ρ) (Kn (fun ds => if ds.length ≤ 16777216 then EM.ret (.tuple ds) else stuck) Q) := W_bnd
theorem W_eTupW {r : EM (List D)} : W (eTupW r ρ) Q = W (r ρ) (Kn (fun ds => if ds.length ≤ 16777216 ∧ StrT ds = false then EM.ret (.tuple ds) else stuck) Q) := W_bnd
theorem W_eLst {r : EM (List D)} : W (eLst r ρ) Q = W (r ρ) (Kn (fun ds => if ds.length ≤ 16777216 then EM.ret (.list ds) else stuck) Q) := W_bnd
theorem W_partN {P : Except Exn (Option Int) → Env' → Prop} : W (partM none ρ) P = P (.ok none) ρ := W_some
theorem W_partS {P : Except Exn (Option Int) → Env' → Prop} : W (partM (some m) ρ) P = W (m ρ) (Kn intO P) := W_bnd
theorem W_intO {k : Int} {P : Except Exn (Option Int) → Env' → Prop} : W (intO (.int k) ρ) P = P (.ok (some k)) ρ := W_some
theorem W_eSlE {lo hi : Option (EM D)} : W (eSl (.ex m) lo hi ρ) Q = W (m ρ) (Kn (fun x => bnd (partM lo) fun l => bnd (partM hi) fun h => opt (sliceD x l h)) Q) := by
  unfold eSl Opd.one
  simp only [W_bnd]
  congr 1
  funext r ρ1
  cases r with
  | error x => rfl
  | ok a =>
    show W (EM.ret (some a) ρ1) _ = _
    simp only [W_ret, Kn_ok, W_bnd, Opd.two]
    rfl
theorem W_eSlS {lo hi : Option (EM D)} : W (eSl (.sl i) lo hi ρ) Q = chkW (slot ρ i) (W (partM lo ρ) (Kn (fun l => bnd (partM hi) fun h => bnd (bn i) fun x => opt (sliceD x l h)) Q)) := by
  unfold eSl Opd.one
  simp only [W_bnd, W_chk, W_ret, Kn_ok, Opd.two]
theorem W_gE : W (gE m ρ) G = W (m ρ) (Kn (fun d => EM.ret (0, d)) G) := W_bnd
theorem W_gF {r : EM (List D)} : W (gF r ρ) G = W (r ρ) (Kn (fun ds => EM.ret (1, .list ds)) G) := W_bnd
theorem W_eF {r : EM (List D)} : W (eF r ρ) Q = W (r ρ) (Kn (fun ds => EM.ret (.list ds)) Q) := W_bnd
theorem W_frz {m : EM (Nat × D)} : W (frz m ρ) Q = W (m ρ) (Kn (fun p => EM.ret p.2) Q) := W_bnd
theorem W_binFEE {op : D → D → Option (List D)} : W (binF (.ex m) (.ex n) op ρ) L = W (m ρ) (Kn (fun x => bnd n fun y => opt (op x y)) L) := by
  unfold binF Opd.one
  simp only [W_bnd]
  congr 1
  funext r ρ1
  cases r with
  | error x => rfl
  | ok a =>
    show W (EM.ret (some a) ρ1) _ = _
    simp only [W_ret, Kn_ok, W_bnd]
    congr 1
    funext r ρ2
    cases r with
    | error x => rfl
    | ok b =>
      show W (EM.ret (some b) ρ2) _ = _
      simp only [W_ret, Kn_ok, W_bnd, Opd.two]
theorem W_binFES {op : D → D → Option (List D)} : W (binF (.ex m) (.sl j) op ρ) L = W (m ρ) (Kn (fun x => chk j (bnd (bn j) fun y => opt (op x y))) L) := by
  unfold binF Opd.one
  simp only [W_bnd]
  congr 1
  funext r ρ1
  cases r with
  | error x => rfl
  | ok a =>
    show W (EM.ret (some a) ρ1) _ = _
    simp only [W_ret, Kn_ok, W_bnd, W_chk, Opd.two]
theorem W_unFE {f : D → Option (List D)} : W (unF (.ex m) f ρ) L = W (m ρ) (Kn (fun x => opt (f x)) L) := by
  unfold unF Opd.one
  simp only [W_bnd]
  congr 1
  funext r ρ1
  cases r with
  | error x => rfl
  | ok a =>
    show W (EM.ret (some a) ρ1) _ = _
    simp only [W_ret, Kn_ok, W_bnd, Opd.two]
theorem W_unFS {f : D → Option (List D)} : W (unF (.sl i) f ρ) L = chkW (slot ρ i) (W (bn i ρ) (Kn (fun x => opt (f x)) L)) := by
  unfold unF Opd.one
  simp only [W_bnd, W_chk, W_ret, Kn_ok, Opd.two]
theorem W_iSrc : W (iSrc m ρ) L = W (m ρ) (Kn (fun d => opt (itemsD d)) L) := W_bnd
theorem W_rng1 : W (rng1 m ρ) L = W (m ρ) (Kn (fun d => match d with
  | .int n => if -(2 ^ 62) ≤ n ∧ n < 2 ^ 62 then EM.ret (rangeL 0 n.toNat) else stuck
  | _ => stuck) L) := W_bnd
theorem W_eEnum : W (eEnum m ρ) L = W (m ρ) (Kn (fun d => opt (match d with
  | .list ds => some (enumL ds)
  | _ => none)) L) := W_bnd
theorem W_eZip : W (eZip m n ρ) L = W (m ρ) (Kn (fun d => bnd n fun e => opt (zipD d e)) L) := W_bnd
end
/-! ### lists in slots -/
def lsW (s : Sl) (P : List D → Prop) : Prop := match s with
  | .ow 1 (.list ds) => P ds
  | .rf _ 1 (.list ds) => P ds
  | _ => False
def upS (s : Sl) (ds : List D) : Sl := match s with
  | .ow 1 (.list _) => .ow 1 (.list ds)
  | .rf t 1 (.list _) => .rf t 1 (.list ds)
  | s => s
section
variable {α : Type} {ρ : Env'} {i : Nat} {ds : List D} {P : List D → Prop}
theorem lsW_ow : lsW (.ow 1 (.list ds)) P = P ds := rfl
theorem lsW_rf {t : Nat} : lsW (.rf t 1 (.list ds)) P = P ds := rfl
theorem upS_ow {es : List D} : upS (.ow 1 (.list es)) ds = .ow 1 (.list ds) := rfl
theorem upS_rf {t : Nat} {es : List D} : upS (.rf t 1 (.list es)) ds = .rf t 1 (.list ds) := rfl
theorem lsCases (s : Sl) : (∃ ds, s = .ow 1 (.list ds)) ∨ (∃ t ds, s = .rf t 1 (.list ds)) ∨ ((∀ P, lsW s P = False) ∧ (∀ ds, s ≠ .ow 1 (.list ds)) ∧ ∀ t ds, s ≠ .rf t 1 (.list ds)) := by
  cases s with
  | ow k d =>
    rcases k with _ | _ | k
    · exact .inr (.inr ⟨fun _ => rfl, (fun _ z => nomatch z), (fun _ _ z => nomatch z)⟩)
    · cases d with
      | list ds => exact .inl ⟨ds, rfl⟩
      | _ => exact .inr (.inr ⟨fun _ => rfl, (fun _ z => nomatch z), (fun _ _ z => nomatch z)⟩)
    · exact .inr (.inr ⟨fun _ => rfl, (fun _ z => nomatch z), (fun _ _ z => nomatch z)⟩)
  | rf t k d =>
    rcases k with _ | _ | k
    · exact .inr (.inr ⟨fun _ => rfl, (fun _ z => nomatch z), (fun _ _ z => nomatch z)⟩)
    · cases d with
      | list ds => exact .inr (.inl ⟨t, ds, rfl⟩)
      | _ => exact .inr (.inr ⟨fun _ => rfl, (fun _ z => nomatch z), (fun _ _ z => nomatch z)⟩)
    · exact .inr (.inr ⟨fun _ => rfl, (fun _ z => nomatch z), (fun _ _ z => nomatch z)⟩)
  | _ => exact .inr (.inr ⟨fun _ => rfl, (fun _ z => nomatch z), (fun _ _ z => nomatch z)⟩)
theorem W_hasL {R : Except Exn Unit → Env' → Prop} : W (hasL i ρ) R = lsW (slot ρ i) fun _ => R (.ok ()) ρ := by
  rcases lsCases (slot ρ i) with ⟨ds, h⟩ | ⟨t, ds, h⟩ | ⟨h1, h2, h3⟩
  · unfold hasL; rw [h]; exact W_some
  · unfold hasL; rw [h]; exact W_some
  · rw [h1]
    have e : hasL i ρ = none := by
      unfold hasL
      split
      · rename_i e; exact absurd e (h2 _)
      · rename_i e; exact absurd e (h3 _ _)
      · rfl
    rw [e, W_none]
theorem W_getL {R : Except Exn (List D) → Env' → Prop} : W (NH.getL i ρ) R = lsW (slot ρ i) fun ds => R (.ok ds) ρ := by
  rcases lsCases (slot ρ i) with ⟨ds, h⟩ | ⟨t, ds, h⟩ | ⟨h1, h2, h3⟩
  · unfold NH.getL; rw [h]; exact W_some
  · unfold NH.getL; rw [h]; exact W_some
  · rw [h1]
    have e : NH.getL i ρ = none := by
      unfold NH.getL
      split
      · rename_i e; exact absurd e (h2 _)
      · rename_i e; exact absurd e (h3 _ _)
      · rfl
    rw [e, W_none]
theorem W_setL {R : Except Exn Unit → Env' → Prop} : W (setL i ds ρ) R = lsW (slot ρ i) fun _ => ds.length ≤ 16777216 ∧ R (.ok ()) (ρ.set i (upS (slot ρ i) ds)) := by
  have go : ∀ (s : Sl), W (if ds.length ≤ 16777216 then some ((Except.ok () : Except Exn Unit), ρ.set i s) else none) R = (ds.length ≤ 16777216 ∧ R (.ok ()) (ρ.set i s)) := fun s => by
    rw [W_iteo, W_some, W_none]
    by_cases h : ds.length ≤ 16777216 <;> simp [h]
  rcases lsCases (slot ρ i) with ⟨es, h⟩ | ⟨t, es, h⟩ | ⟨h1, h2, h3⟩
  · unfold setL; rw [h]; exact go _
  · unfold setL; rw [h]; exact go _
  · rw [h1]
    have e : setL i ds ρ = none := by
      unfold setL
      split
      · split
        · rename_i e; exact absurd e (h2 _)
        · rename_i e; exact absurd e (h3 _ _)
        · rfl
      · rfl
    rw [e, W_none]
theorem W_eApp {m : EM D} {Q : Except Exn D → Env' → Prop} : W (eApp i m ρ) Q = lsW (slot ρ i) fun _ => W (m ρ) (Kn (fun d => bnd (NH.getL i) fun ds => bnd (setL i (ds ++ [d])) fun _ => EM.ret .none) Q) := by
  unfold eApp
  rw [W_bnd, W_hasL]
  congr 1
  funext _
  exact W_bnd
theorem W_eExt {m : EM D} {Q : Except Exn D → Env' → Prop} : W (eExt i m ρ) Q = lsW (slot ρ i) fun _ => W (m ρ) (Kn (fun d => bnd (NH.getL i) fun ds => bnd (opt (lstD d)) fun es => bnd (setL i (ds ++ es)) fun _ => EM.ret .none) Q) := by
  unfold eExt
  rw [W_bnd, W_hasL]
  congr 1
  funext _
  exact W_bnd
theorem W_eIns {a m : EM D} {Q : Except Exn D → Env' → Prop} : W (eIns i a m ρ) Q = lsW (slot ρ i) fun _ => W (a ρ) (Kn (fun n => bnd m fun d => bnd (NH.getL i) fun ds => bnd (opt ((intD n).bind fitI)) fun k => bnd (setL i (ds.take k ++ d :: ds.drop k)) fun _ => EM.ret .none) Q) := by
  unfold eIns
  rw [W_bnd, W_hasL]
  congr 1
  funext _
  exact W_bnd
theorem W_ePop {Q : Except Exn D → Env' → Prop} : W (ePop i ρ) Q = lsW (slot ρ i) fun ds => oW ds[ds.length - 1]? fun d => W (setL i ds.dropLast ρ) (Kn (fun _ => EM.ret d) Q) := by
  unfold ePop
  rw [W_bnd, W_getL]
  congr 1
  funext ds
  simp only [Kn_ok, W_bnd, W_opt]
theorem W_ePopAt {a : EM D} {Q : Except Exn D → Env' → Prop} : W (ePopAt i a ρ) Q = lsW (slot ρ i) fun _ => W (a ρ) (Kn (fun n => bnd (NH.getL i) fun ds => bnd (opt ((intD n).bind fun k => fitZ k ds.length)) fun j => bnd (opt ds[j]?) fun d => bnd (setL i (ds.eraseIdx j)) fun _ => EM.ret d) Q) := by
  unfold ePopAt
  rw [W_bnd, W_hasL]
  congr 1
  funext _
  exact W_bnd
end
/-! ### statements -/
section
variable {ρ : Env'} {S : Except Exn Fl → Env' → Prop} {m : EM D} {i : Nat}
theorem W_sNext : W (sNext ρ) S = S (.ok .next) ρ := W_some
theorem W_sSet {g : EM (Nat × D)} : W (sSet i g ρ) S = W (g ρ) (Kn (fun p => bnd (setSl i (mkSl p.1 p.2)) fun _ => EM.ret .next) S) := W_bnd
theorem W_sRet {g : EM (Nat × D)} : W (sRet g ρ) S = W (g ρ) (Kn (fun p => EM.ret (.ret p.1 p.2)) S) := W_bnd
theorem W_sExpr : W (sExpr m ρ) S = W (m ρ) (Kn (fun _ => EM.ret .next) S) := W_bnd
/-- what follows a statement -/
def Sk (b : EM Fl) (S : Except Exn Fl → Env' → Prop) : Except Exn Fl → Env' → Prop
  | .ok .next, ρ => W (b ρ) S
  | r, ρ => S r ρ
theorem W_sSeq {a b : EM Fl} : W (sSeq a b ρ) S = W (a ρ) (Sk b S) := by
  unfold sSeq
  rw [W_bnd]
  congr 1
  funext r ρ1
  rcases r with x | f
  · rfl
  · cases f with
    | next => rfl
    | brk => exact W_ret
    | cont => exact W_ret
    | ret k d => exact W_ret
theorem Sk_next {b : EM Fl} : Sk b S (.ok .next) ρ = W (b ρ) S := rfl
theorem Sk_ret {b : EM Fl} {k : Nat} {d : D} : Sk b S (.ok (.ret k d)) ρ = S (.ok (.ret k d)) ρ := rfl
theorem Sk_err {b : EM Fl} {x : Exn} : Sk b S (.error x) ρ = S (.error x) ρ := rfl
theorem Sk_brk {b : EM Fl} : Sk b S (.ok .brk) ρ = S (.ok .brk) ρ := rfl
theorem Sk_cont {b : EM Fl} : Sk b S (.ok .cont) ρ = S (.ok .cont) ρ := rfl
theorem W_sIf {c : EM Bool} {a b : EM Fl} : W (sIf c a b ρ) S = W (c ρ) (Kn (fun x => if x = true then a else b) S) := W_bnd
theorem W_sAsg {t : Tg} : W (sAsg t m ρ) S = W (m ρ) (Kn (fun d => bnd (asgT t d) fun _ => EM.ret .next) S) := W_bnd
theorem W_sFor {t : Tg} {src : EM (List D)} {b : EM Fl} : W (sFor t src b ρ) S = W (src ρ) (Kn (fun ds => forD t b ds) S) := W_bnd
theorem W_sPut {a : EM D} : W (sPut i a m ρ) S = W (m ρ) (Kn (fun d => bnd (hasL i) fun _ => bnd a fun n => bnd (NH.getL i) fun ds => bnd (opt ((intD n).bind fun k => ixN ds.length k)) fun j => bnd (setL i (ds.set j d)) fun _ => EM.ret .next) S) := W_bnd
theorem W_sPutOp {a : EM D} {op : D → D → Option D} : W (sPutOp i op a m ρ) S = lsW (slot ρ i) fun _ => W (a ρ) (Kn (fun n => bnd (NH.getL i) fun ds => bnd (opt ((intD n).bind fun k => atD ds k)) fun x => bnd m fun y => bnd (opt (op x y)) fun z => bnd (NH.getL i) fun es => bnd (opt ((intD n).bind fun k => ixN es.length k)) fun j => bnd (setL i (es.set j z)) fun _ => EM.ret .next) S) := by
  unfold sPutOp
  rw [W_bnd, W_hasL]
  congr 1
  funext _
  exact W_bnd
def fzW (s : Sl) (P : D → Prop) : Prop := match s with
  | .fz d => P d
  | _ => False
theorem fzW_fz {d : D} {P : D → Prop} : fzW (.fz d) P = P d := rfl
theorem W_sAug {op : D → D → Option D} : W (sAug i op m ρ) S = fzW (slot ρ i) fun x => W (m ρ) (Kn (fun y => bnd (opt (op x y)) fun z => bnd (setSl i (.fz z)) fun _ => EM.ret .next) S) := by
  unfold sAug fzW
  cases slot ρ i with
  | fz d => exact W_bnd
  | _ => exact W_none
theorem W_sRaise {x f : Str} : W (sRaise x f m ρ) S = W (m ρ) (Kn (fun d => EM.raise ⟨x, [(f, d)]⟩) S) := W_bnd
theorem W_sPar {is : List Nat} {ms : List (EM (Nat × D))} : W (sPar is ms ρ) S = W (gsM ms ρ) (Kn (fun ps => bnd (setAll is ps) fun _ => EM.ret .next) S) := W_bnd
theorem W_gsNil {P : Except Exn (List (Nat × D)) → Env' → Prop} : W (gsM [] ρ) P = P (.ok []) ρ := W_some
theorem W_gsCons {g : EM (Nat × D)} {ms : List (EM (Nat × D))} {P : Except Exn (List (Nat × D)) → Env' → Prop} : W (gsM (g :: ms) ρ) P = W (g ρ) (Kn (fun p => bnd (gsM ms) fun ps => EM.ret (p :: ps)) P) := W_bnd
theorem W_setNil {P : Except Exn Unit → Env' → Prop} : W (setAll [] [] ρ) P = P (.ok ()) ρ := W_some
theorem W_setCons {j : Nat} {is : List Nat} {p : Nat × D} {ps : List (Nat × D)} {P : Except Exn Unit → Env' → Prop} : W (setAll (j :: is) (p :: ps) ρ) P = W (setSl j (mkSl p.1 p.2) ρ) (Kn (fun _ => setAll is ps) P) := W_bnd
theorem W_asgN {d : D} {P : Except Exn Unit → Env' → Prop} : W (asgT (.nm i) d ρ) P = W (setSl i (.fz d) ρ) P := rfl
theorem W_asgT {ts : List Tg} {ds : List D} {P : Except Exn Unit → Env' → Prop} : W (asgT (.tp ts) (.tuple ds) ρ) P = if ds.length = ts.length then W (asgTs ts ds ρ) P else False := by
  show W ((if ds.length = ts.length then asgTs ts ds else stuck) ρ) P = _
  rw [W_ite, W_stuck]
theorem W_asgsNil {P : Except Exn Unit → Env' → Prop} : W (asgTs [] [] ρ) P = P (.ok ()) ρ := W_some
theorem W_asgsCons {t : Tg} {ts : List Tg} {d : D} {ds : List D} {P : Except Exn Unit → Env' → Prop} : W (asgTs (t :: ts) (d :: ds) ρ) P = W (asgT t d ρ) (Kn (fun _ => asgTs ts ds) P) := W_bnd
end
/-! ### calls -/
def bkW (o : Option Env') (P : Env' → Prop) : Prop := oW o P
section
variable {ρ : Env'} {as : List Ag} {F : Fn} {G : Except Exn (Nat × D) → Env' → Prop}
theorem W_argsNil {P : Except Exn (List (Option D)) → Env' → Prop} : W (argsM [] ρ) P = P (.ok []) ρ := W_some
theorem W_argsVal {m : EM D} {P : Except Exn (List (Option D)) → Env' → Prop} : W (argsM (.val m :: as) ρ) P = W (m ρ) (Kn (fun d => bnd (argsM as) fun r => EM.ret (some d :: r)) P) := W_bnd
theorem W_argsRef {i : Nat} {P : Except Exn (List (Option D)) → Env' → Prop} : W (argsM (.ref i :: as) ρ) P = chkW (slot ρ i) (W (argsM as ρ) (Kn (fun r => EM.ret (none :: r)) P)) := by
  show W (chk i (bnd (argsM as) fun r => EM.ret (none :: r)) ρ) P = _
  rw [W_chk, W_bnd]
def callR (F : Fn) (as : List Ag) (ds : List (Option D)) : EM (Nat × D) := fun ρ => (mkArgs as ds ρ 0).bind fun sl => (F sl).bind fun p => (backA as p.2 ρ).map fun ρ' => (p.1, ρ')
theorem W_callM : W (callM F as ρ) G = W (argsM as ρ) (Kn (fun ds => callR F as ds) G) := W_bnd
/-- behind a call -/
def Ck (as : List Ag) (ρ : Env') (G : Except Exn (Nat × D) → Env' → Prop) : Except Exn (Nat × D) → Env' → Prop := fun r outs => oW (backA as outs ρ) fun ρ' => G r ρ'
theorem W_callR {ds : List (Option D)} : W (callR F as ds ρ) G = oW (mkArgs as ds ρ 0) fun sl => W (F sl) (Ck as ρ G) := by
  unfold callR
  cases mkArgs as ds ρ 0 with
  | none => rw [oW_none]; exact W_none
  | some sl =>
    rw [oW_some]
    show W ((F sl).bind fun p => (backA as p.2 ρ).map fun ρ' => (p.1, ρ')) G = _
    cases hF : F sl with
    | none => rw [W_none]; exact W_none
    | some p =>
      obtain ⟨r, outs⟩ := p
      rw [W_some]
      show W ((backA as outs ρ).map fun ρ' => (r, ρ')) G = oW (backA as outs ρ) fun ρ' => G r ρ'
      cases backA as outs ρ with
      | none => rw [oW_none]; exact W_none
      | some ρ' => rw [oW_some]; exact W_some
theorem Ck_eq {r : Except Exn (Nat × D)} {outs : Env'} : Ck as ρ G r outs = oW (backA as outs ρ) fun ρ' => G r ρ' := rfl
theorem mkA_nil {j : Nat} : mkArgs [] [] ρ j = some [] := rfl
theorem mkA_val {m : EM D} {d : D} {ds : List (Option D)} {j : Nat} : mkArgs (.val m :: as) (some d :: ds) ρ j = (mkArgs as ds ρ (j + 1)).map fun r => .fz d :: r := rfl
theorem mkA_ref {i : Nat} {ds : List (Option D)} {j : Nat} : mkArgs (.ref i :: as) (none :: ds) ρ j = (argS (slot ρ i) j).bind fun s => (mkArgs as ds ρ (j + 1)).map fun r => s :: r := rfl
theorem argS_fz {d : D} {j : Nat} : argS (.fz d) j = some (.fz d) := rfl
theorem argS_ow {d : D} {k j : Nat} : argS (.ow k d) j = some (.rf j k d) := rfl
theorem argS_rf {d : D} {t k j : Nat} : argS (.rf t k d) j = some (.rf j k d) := rfl
theorem argS_ro {d : D} {t j : Nat} : argS (.ro t d) j = some (.ro j d) := rfl
theorem backA_nil : backA [] [] ρ = some ρ := rfl
theorem backA_val {m : EM D} {o : Sl} {os : List Sl} : backA (.val m :: as) (o :: os) ρ = backA as os ρ := rfl
theorem backA_ref {i : Nat} {o : Sl} {os : List Sl} : backA (.ref i :: as) (o :: os) ρ = (bakS (slot ρ i) o).bind fun s => backA as os (ρ.set i s) := rfl
theorem bakS_fz {d : D} {o : Sl} : bakS (.fz d) o = some (.fz d) := rfl
theorem bakS_ro {d : D} {t : Nat} {o : Sl} : bakS (.ro t d) o = some (.ro t d) := rfl
theorem bakS_ow {d d' : D} {k t : Nat} : bakS (.ow k d) (.rf t k d') = some (.ow k d') := by unfold bakS; simp
theorem bakS_rf {d d' : D} {k t t' : Nat} : bakS (.rf t k d) (.rf t' k d') = some (.rf t k d') := by unfold bakS; simp
/-- a def's end -/
def Fk (sl : List Sl) (G : Except Exn (Nat × D) → Env' → Prop) : Except Exn Fl → Env' → Prop
  | .ok (.ret k d), ρ => oW (finS sl ρ 0) fun o => G (.ok (k, d)) o
  | .ok .next, ρ => oW (finS sl ρ 0) fun o => G (.ok (0, .none)) o
  | .error x, ρ => oW (finS sl ρ 0) fun o => G (.error x) o
  | _, _ => False
theorem W_fn {n nl : Nat} {b : EM Fl} {sl : List Sl} (hl : sl.length = n) (ht : tagsOk sl 0 = true) (h : W (b (sl ++ List.replicate nl .un)) (Fk sl G)) : W (guardF (fnOf n nl b) sl) G := by
  obtain ⟨r, ρ', e, q⟩ := h
  unfold guardF fnOf
  rw [if_pos ht, if_pos hl, e]
  rcases r with x | f
  · obtain ⟨o, e2, q2⟩ := q
    refine ⟨.error x, o, ?_, q2⟩
    show (finS sl ρ' 0).map _ = _
    rw [e2]; rfl
  · cases f with
    | next =>
      obtain ⟨o, e2, q2⟩ := q
      refine ⟨_, o, ?_, q2⟩
      show (finS sl ρ' 0).map _ = _
      rw [e2]; rfl
    | ret k d =>
      obtain ⟨o, e2, q2⟩ := q
      refine ⟨_, o, ?_, q2⟩
      show (finS sl ρ' 0).map _ = _
      rw [e2]; rfl
    | brk => exact q.elim
    | cont => exact q.elim
theorem Fk_ret {sl : List Sl} {k : Nat} {d : D} : Fk sl G (.ok (.ret k d)) ρ = oW (finS sl ρ 0) fun o => G (.ok (k, d)) o := rfl
theorem Fk_next {sl : List Sl} : Fk sl G (.ok .next) ρ = oW (finS sl ρ 0) fun o => G (.ok (0, .none)) o := rfl
theorem Fk_err {sl : List Sl} {x : Exn} : Fk sl G (.error x) ρ = oW (finS sl ρ 0) fun o => G (.error x) o := rfl
theorem finS_nil {j : Nat} : finS [] ρ j = some [] := rfl
theorem finS_cons {s : Sl} {sl : List Sl} {j : Nat} : finS (s :: sl) ρ j = (fin1 s (slot ρ j)).bind fun o => (finS sl ρ (j + 1)).map fun os => o :: os := rfl
theorem fin1_fz {d : D} {o : Sl} : fin1 (.fz d) o = some (.fz d) := rfl
theorem fin1_ro {t : Nat} {d : D} {o : Sl} : fin1 (.ro t d) o = some (.ro t d) := rfl
theorem fin1_rf {t k : Nat} {d d' : D} : fin1 (.rf t k d) (.rf t k d') = some (.rf t k d') := by unfold fin1; simp
end
/-! ### loops -/
section
variable {ρ : Env'} {S : Except Exn Fl → Env' → Prop} {t : Tg} {b : EM Fl}
theorem W_forNil : W (forD t b [] ρ) S = S (.ok .next) ρ := W_some
theorem W_forCons {d : D} {ds : List D} : W (forD t b (d :: ds) ρ) S = W (asgT t d ρ) (Kn (fun _ => bnd b fun f => match f with
    | .next => forD t b ds
    | .cont => forD t b ds
    | .brk => EM.ret .next
    | .ret k d => EM.ret (.ret k d)) S) := W_bnd
/-- a loop by what holds ahead of each turn; a turn may end the loop -/
theorem W_for (I : List D → Env' → Prop) {ds : List D} (h0 : I ds ρ) (hn : ∀ ρ', I [] ρ' → S (.ok .next) ρ')
    (hs : ∀ d rest ρ', I (d :: rest) ρ' → W (asgT t d ρ') (Kn (fun _ => b) fun r ρ2 => match r with
      | .ok .next => I rest ρ2
      | .ok .cont => I rest ρ2
      | .ok .brk => S (.ok .next) ρ2
      | .ok (.ret k d) => S (.ok (.ret k d)) ρ2
      | .error x => S (.error x) ρ2)) : W (forD t b ds ρ) S := by
  induction ds generalizing ρ with
  | nil => rw [W_forNil]; exact hn _ h0
  | cons d ds ih =>
    rw [W_forCons]
    refine W_mono (hs d ds ρ h0) fun r ρ1 q => ?_
    rcases r with x | u
    · exact q
    · have q' : W (b ρ1) _ := q
      show W (bnd b _ ρ1) S
      rw [W_bnd]
      refine W_mono q' fun r ρ2 q => ?_
      rcases r with x | f
      · exact q
      · cases f with
        | next => exact ih q
        | cont => exact ih q
        | brk => rw [Kn_ok, W_ret]; exact q
        | ret k d => rw [Kn_ok, W_ret]; exact q
end
/-! ### comprehensions -/
section
variable {ρ : Env'} {L : Except Exn (List D) → Env' → Prop} {vs : List Nat} {t : Tg} {c : EM Bool} {m : EM D}
theorem W_lcM {src : EM (List D)} : W (lcM vs t src c m ρ) L = W (src ρ) (Kn (fun ds => if ds.length ≤ 16777216 then inBlk vs (compD vs t c m ds) else stuck) L) := W_bnd
theorem W_compD (I : List D → List D → Env' → Prop) {ds : List D} {acc : List D} (h0 : I ds acc ρ)
    (hs : ∀ d rest acc ρ', I (d :: rest) acc ρ' → W (compT t c m d (clr vs ρ')) fun r ρ2 => ∃ o, r = .ok o ∧ I rest (acc ++ o.toList) ρ2) : W (compD vs t c m ds ρ) fun r ρ' => ∃ ys, r = .ok ys ∧ I [] (acc ++ ys) ρ' := by
  induction ds generalizing ρ acc with
  | nil =>
    show W (EM.ret [] ρ) _
    rw [W_ret]
    exact ⟨[], rfl, by rw [List.append_nil]; exact h0⟩
  | cons d ds ih =>
    show W (bnd (clrM vs) _ ρ) _
    rw [W_bnd]
    show W (some (.ok (), clr vs ρ)) _
    rw [W_some, Kn_ok, W_bnd]
    obtain ⟨r, ρ2, e, o, rfl, q⟩ := hs d ds acc ρ h0
    refine ⟨.ok o, ρ2, by unfold noX; rw [e], ?_⟩
    show W (bnd (compD vs t c m ds) _ ρ2) _
    rw [W_bnd]
    refine W_mono (ih q) fun r ρ3 z => ?_
    obtain ⟨ys, rfl, z⟩ := z
    rw [Kn_ok, W_ret]
    exact ⟨_, rfl, by rw [← List.append_assoc]; exact z⟩
/-- a comprehension by what holds ahead of each turn -/
theorem W_lc (I : List D → List D → Env' → Prop) {ds : List D} (h0 : I ds [] ρ)
    (hs : ∀ d rest acc ρ', I (d :: rest) acc ρ' → W (compT t c m d (clr vs ρ')) fun r ρ2 => ∃ o, r = .ok o ∧ I rest (acc ++ o.toList) ρ2) (hq : ∀ ys ρ', I [] ys ρ' → L (.ok ys) (rst ρ vs ρ')) : W (inBlk vs (compD vs t c m ds) ρ) L := by
  obtain ⟨r, ρ', e, ys, rfl, z⟩ := W_compD I h0 hs
  rw [List.nil_append] at z
  exact ⟨_, _, by unfold inBlk; rw [e], hq _ _ z⟩
theorem W_compT {d : D} {P : Except Exn (Option D) → Env' → Prop} : W (compT t c m d ρ) P = W (asgT t d ρ) (Kn (fun _ => bnd c fun b => if b = true then bnd m fun y => EM.ret (some y) else EM.ret none) P) := W_bnd
theorem W_yes {P : Except Exn Bool → Env' → Prop} : W (yes ρ) P = P (.ok true) ρ := W_some
theorem clr_nil : clr [] ρ = ρ := rfl
theorem clr_cons {i : Nat} {vs : List Nat} : clr (i :: vs) ρ = (clr vs ρ).set i .un := rfl
theorem rst_nil {ρ0 : Env'} : rst ρ0 [] ρ = ρ := rfl
theorem rst_cons {ρ0 : Env'} {i : Nat} {vs : List Nat} : rst ρ0 (i :: vs) ρ = (rst ρ0 vs ρ).set i (slot ρ0 i) := rfl
end
end NH

/-! NhPlain2: the operations on known values. -/
namespace NH
open PySem Spec PyProof.Rows L2
open EM
section
variable {a b : Int} {x y : Str} {ds es : List D} {d e : D} {k : Bool} {n : Nat}
theorem idx_l : idxD (.list ds) (.int a) = atD ds a := rfl
theorem idx_t : idxD (.tuple ds) (.int a) = atD ds a := rfl
theorem ixN_nat {j : Nat} (h : j < n) : ixN n (j : Int) = some j := by
  unfold ixN
  rw [if_pos (by omega), if_pos (by omega)]
  simp
theorem atD_nat : atD ds (n : Int) = ds[n]? := by
  unfold atD
  by_cases h : n < ds.length
  · rw [ixN_nat h]; rfl
  · have : ixN ds.length (n : Int) = none := by
      unfold ixN
      rw [if_pos (by omega), if_neg (by omega)]
    rw [this, List.getElem?_eq_none (by omega)]; rfl
theorem atD_lit : atD ds (no_index (OfNat.ofNat n : Int)) = ds[n]? := atD_nat
theorem atD_zero : atD ds 0 = ds[0]? := atD_nat (n := 0)
theorem atD_one : atD ds 1 = ds[1]? := atD_nat (n := 1)
theorem ixN_lit {m : Nat} : ixN m (no_index (OfNat.ofNat n : Int)) = if n < m then some n else none := by
  by_cases h : n < m
  · rw [if_pos h]; exact ixN_nat h
  · rw [if_neg h]
    unfold ixN
    have e : (OfNat.ofNat n : Int) = (n : Int) := rfl
    rw [e, if_pos (by omega), if_neg (by omega)]
theorem ixN_zero (h : 0 < n) : ixN n 0 = some 0 := ixN_nat h
theorem ixN_one (h : 1 < n) : ixN n 1 = some 1 := ixN_nat h
theorem add_ii : addD (.int a) (.int b) = some (.int (a + b)) := rfl
theorem add_ll : addD (.list ds) (.list es) = if ds.length + es.length ≤ 16777216 then some (.list (ds ++ es)) else none := rfl
theorem add_tt : addD (.tuple ds) (.tuple es) = if ds.length + es.length ≤ 16777216 ∧ StrT (ds ++ es) = false then some (.tuple (ds ++ es)) else none := rfl
theorem sub_ii : subD (.int a) (.int b) = some (.int (a - b)) := rfl
theorem mul_ii : mulD (.int a) (.int b) = if (-(2 ^ 64) < a ∧ a < 2 ^ 64) ∨ (-(2 ^ 64) < b ∧ b < 2 ^ 64) then some (.int (a * b)) else none := rfl
theorem mul_li : mulD (.list ds) (.int b) = if -(2 ^ 63) ≤ b ∧ b < 2 ^ 63 ∧ ds.length * b.toNat ≤ 16777216 then some (.list (rep b ds)) else none := rfl
theorem mul_ti : mulD (.tuple ds) (.int b) = if -(2 ^ 62) ≤ b ∧ b < 2 ^ 62 ∧ ds.length * b.toNat ≤ 16777216 ∧ StrT (rep b ds) = false then some (.tuple (rep b ds)) else none := rfl
theorem fdiv_ii : fdivD (.int a) (.int b) = if b ≠ 0 ∧ b.natAbs < 1073741824 then some (.int (a.fdiv b)) else none := rfl
theorem mod_ii : modD (.int a) (.int b) = if b ≠ 0 then some (.int (a.fmod b)) else none := rfl
theorem pow_ii : powD (.int a) (.int b) = if 0 ≤ b ∧ b ≤ 1000000 ∧ a.natAbs < 2 ^ 64 then some (.int (a ^ b.toNat)) else none := rfl
theorem pow_1018 : powD (.int 10) (.int 18) = some (.int 1000000000000000000) := by
  show (if (0 : Int) ≤ 18 ∧ (18 : Int) ≤ 1000000 ∧ (10 : Int).natAbs < 2 ^ 64 then _ else none) = _
  rw [if_pos (by decide)]
  rfl
theorem lt_ii : ltD (.int a) (.int b) = some (.bool (decide (a < b))) := rfl
theorem le_ii : leD (.int a) (.int b) = some (.bool (decide (a ≤ b))) := rfl
theorem gt_ii : gtD (.int a) (.int b) = some (.bool (decide (b < a))) := rfl
theorem ge_ii : geD (.int a) (.int b) = some (.bool (decide (b ≤ a))) := rfl
theorem eqv_ii : PyData.eqv (.int a) (.int b) = decide (a = b) := by
  show (a == b) = _
  exact Bool.eq_iff_iff.mpr (by simp)
theorem sh_int : SeqAt.shaped (.int a) = true := rfl
theorem eq_ii : eqD' (.int a) (.int b) = some (.bool (decide (a = b))) := by
  show eqD0 (.int a) (.int b) = _
  unfold eqD0
  rw [if_pos ⟨sh_int, sh_int⟩, eqv_ii]
theorem eq_ss : eqD' (.str x) (.str y) = some (.bool (decide (x = y))) := rfl
theorem ne_ii : neD (.int a) (.int b) = some (.bool (!decide (a = b))) := by
  unfold neD
  rw [if_pos ⟨sh_int, sh_int⟩, eqv_ii]
theorem isN : isD d .none = some (.bool (isNoneB d)) := rfl
theorem isNotN : isNotD d .none = some (.bool (!isNoneB d)) := rfl
theorem isn_none : isNoneB .none = true := rfl
theorem isn_int : isNoneB (.int a) = false := rfl
theorem isn_str : isNoneB (.str x) = false := rfl
theorem intT_i : intT (.int a) = some (.int a) := rfl
theorem intT_b : intT (.bool k) = some (.int (if k then 1 else 0)) := rfl
theorem len_l : lenD (.list ds) = some (.int (ds.length : Nat)) := rfl
theorem len_t : lenD (.tuple ds) = some (.int (ds.length : Nat)) := rfl
theorem abs_i : absD (.int a) = some (.int (if a < 0 then -a else a)) := rfl
theorem tup_l : tupD (.list ds) = some (.tuple ds) := rfl
theorem tup_t : tupD (.tuple ds) = some (.tuple ds) := rfl
theorem items_l : itemsD (.list ds) = some ds := rfl
theorem items_t : itemsD (.tuple ds) = some ds := rfl
theorem lst_l : lstD (.list ds) = some ds := rfl
theorem listF_l : listF (.list ds) = some ds := rfl
theorem listF_t : listF (.tuple ds) = some ds := rfl
theorem intD_i : intD (.int a) = some a := rfl
theorem fitI_nat (h : n < 2 ^ 63) : fitI (n : Int) = some n := by
  unfold fitI
  rw [if_pos (by omega)]
  simp
theorem slice_l {lo hi : Option Int} : sliceD (.list ds) lo hi = some (.list (cutD ds lo hi)) := rfl
theorem slice_t {lo hi : Option Int} : sliceD (.tuple ds) lo hi = some (.tuple (cutD ds lo hi)) := rfl
theorem addI_ii : addI (.int a) (.int b) = some (.int (a + b)) := rfl
theorem subI_ii : subI (.int a) (.int b) = some (.int (a - b)) := rfl
theorem neg_i : negD (.int a) = some (.int (-a)) := rfl
theorem max2_ii : max2D (.int a) (.int b) = some (.int (if b > a then b else a)) := rfl
theorem min2_ii : min2D (.int a) (.int b) = some (.int (if b < a then b else a)) := rfl
theorem tru_l : truD (.list ds) = some (!ds.isEmpty) := rfl
theorem tru_t : truD (.tuple ds) = some (!ds.isEmpty) := rfl
theorem tru_i : truD (.int a) = some (a != 0) := rfl
theorem oW_opt {α : Type} {o : Option α} {P : α → Prop} {a : α} (h : o = some a) : oW o P = P a := by rw [h, oW_some]
end
/-! ### further steps -/
def roW (s : Sl) (P : List D → Prop) : Prop := match s with
  | .ro _ (.list ds) => P ds
  | _ => False
theorem roW_ro {t : Nat} {ds : List D} {P : List D → Prop} : roW (.ro t (.list ds)) P = P ds := rfl
theorem W_eRo {i : Nat} {n : Int} {ρ : Env'} {Q : Except Exn D → Env' → Prop} : W (eRo i n ρ) Q = roW (slot ρ i) fun ds => Q (.ok (.list (cutD ds none (some n)))) ρ := by
  unfold eRo
  split
  · rename_i h
    rw [h, W_some]; rfl
  · rename_i h
    rw [W_none]
    unfold roW
    split
    · rename_i h2; exact absurd h2 (h _ _)
    · rfl
/-- what heard makes of an outcome -/
def Hk (told : Str) (tags : List Tag) (Q : Except Exn D → Env' → Prop) : Except Exn D → Env' → Prop
  | .ok d, ρ => Q (.ok (.tuple [.str told, d])) ρ
  | .error x, ρ => oW (tagOf tags x) fun d => Q (.ok d) ρ
theorem W_heard {told : Str} {tags : List Tag} {m : EM D} {ρ : Env'} {Q : Except Exn D → Env' → Prop} : W (heardM told tags m ρ) Q = W (m ρ) (Hk told tags Q) := by
  unfold heardM
  cases m ρ with
  | none => rw [W_none, W_none]
  | some p =>
    obtain ⟨r, ρ'⟩ := p
    rw [W_some]
    cases r with
    | ok d => exact W_some
    | error x =>
      show W ((tagOf tags x).map fun d => (Except.ok d, ρ')) Q = oW (tagOf tags x) fun d => Q (.ok d) ρ'
      cases tagOf tags x with
      | none => rw [oW_none]; exact W_none
      | some d => rw [oW_some]; exact W_some
theorem Hk_ok {told : Str} {tags : List Tag} {d : D} {ρ : Env'} {Q : Except Exn D → Env' → Prop} : Hk told tags Q (.ok d) ρ = Q (.ok (.tuple [.str told, d])) ρ := rfl
theorem Hk_err {told : Str} {tags : List Tag} {x : Exn} {ρ : Env'} {Q : Except Exn D → Env' → Prop} : Hk told tags Q (.error x) ρ = oW (tagOf tags x) fun d => Q (.ok d) ρ := rfl
theorem rst_of_clr {ρ ρ' : Env'} {vs : List Nat} (h : clr vs ρ' = clr vs ρ) : rst ρ vs ρ' = ρ := by
  have hl : ρ.length = ρ'.length := by
    have := congrArg List.length h
    rw [clr_length, clr_length] at this
    exact this.symm
  refine List.ext_getElem? fun j => ?_
  by_cases hj : j < ρ.length
  · have e : slot (rst ρ vs ρ') j = slot ρ j := by
      rw [slot_rst ρ ρ' hl]
      split
      · rfl
      · rename_i hn
        have q : slot (clr vs ρ') j = slot (clr vs ρ) j := by rw [h]
        rw [slot_clr, slot_clr, if_neg hn, if_neg hn] at q
        exact q
    have l1 : j < (rst ρ vs ρ').length := by rw [rst_length, ← hl]; exact hj
    unfold slot at e
    rw [List.getD_eq_getElem?_getD, List.getD_eq_getElem?_getD, List.getElem?_eq_getElem l1, List.getElem?_eq_getElem hj] at e
    rw [List.getElem?_eq_getElem l1, List.getElem?_eq_getElem hj]
    exact congrArg some e
  · rw [List.getElem?_eq_none (by rw [rst_length]; omega), List.getElem?_eq_none (by omega)]
/-- a comprehension that leaves the slots alone -/
theorem W_lc_fm {ρ : Env'} {L : Except Exn (List D) → Env' → Prop} {vs : List Nat} {t : Tg} {c : EM Bool} {m : EM D} {ds : List D} (f : D → Option D)
    (hf : ∀ d ∈ ds, W (compT t c m d (clr vs ρ)) fun r ρ2 => r = .ok (f d) ∧ clr vs ρ2 = clr vs ρ) (hq : L (.ok (ds.filterMap f)) ρ) : W (inBlk vs (compD vs t c m ds) ρ) L := by
  refine W_lc (fun rest acc ρ' => clr vs ρ' = clr vs ρ ∧ (∀ d ∈ rest, d ∈ ds) ∧ acc ++ rest.filterMap f = ds.filterMap f) ⟨rfl, fun _ h => h, rfl⟩ (fun d rest acc ρ' h => ?_) fun ys ρ' h => ?_
  · rw [h.1]
    refine W_mono (hf d (h.2.1 d List.mem_cons_self)) fun r ρ2 z => ⟨f d, z.1, z.2, fun e he => h.2.1 e (List.mem_cons_of_mem _ he), ?_⟩
    rw [← h.2.2]
    cases hd : f d with
    | none => rw [List.filterMap_cons_none hd]; simp
    | some y => rw [List.filterMap_cons_some hd]; simp
  · rw [rst_of_clr h.1]
    have e : ys = ds.filterMap f := by simpa using h.2.2
    rw [e]; exact hq
theorem W_lc_map {ρ : Env'} {L : Except Exn (List D) → Env' → Prop} {vs : List Nat} {t : Tg} {c : EM Bool} {m : EM D} {ds : List D} (f : D → D)
    (hf : ∀ d ∈ ds, W (compT t c m d (clr vs ρ)) fun r ρ2 => r = .ok (some (f d)) ∧ clr vs ρ2 = clr vs ρ) (hq : L (.ok (ds.map f)) ρ) : W (inBlk vs (compD vs t c m ds) ρ) L := by
  refine W_lc_fm (fun d => some (f d)) hf ?_
  rw [show ds.filterMap (fun d => some (f d)) = ds.map f from congrFun List.filterMap_eq_map ds]
  exact hq
theorem ite_F {c P : Prop} [Decidable c] : (if c then P else False) = (c ∧ P) := by
  by_cases h : c <;> simp [h]
theorem repF_l {ds : List D} {k : Int} : repF (.list ds) (.int k) = if -(2 ^ 63) ≤ k ∧ k < 2 ^ 63 ∧ ds.length * k.toNat ≤ 16777216 then some (rep k ds) else none := rfl
theorem catF_l {ds es : List D} : catF (.list ds) (.list es) = if ds.length + es.length ≤ 16777216 then some (ds ++ es) else none := rfl
theorem rep_one {d : D} {n : Nat} : rep (n : Int) [d] = List.replicate n d := by
  unfold rep
  rw [Int.toNat_natCast]
  induction n with
  | zero => rfl
  | succ n ih => rw [List.replicate_succ, List.flatten_cons, ih, List.replicate_succ]; rfl
theorem mem_rep {k : Int} {ds : List D} {d : D} (h : d ∈ rep k ds) : d ∈ ds := by
  unfold rep at h
  obtain ⟨l, hl, hd⟩ := List.mem_flatten.mp h
  rw [(List.mem_replicate.mp hl).2] at hd
  exact hd
theorem rep_length {k : Int} {ds : List D} : (rep k ds).length = k.toNat * ds.length := by
  unfold rep
  rw [List.length_flatten]
  simp
/-- a slot whose value is known, perhaps one's own -/
def Fz (s : Sl) (d : D) : Prop := s = .fz d ∨ s = .ow 1 d
theorem Fz.fz {d : D} : Fz (.fz d) d := .inl rfl
theorem Fz.ow {d : D} : Fz (.ow 1 d) d := .inr rfl
theorem set_slot {ρ : Env'} {i : Nat} {s : Sl} (h : slot ρ i = s) (hs : s ≠ .un) : ρ.set i s = ρ := by
  have hl : i < ρ.length := slot_lt (by rw [h]; exact hs)
  refine List.ext_getElem? fun j => ?_
  by_cases e : i = j
  · subst e
    rw [List.getElem?_set_self hl, List.getElem?_eq_getElem hl]
    unfold slot at h
    rw [List.getD_eq_getElem?_getD, List.getElem?_eq_getElem hl] at h
    rw [← h]; rfl
  · rw [List.getElem?_set_ne e]
theorem nmW_Fz {s : Sl} {d : D} {i : Nat} {ρ : Env'} {Q : Except Exn D → Env' → Prop} (h : Fz s d) (hr : slot ρ i = s) : nmW s i ρ Q = Q (.ok d) (ρ.set i (.fz d)) := by
  rcases h with rfl | rfl
  · rw [nmW_fz, set_slot hr (by intro z; cases z)]
  · rfl
theorem bnW_Fz {s : Sl} {d : D} {ρ : Env'} {Q : Except Exn D → Env' → Prop} (h : Fz s d) : bnW s ρ Q = Q (.ok d) ρ := by
  rcases h with rfl | rfl <;> rfl
theorem chkW_Fz {s : Sl} {d : D} {P : Prop} (h : Fz s d) : chkW s P = P := by
  rcases h with rfl | rfl <;> rfl
/-- a slot that may be stored to -/
def Lo (s : Sl) : Prop := s = .un ∨ (∃ d, s = .fz d) ∨ ∃ k d, s = .ow k d
theorem Lo.un : Lo .un := .inl rfl
theorem Lo.fz {d : D} : Lo (.fz d) := .inr (.inl ⟨d, rfl⟩)
theorem Lo.ow {k : Nat} {d : D} : Lo (.ow k d) := .inr (.inr ⟨k, d, rfl⟩)
theorem Fz.lo {s : Sl} {d : D} (h : Fz s d) : Lo s := by
  rcases h with rfl | rfl
  · exact .fz
  · exact .ow
theorem setW_Lo {s : Sl} {P : Prop} (h : Lo s) : setW s P = P := by
  rcases h with rfl | ⟨d, rfl⟩ | ⟨k, d, rfl⟩ <;> rfl
/-- a loop by its turn's number -/
theorem W_forI {ρ : Env'} {S : Except Exn Fl → Env' → Prop} {t : Tg} {b : EM Fl} (I : Nat → Env' → Prop) {ds : List D} (h0 : I 0 ρ) (hn : ∀ ρ', I ds.length ρ' → S (.ok .next) ρ')
    (hs : ∀ i d ρ', ds[i]? = some d → I i ρ' → W (asgT t d ρ') (Kn (fun _ => b) fun r ρ2 => match r with
      | .ok .next => I (i + 1) ρ2
      | .ok .cont => I (i + 1) ρ2
      | .ok .brk => S (.ok .next) ρ2
      | .ok (.ret k d) => S (.ok (.ret k d)) ρ2
      | .error x => S (.error x) ρ2)) : W (forD t b ds ρ) S := by
  refine W_for (fun rest ρ' => ∃ i, rest = ds.drop i ∧ i ≤ ds.length ∧ I i ρ') ⟨0, rfl, by omega, h0⟩ (fun ρ' h => ?_) fun d rest ρ' h => ?_
  · obtain ⟨i, e, hl, hi⟩ := h
    have : i = ds.length := by
      have := congrArg List.length e
      rw [List.length_drop] at this
      simp at this
      omega
    subst this
    exact hn _ hi
  · obtain ⟨i, e, hl, hi⟩ := h
    have lt : i < ds.length := by
      have := congrArg List.length e
      rw [List.length_drop] at this
      simp at this
      omega
    have e2 := e
    rw [List.drop_eq_getElem_cons lt] at e2
    obtain ⟨e3, e4⟩ := List.cons.inj e2
    have hd : ds[i]? = some d := by rw [List.getElem?_eq_getElem lt, e3]
    refine W_mono (hs i d ρ' hd hi) fun r ρ1 q => ?_
    rcases r with x | u
    · exact q
    · have q' : W (b ρ1) _ := q
      refine W_mono q' fun r ρ2 q => ?_
      rcases r with x | f
      · exact q
      · cases f with
        | next => exact ⟨i + 1, e4, lt, q⟩
        | cont => exact ⟨i + 1, e4, lt, q⟩
        | brk => exact q
        | ret k d => exact q
theorem rangeL_length {lo : Int} {n : Nat} : (rangeL lo n).length = n := by simp [rangeL]
theorem rangeL_at {lo : Int} {n i : Nat} {d : D} (h : (rangeL lo n)[i]? = some d) : i < n ∧ d = .int (lo + i) := by
  unfold rangeL at h
  rw [List.getElem?_map, Option.map_eq_some_iff] at h
  obtain ⟨j, hj, rfl⟩ := h
  obtain ⟨h1, h2⟩ := List.getElem?_eq_some_iff.mp hj
  rw [List.getElem_range] at h2
  subst h2
  exact ⟨by simpa using h1, rfl⟩
/-- for i in range(n) -/
theorem W_forR {ρ : Env'} {S : Except Exn Fl → Env' → Prop} {t : Tg} {b : EM Fl} (I : Nat → Env' → Prop) {n : Nat} (h0 : I 0 ρ) (hn : ∀ ρ', I n ρ' → S (.ok .next) ρ')
    (hs : ∀ (i : Nat) ρ', i < n → I i ρ' → W (asgT t (.int i) ρ') (Kn (fun _ => b) fun r ρ2 => match r with
      | .ok .next => I (i + 1) ρ2
      | .ok .cont => I (i + 1) ρ2
      | .ok .brk => S (.ok .next) ρ2
      | .ok (.ret k d) => S (.ok (.ret k d)) ρ2
      | .error x => S (.error x) ρ2)) : W (forD t b (rangeL 0 n) ρ) S := by
  refine W_forI I h0 (by rw [rangeL_length]; exact hn) fun i d ρ' hd hi => ?_
  obtain ⟨h1, rfl⟩ := rangeL_at hd
  rw [Int.zero_add]
  exact hs i ρ' h1 hi
theorem W_asg_lo {ρ : Env'} {i : Nat} {d : D} {P : Except Exn Unit → Env' → Prop} (h : Lo (slot ρ i)) (hl : i < ρ.length) (k : P (.ok ()) (ρ.set i (.fz d))) : W (asgT (.nm i) d ρ) P := by
  rw [W_asgN, W_setSl, setW_Lo h]
  exact ⟨hl, k⟩
theorem W_nm_fz {ρ : Env'} {i : Nat} {s : Sl} {d : D} {Q : Except Exn D → Env' → Prop} (h : Fz s d) (hr : slot ρ i = s) (k : Q (.ok d) (ρ.set i (.fz d))) : nmW s i ρ Q := by
  rw [nmW_Fz h hr]; exact k
/-! ### comprehensions of two sources -/
theorem W_compD2 {ρ : Env'} {vs vs1 : List Nat} {t t1 : Tg} {c c1 : EM Bool} {src1 : EM (List D)} {m : EM D} (I : List D → List D → Env' → Prop) {ds acc : List D} (h0 : I ds acc ρ)
    (hs : ∀ d rest acc ρ', I (d :: rest) acc ρ' → W (asgT t d (clr vs ρ')) (Kn (fun _ => bnd c fun b => if b = true then bnd src1 fun ds1 => compD vs1 t1 c1 m ds1 else EM.ret []) fun r ρ2 => ∃ o, r = .ok o ∧ I rest (acc ++ o) ρ2)) :
    W (compD2 vs t c src1 vs1 t1 c1 m ds ρ) fun r ρ' => ∃ ys, r = .ok ys ∧ I [] (acc ++ ys) ρ' := by
  induction ds generalizing ρ acc with
  | nil =>
    show W (EM.ret [] ρ) _
    rw [W_ret]
    exact ⟨[], rfl, by rw [List.append_nil]; exact h0⟩
  | cons d ds ih =>
    show W (bnd (clrM vs) _ ρ) _
    rw [W_bnd]
    show W (some (.ok (), clr vs ρ)) _
    rw [W_some, Kn_ok, W_bnd]
    have q0 := hs d ds acc ρ h0
    rw [← W_bnd] at q0
    obtain ⟨r, ρ2, e, o, rfl, q⟩ := q0
    refine ⟨.ok o, ρ2, by unfold noX; rw [e], ?_⟩
    rw [Kn_ok, W_bnd]
    refine W_mono (ih q) fun r ρ3 z => ?_
    obtain ⟨ys, rfl, z⟩ := z
    rw [Kn_ok, W_ret]
    exact ⟨_, rfl, by rw [← List.append_assoc]; exact z⟩
theorem W_lcM2 {ρ : Env'} {vs vs1 : List Nat} {t t1 : Tg} {c c1 : EM Bool} {src src1 : EM (List D)} {m : EM D} {L : Except Exn (List D) → Env' → Prop} :
    W (lcM2 vs t src c vs1 t1 src1 c1 m ρ) L = W (src ρ) (Kn (fun ds => bnd (inBlk vs (compD2 vs t c src1 vs1 t1 c1 m ds)) fun ys => if ys.length ≤ 16777216 then EM.ret ys else stuck) L) := W_bnd
theorem W_lc2 {ρ : Env'} {vs vs1 : List Nat} {t t1 : Tg} {c c1 : EM Bool} {src1 : EM (List D)} {m : EM D} {L : Except Exn (List D) → Env' → Prop} (I : List D → List D → Env' → Prop) {ds : List D} (h0 : I ds [] ρ)
    (hs : ∀ d rest acc ρ', I (d :: rest) acc ρ' → W (asgT t d (clr vs ρ')) (Kn (fun _ => bnd c fun b => if b = true then bnd src1 fun ds1 => compD vs1 t1 c1 m ds1 else EM.ret []) fun r ρ2 => ∃ o, r = .ok o ∧ I rest (acc ++ o) ρ2))
    (hq : ∀ ys ρ', I [] ys ρ' → L (.ok ys) (rst ρ vs ρ')) : W (inBlk vs (compD2 vs t c src1 vs1 t1 c1 m ds) ρ) L := by
  obtain ⟨r, ρ', e, ys, rfl, z⟩ := W_compD2 I h0 hs
  rw [List.nil_append] at z
  exact ⟨_, _, by unfold inBlk; rw [e], hq _ _ z⟩
/-- the inner one of two, that leaves the other slots alone -/
theorem W_compD_fm {ρ : Env'} {vs : List Nat} {t : Tg} {c : EM Bool} {m : EM D} {ds : List D} (f : D → Option D) (hf : ∀ d ∈ ds, W (compT t c m d (clr vs ρ)) fun r ρ2 => r = .ok (f d) ∧ clr vs ρ2 = clr vs ρ) :
    W (compD vs t c m ds ρ) fun r ρ' => r = .ok (ds.filterMap f) ∧ clr vs ρ' = clr vs ρ := by
  refine W_mono (W_compD (acc := []) (fun rest acc ρ' => clr vs ρ' = clr vs ρ ∧ (∀ d ∈ rest, d ∈ ds) ∧ acc ++ rest.filterMap f = ds.filterMap f) ⟨rfl, fun _ h => h, rfl⟩ fun d rest acc ρ' h => ?_) fun r ρ' h => ?_
  · rw [h.1]
    refine W_mono (hf d (h.2.1 d List.mem_cons_self)) fun r ρ2 z => ⟨f d, z.1, z.2, fun e he => h.2.1 e (List.mem_cons_of_mem _ he), ?_⟩
    rw [← h.2.2]
    cases hd : f d with
    | none => rw [List.filterMap_cons_none hd]; simp
    | some y => rw [List.filterMap_cons_some hd]; simp
  · obtain ⟨ys, rfl, h1, _, h3⟩ := h
    refine ⟨?_, h1⟩
    have : ys = ds.filterMap f := by simpa using h3
    rw [this]
def seqW (s : Sl) (P : Prop) : Prop := match s with
  | .fz (.list _) => P
  | .ow _ (.list _) => P
  | .rf _ _ (.list _) => P
  | _ => False
theorem seqW_fz {ds : List D} {P : Prop} : seqW (.fz (.list ds)) P = P := rfl
theorem seqW_ow {k : Nat} {ds : List D} {P : Prop} : seqW (.ow k (.list ds)) P = P := rfl
theorem seqW_rf {t k : Nat} {ds : List D} {P : Prop} : seqW (.rf t k (.list ds)) P = P := rfl
theorem W_isSeqL {i : Nat} {ρ : Env'} {R : Except Exn Unit → Env' → Prop} : W (isSeqL i ρ) R = seqW (slot ρ i) (R (.ok ()) ρ) := by
  unfold isSeqL
  split
  · rename_i h; rw [h, W_some]; rfl
  · rename_i h; rw [h, W_some]; rfl
  · rename_i h; rw [h, W_some]; rfl
  · rename_i h1 h2 h3
    rw [W_none]
    unfold seqW
    split
    · rename_i h; exact absurd h (h1 _)
    · rename_i h; exact absurd h (h2 _ _)
    · rename_i h; exact absurd h (h3 _ _ _)
    · rfl
theorem W_asg2 {ρ : Env'} {i j : Nat} {a b : D} {P : Except Exn Unit → Env' → Prop} (hi : Lo (slot ρ i)) (hj : Lo (slot ρ j)) (hij : i ≠ j) (li : i < ρ.length) (lj : j < ρ.length)
    (k : P (.ok ()) ((ρ.set i (.fz a)).set j (.fz b))) : W (asgT (.tp [.nm i, .nm j]) (.tuple [a, b]) ρ) P := by
  rw [W_asgT, if_pos (show [a, b].length = [Tg.nm i, Tg.nm j].length from rfl), W_asgsCons]
  refine W_asg_lo hi li ?_
  rw [Kn_ok, W_asgsCons]
  refine W_asg_lo ?_ (by rw [List.length_set]; exact lj) ?_
  · rw [slot_set, if_neg (fun z => hij z.1)]; exact hj
  · rw [Kn_ok, W_asgsNil]; exact k
/-- a comprehension over things that are told from plain ones -/
theorem W_lc_of {β : Type} {ρ : Env'} {L : Except Exn (List D) → Env' → Prop} {vs : List Nat} {t : Tg} {c : EM Bool} {m : EM D} (xs : List β) (g : β → D) (f : β → D)
    (hf : ∀ x ∈ xs, W (compT t c m (g x) (clr vs ρ)) fun r ρ2 => r = .ok (some (f x)) ∧ clr vs ρ2 = clr vs ρ) (hq : L (.ok (xs.map f)) ρ) : W (inBlk vs (compD vs t c m (xs.map g)) ρ) L := by
  refine W_lc (fun rest acc ρ' => ∃ q, clr vs ρ' = clr vs ρ ∧ rest = q.map g ∧ (∀ x ∈ q, x ∈ xs) ∧ acc ++ q.map f = xs.map f) ⟨xs, rfl, rfl, fun _ h => h, rfl⟩ (fun d rest acc ρ' h => ?_) fun ys ρ' h => ?_
  · obtain ⟨q, h1, h2, h3, h4⟩ := h
    cases q with
    | nil => cases h2
    | cons x q =>
      obtain ⟨rfl, rfl⟩ := List.cons.inj h2
      rw [h1]
      refine W_mono (hf x (h3 x List.mem_cons_self)) fun r ρ2 z => ⟨some (f x), z.1, q, z.2, rfl, fun e he => h3 e (List.mem_cons_of_mem _ he), ?_⟩
      rw [← h4]
      simp
  · obtain ⟨q, h1, h2, h3, h4⟩ := h
    have hq0 : q = [] := List.map_eq_nil_iff.mp h2.symm
    subst hq0
    rw [rst_of_clr h1]
    have e : ys = xs.map f := by simpa using h4
    rw [e]; exact hq
/-! ### a list of lambdas -/
theorem W_sActs {i t : Nat} {m : EM Fl} {ρ : Env'} {S : Except Exn Fl → Env' → Prop} (h1 : isUn (slot ρ i) = true) (h2 : noTag t ρ = true) (h3 : i < ρ.length)
    (h : W (m (ρ.set i (.kn t))) fun r ρ' => isKnS t (slot ρ' i) = true ∧ noTag t (ρ'.set i .un) = true ∧ S r (ρ'.set i .un)) : W (sActs i t m ρ) S := by
  obtain ⟨r, ρ', e, q1, q2, q3⟩ := h
  refine ⟨r, ρ'.set i .un, ?_, q3⟩
  unfold sActs
  rw [if_pos ⟨h1, h2, h3⟩, e]
  show (if _ then _ else _) = _
  rw [if_pos ⟨q1, q2⟩]
theorem W_seqNil {told : Str} {tags : List Tag} {ρ : Env'} {L : Except Exn (List D) → Env' → Prop} : W (seqH told tags [] ρ) L = L (.ok []) ρ := W_some
theorem W_seqCons {told : Str} {tags : List Tag} {m : EM D} {ms : List (EM D)} {ρ : Env'} {L : Except Exn (List D) → Env' → Prop} : W (seqH told tags (m :: ms) ρ) L = W (heardM told tags m ρ) (Kn (fun d => bnd (seqH told tags ms) fun ds => EM.ret (d :: ds)) L) := W_bnd
def knW (t : Nat) (s : Sl) (P : Prop) : Prop := match s with
  | .kn u => u = t ∧ P
  | _ => False
theorem knW_kn {t u : Nat} {P : Prop} : knW t (.kn u) P = (u = t ∧ P) := rfl
theorem W_eActs {i t : Nat} {told : Str} {tags : List Tag} {ms : List (EM D)} {ρ : Env'} {L : Except Exn (List D) → Env' → Prop} : W (eActs i t told tags ms ρ) L = knW t (slot ρ i) (W (seqH told tags ms ρ) L) := by
  unfold eActs isKn
  rw [W_bnd]
  cases hs : slot ρ i with
  | kn u =>
    rw [knW_kn]
    by_cases e : u = t
    · subst e
      simp [isKnS, W_some, Kn_ok]
    · have : ¬ isKnS t (.kn u) = true := by simpa [isKnS] using e
      rw [if_neg this, W_none]
      simp [e]
  | _ => rw [if_neg (by intro z; cases z), W_none]; rfl
theorem noTag_nil {t : Nat} : noTag t [] = true := rfl
theorem noTag_cons {t : Nat} {s : Sl} {ρ : Env'} : noTag t (s :: ρ) = (!tagged t s && noTag t ρ) := rfl
theorem tg_un {t : Nat} : tagged t .un = false := rfl
theorem tg_fz {t : Nat} {d : D} : tagged t (.fz d) = false := rfl
theorem tg_ow {t k : Nat} {d : D} : tagged t (.ow k d) = false := rfl
theorem tg_rf {t u k : Nat} {d : D} : tagged t (.rf u k d) = (u == t) := rfl
theorem tg_ro {t u : Nat} {d : D} : tagged t (.ro u d) = (u == t) := rfl
theorem tg_kn {t u : Nat} : tagged t (.kn u) = (u == t) := rfl
theorem tg_lo {t : Nat} {s : Sl} (h : Lo s) : tagged t s = false := by
  rcases h with rfl | ⟨d, rfl⟩ | ⟨k, d, rfl⟩ <;> rfl
theorem kn_kn {t : Nat} : isKnS t (.kn t) = true := by simp [isKnS]
end NH

/-! NhPlain3: how large a tree is: may it be compared, may its text be told. -/
namespace NH
open PySem Spec PyProof.Rows L2
open EM
/-- no dict, its texts written as they should be, not deep -/
structure Ly (n : Nat) (d : D) : Prop where
  lay : d.canLay0 = true
  dp : d.depth ≤ n
/-- dicts empty, not deep, its text not long -/
structure Sz (n L : Nat) (d : D) : Prop where
  ed : eDict d = true
  sh : d.showable = true
  dp : d.depth ≤ n
  ln : d.shown.length ≤ L
section
variable {n m L M : Nat} {d e : D} {ds es : List D}
theorem Ly.up (h : Ly n d) (i : n ≤ m) : Ly m d := ⟨h.lay, Nat.le_trans h.dp i⟩
theorem Ly.none : Ly 0 PyData.none := ⟨rfl, Nat.le_refl _⟩
theorem Ly.bool {b : Bool} : Ly 0 (.bool b) := ⟨rfl, Nat.le_refl _⟩
theorem Ly.int {i : Int} : Ly 0 (.int i) := ⟨rfl, Nat.le_refl _⟩
theorem Ly.str {x : Str} (h : PyData.strOk x = true) : Ly 0 (.str x) := ⟨h, Nat.le_refl _⟩
theorem lay_all : ∀ {ds : List D}, (∀ d ∈ ds, Ly n d) → PyData.canLayAll0 ds = true ∧ PyData.depthAll ds ≤ n
  | [], _ => ⟨rfl, Nat.zero_le _⟩
  | d :: ds, h => by
    obtain ⟨h1, h2⟩ := lay_all (ds := ds) fun e he => h e (List.mem_cons_of_mem _ he)
    have q := h d List.mem_cons_self
    refine ⟨?_, ?_⟩
    · show (d.canLay0 && PyData.canLayAll0 ds) = true
      rw [q.lay, h1]; rfl
    · show max d.depth (PyData.depthAll ds) ≤ n
      exact Nat.max_le.mpr ⟨q.dp, h2⟩
theorem Ly.lst (h : ∀ d ∈ ds, Ly n d) : Ly (n + 1) (.list ds) := ⟨(lay_all h).1, Nat.succ_le_succ (lay_all h).2⟩
theorem Ly.tup (h : ∀ d ∈ ds, Ly n d) : Ly (n + 1) (.tuple ds) := ⟨(lay_all h).1, Nat.succ_le_succ (lay_all h).2⟩
theorem Ly.shaped (h : Ly n d) (i : n ≤ 64) : SeqAt.shaped d = true := by
  unfold SeqAt.shaped
  rw [h.lay, decide_eq_true (Nat.le_trans h.dp i)]; rfl
theorem Ly.intsT {xs : List Int} : Ly 1 (.tuple (xs.map PyData.int)) := Ly.tup fun d hd => by
  obtain ⟨x, _, rfl⟩ := List.mem_map.mp hd
  exact .int
theorem Ly.intsL {xs : List Int} : Ly 1 (.list (xs.map PyData.int)) := Ly.lst fun d hd => by
  obtain ⟨x, _, rfl⟩ := List.mem_map.mp hd
  exact .int
theorem Sz.up (h : Sz n L d) (i : n ≤ m) (j : L ≤ M) : Sz m M d := ⟨h.ed, h.sh, Nat.le_trans h.dp i, Nat.le_trans h.ln j⟩
theorem Sz.none : Sz 0 4 PyData.none := ⟨rfl, rfl, Nat.le_refl _, by decide⟩
theorem Sz.bool {b : Bool} : Sz 0 5 (.bool b) := ⟨rfl, rfl, Nat.le_refl _, by cases b <;> decide⟩
theorem Sz.dict : Sz 1 2 (.dict []) := ⟨rfl, rfl, by decide, by decide +kernel⟩
theorem Sz.int {i : Int} {k : Nat} (hk : 0 < k) (hk2 : k ≤ 20) (h : i.natAbs < 10 ^ k) : Sz 0 (k + 1) (.int i) := by
  refine ⟨rfl, ?_, Nat.le_refl _, ?_⟩
  · show decide (i.natAbs.log2 < 1920) = true
    refine decide_eq_true ?_
    by_cases h0 : i.natAbs = 0
    · rw [h0]; decide
    · refine (Nat.log2_lt h0).mpr (Nat.lt_of_lt_of_le h ?_)
      have h1 : (10 : Nat) ^ k ≤ 10 ^ 20 := Nat.pow_le_pow_right (by decide) hk2
      have h2 : (10 : Nat) ^ 20 ≤ 2 ^ 70 := by decide
      have h3 : (2 : Nat) ^ 70 ≤ 2 ^ 1920 := Nat.pow_le_pow_right (by decide) (by decide)
      exact Nat.le_trans h1 (Nat.le_trans h2 h3)
  · show (Str.ofString (toString i)).length ≤ k + 1
    have := int_text_length_le10 hk h
    rw [PySem.ofString_length]
    exact this
theorem Sz.str {x : Str} (h : (PyData.str x).shown.length ≤ L) : Sz 0 L (.str x) := ⟨rfl, rfl, Nat.le_refl _, h⟩
theorem sz_all : ∀ {ds : List D}, (∀ d ∈ ds, Sz n L d) → eDictL ds = true ∧ PyData.showableAll ds = true ∧ PyData.depthAll ds ≤ n ∧ piled (PyData.shownAll ds) ≤ ds.length * (L + 2) ∧ (PyData.shownAll ds).length = ds.length
  | [], _ => ⟨rfl, rfl, Nat.zero_le _, by simp [PyData.shownAll, piled], rfl⟩
  | d :: ds, h => by
    obtain ⟨h1, h2, h3, h4, h5⟩ := sz_all (ds := ds) fun e he => h e (List.mem_cons_of_mem _ he)
    have q := h d List.mem_cons_self
    refine ⟨?_, ?_, ?_, ?_, ?_⟩
    · show (eDict d && eDictL ds) = true
      rw [q.ed, h1]; rfl
    · show (d.showable && PyData.showableAll ds) = true
      rw [q.sh, h2]; rfl
    · show max d.depth (PyData.depthAll ds) ≤ n
      exact Nat.max_le.mpr ⟨q.dp, h3⟩
    · show piled (d.shown :: PyData.shownAll ds) ≤ _
      rw [piled_cons, List.length_cons, Nat.succ_mul]
      have := q.ln
      omega
    · show (d.shown :: PyData.shownAll ds).length = _
      rw [List.length_cons, h5]; rfl
theorem textFrom_le : ∀ (ts : List Str) (k : Nat) (acc : Str), (textFrom k acc ts).length ≤ acc.length + piled ts
  | [], k, acc => by show acc.length ≤ _; omega
  | t :: r, k, acc => by
    show (textFrom (k + 1) _ r).length ≤ _
    have := textFrom_le r (k + 1) (acc ++ (if k > 0 then ", " else "" : String) ++ t)
    have e : (acc ++ (if k > 0 then ", " else "" : String) ++ t).length = acc.length + (if k > 0 then 2 else 0) + t.length := by
      rw [strLen_append, strLen_append]
      split <;> rfl
    have h2 : (if k > 0 then 2 else 0) ≤ 2 := by split <;> omega
    rw [e] at this
    rw [piled_cons]
    omega
theorem Sz.lst (h : ∀ d ∈ ds, Sz n L d) : Sz (n + 1) (ds.length * (L + 2) + 3) (.list ds) := by
  obtain ⟨h1, h2, h3, h4, h5⟩ := sz_all h
  refine ⟨h1, h2, Nat.succ_le_succ h3, ?_⟩
  show (listText (PyData.shownAll ds)).length ≤ _
  unfold listText
  rw [strLen_append]
  have := textFrom_le (PyData.shownAll ds) 0 "["
  have e1 : ((("[" : String) : Str)).length = 1 := rfl
  have e2 : ((("]" : String) : Str)).length = 1 := rfl
  rw [e1] at this
  rw [e2]
  omega
theorem Sz.tup (h : ∀ d ∈ ds, Sz n L d) : Sz (n + 1) (ds.length * (L + 2) + 3) (.tuple ds) := by
  obtain ⟨h1, h2, h3, h4, h5⟩ := sz_all h
  refine ⟨h1, h2, Nat.succ_le_succ h3, ?_⟩
  show (tupleText (PyData.shownAll ds)).length ≤ _
  unfold tupleText
  rw [strLen_append, strLen_append]
  have e1 : ((("(" : String) : Str)).length = 1 := rfl
  have e3 : (((if (PyData.shownAll ds).length == 1 then ",)" else ")" : String) : Str)).length ≤ 2 := by split <;> decide
  rw [e1]
  by_cases hn : PyData.shownAll ds = []
  · rw [hn]
    have : (Str.join ", " ([] : List Str)).length = 0 := rfl
    rw [hn] at e3
    omega
  · have := join_length_add _ hn
    omega
theorem Sz.lst' (h : ∀ d ∈ ds, Sz n L d) (hd : ds.length ≤ m) (hM : m * (L + 2) + 3 ≤ M) : Sz (n + 1) M (.list ds) :=
  (Sz.lst h).up (Nat.le_refl _) (Nat.le_trans (Nat.add_le_add_right (Nat.mul_le_mul_right _ hd) 3) hM)
theorem Sz.tup' (h : ∀ d ∈ ds, Sz n L d) (hd : ds.length ≤ m) (hM : m * (L + 2) + 3 ≤ M) : Sz (n + 1) M (.tuple ds) :=
  (Sz.tup h).up (Nat.le_refl _) (Nat.le_trans (Nat.add_le_add_right (Nat.mul_le_mul_right _ hd) 3) hM)
mutual
theorem eqv_self : ∀ d : D, d.canLay0 = true → PyData.eqv d d = true
  | .none, _ => by rw [PyData.eqv]
  | .bool b, _ => by rw [PyData.eqv]; simp
  | .int i, _ => by rw [PyData.eqv]; simp
  | .str x, _ => by rw [PyData.eqv]; simp
  | .list xs, h => by rw [PyData.eqv]; exact eqvA_self xs h
  | .tuple xs, h => by rw [PyData.eqv]; exact eqvA_self xs h
  | .dict kvs, h => by cases h
theorem eqvA_self : ∀ ds : List D, PyData.canLayAll0 ds = true → PyData.eqvAll ds ds = true
  | [], _ => by rw [PyData.eqvAll]
  | d :: ds, h => by
    have h' : d.canLay0 = true ∧ PyData.canLayAll0 ds = true := by
      have : (d.canLay0 && PyData.canLayAll0 ds) = true := h
      simpa using this
    rw [PyData.eqvAll, eqv_self d h'.1, eqvA_self ds h'.2]; rfl
end
def isSeq : D → Bool
  | .list _ => true
  | .tuple _ => true
  | _ => false
theorem eq_same (hs : isSeq d = true) (h : Sz n L d) (hn : n ≤ 60) : eqD' d d = some (.bool true) := by
  have q : eqD0 d d = some (.bool true) := by
    unfold eqD0
    split
    · rename_i c
      rw [eqv_self d (SeqAt.canLay_of_shaped c.1)]
    · have c : sameD d d = true ∧ eDict d = true ∧ d.depth ≤ 60 := ⟨sameD_self d h.ed, h.ed, Nat.le_trans h.dp hn⟩
      cases d with
      | list ds => exact if_pos c
      | tuple ds => exact if_pos c
      | _ => cases hs
  cases d with
  | list ds => exact q
  | tuple ds => exact q
  | _ => cases hs
theorem repr_same (hs : isSeq d = true) (h : Sz (n + 1) L d) (hn : n ≤ 60) (hL : L ≤ 16777216) : reprD d = some (.str d.shown) := by
  have dp : ∀ ds, (d = .list ds ∨ d = .tuple ds) → PyData.depthAll ds ≤ 60 := fun ds e => by
    have := h.dp
    rcases e with rfl | rfl
    · exact Nat.le_trans (Nat.le_of_succ_le_succ (show PyData.depthAll ds + 1 ≤ n + 1 from this)) hn
    · exact Nat.le_trans (Nat.le_of_succ_le_succ (show PyData.depthAll ds + 1 ≤ n + 1 from this)) hn
  cases d with
  | list ds => exact if_pos ⟨h.sh, h.ed, dp ds (.inl rfl), Nat.le_trans h.ln hL⟩
  | tuple ds => exact if_pos ⟨h.sh, h.ed, dp ds (.inr rfl), Nat.le_trans h.ln hL⟩
  | _ => cases hs
end
theorem eqvA_nil : ∀ ds : List D, PyData.eqvAll ds [] = ds.isEmpty
  | [] => by rw [PyData.eqvAll]; rfl
  | _ :: _ => by rw [PyData.eqvAll]; rfl
theorem ne_lnil {n : Nat} {ds : List D} (h : ∀ d ∈ ds, Ly n d) (hn : n < 64) : neD (.list ds) (.list []) = some (.bool (!ds.isEmpty)) := by
  unfold neD
  rw [if_pos ⟨(Ly.lst h).shaped hn, rfl⟩, PyData.eqv, eqvA_nil]
end NH

namespace NH
open PySem Spec PyProof.Rows L2
open EM
def told : Str := "told"
def tags : List Tag := [("TooMany", "most", "many"), ("NoName", "name", "no name")]
def top (i : Nat) : Stmt := PySem.Challenge.pw_neverheaps_k84_promises_as_senders.main.body.getD i (.Pass ⟨0, 0, 0, 0⟩)
/-! ### place_in -/
-- slots: 0:names 1:name
def b_place_in : EM Fl :=
  (sSeq (sIf (tOrM (tNotM (tVal (bnd (nm 1) fun d => EM.opt (isStrM d)))) (tVal (bin (.sl 1) (.sl 0) notInD))) (sRaise "NoName" "name" (nm 1)) sNext) (sRet (gE (bnd (nm 0) fun d => bnd (EM.opt (nmsT d)) fun _ => bnd (nm 1) fun f => EM.opt (indexTD d f)))))
def F_place_in : Fn := guardF (fnOf 2 0 b_place_in)
theorem sc_place_in : FnScope ["names", "name"] ["names", "name"] (defScope (top 5)) := ⟨rfl, rfl, rfl, by decide +kernel, rfl, by decide +kernel, by decide +kernel⟩
theorem df_place_in {P : Program} {w : World} {K : PySem.W.Frag} {mg : Str → Option Value} {base : Heap} {T : List (Addr × Str)} {f : Addr} {fd : FuncData} (F : Fun K "place_in" "place_in" (top 5) f fd) (gm : mg "place_in" = some (.ref f)) (bi : Binds K fd ["names", "name"] []) 
    (z_isinstance : mg "isinstance" = none) (z_str : mg "str" = none) {C_NoName : Addr} (T_NoName : ErrC P w K mg base "NoName" "name" C_NoName) : Df P w K mg base T false "place_in" 3 2 F_place_in :=
  df_of (k := 2) F sc_place_in gm bi rfl rfl fun cdv A outer s H E B W hB hr gk tk => by
    have sc_nd := sc_place_in.nd
    exact (sb_cons (ss_if (pt_w (sw_or (st_not (st_val (se_isStr rfl z_isinstance rfl z_str (se_nm (pv 1))))) (sw_or1 (st_cmp (op_notInA (room65 hr)) od_notIn (so_sl (pv 1)) (so_sl (pv 0)))))) (sb_one (ss_raise T_NoName rfl (hr.mono (by decide)) tk rfl (se_nm (pv 1)))) sb_nil) (sb_one (ss_ret (sg_e (se_indexT (se_nm (pv 0)) (se_nm (pv 1)))))))

/-! ### kind_place -/
-- slots: 0:works 1:name
def b_kind_place : EM Fl :=
  (sRet (callM F_place_in [.val (bin (.sl 0) (.ex (lit (.int 0))) idxD), .val (nm 1)]))
def F_kind_place : Fn := guardF (fnOf 2 0 b_kind_place)
theorem sc_kind_place : FnScope ["works", "name"] ["works", "name"] (defScope (top 6)) := ⟨rfl, rfl, rfl, by decide +kernel, rfl, by decide +kernel, by decide +kernel⟩
theorem df_kind_place {P : Program} {w : World} {K : PySem.W.Frag} {mg : Str → Option Value} {base : Heap} {T : List (Addr × Str)} {f : Addr} {fd : FuncData} (F : Fun K "kind_place" "kind_place" (top 6) f fd) (gm : mg "kind_place" = some (.ref f)) (bi : Binds K fd ["works", "name"] []) 
    (D_place_in : Df P w K mg base T false "place_in" 3 2 F_place_in) : Df P w K mg base T false "kind_place" 4 2 F_kind_place :=
  df_of (k := 3) F sc_kind_place gm bi rfl rfl fun cdv A outer s H E B W hB hr gk tk => by
    have sc_nd := sc_kind_place.nd
    exact (sb_one (ss_ret (sg_call (D_place_in.to hB) (hr.mono (by decide)) (GOk.off _) rfl tk (ra_val (se_idx ix_seq od_idx (so_sl (pv 0)) (so_ex se_int)) (ra_val (se_nm (pv 1)) ra_nil)) rfl (by decide))))

/-! ### hand_place -/
-- slots: 0:works 1:name
def b_hand_place : EM Fl :=
  (sRet (callM F_place_in [.val (bin (.sl 0) (.ex (lit (.int 1))) idxD), .val (nm 1)]))
def F_hand_place : Fn := guardF (fnOf 2 0 b_hand_place)
theorem sc_hand_place : FnScope ["works", "name"] ["works", "name"] (defScope (top 7)) := ⟨rfl, rfl, rfl, by decide +kernel, rfl, by decide +kernel, by decide +kernel⟩
theorem df_hand_place {P : Program} {w : World} {K : PySem.W.Frag} {mg : Str → Option Value} {base : Heap} {T : List (Addr × Str)} {f : Addr} {fd : FuncData} (F : Fun K "hand_place" "hand_place" (top 7) f fd) (gm : mg "hand_place" = some (.ref f)) (bi : Binds K fd ["works", "name"] []) 
    (D_place_in : Df P w K mg base T false "place_in" 3 2 F_place_in) : Df P w K mg base T false "hand_place" 4 2 F_hand_place :=
  df_of (k := 3) F sc_hand_place gm bi rfl rfl fun cdv A outer s H E B W hB hr gk tk => by
    have sc_nd := sc_hand_place.nd
    exact (sb_one (ss_ret (sg_call (D_place_in.to hB) (hr.mono (by decide)) (GOk.off _) rfl tk (ra_val (se_idx ix_seq od_idx (so_sl (pv 0)) (so_ex se_int)) (ra_val (se_nm (pv 1)) ra_nil)) rfl (by decide))))

/-! ### histories -/
-- slots: 0:size 1:top 2:most 3:found 4:turn 5:row 6:item
def b_histories : EM Fl :=
  (sSeq (sSet 3 (gF (bnd (aCons (eTupW aNil) aNil) fun ds => if ds.length ≤ 16777216 then EM.ret ds else EM.stuck))) (sSeq (sFor (.nm 4) (rng1 (nm 0)) (sSeq (sSet 3 (gF (lcM2 [5, 6] (.nm 5) (iSrc (nm 3)) yes [6] (.nm 6) (rng1 (bin (.sl 1) (.ex (lit (.int 1))) addD)) (tVal (bin (.ex (bin (.ex (un1 (.sl 5) sumD)) (.sl 6) addD)) (.sl 2) leD)) (eTupW (aStar (nm 5) (aCons (nm 6) aNil)))))) (sIf (tVal (bin (.ex (un1 (.sl 3) lenD)) (.ex (lit (.int 200))) gtD)) (sRaise "TooMany" "most" (lit (.int 200))) sNext))) (sRet (gE (nm 3)))))
def F_histories : Fn := guardF (fnOf 3 4 b_histories)
theorem sc_histories : FnScope ["size", "top", "most", "found", "turn", "row", "item"] ["size", "top", "most"] (defScope (top 10)) := ⟨rfl, rfl, rfl, by decide +kernel, rfl, by decide +kernel, by decide +kernel⟩
theorem df_histories {P : Program} {w : World} {K : PySem.W.Frag} {mg : Str → Option Value} {base : Heap} {T : List (Addr × Str)} {f : Addr} {fd : FuncData} (F : Fun K "histories" "histories" (top 10) f fd) (gm : mg "histories" = some (.ref f)) (bi : Binds K fd ["size", "top", "most"] []) 
    (z_range : mg "range" = none) (z_sum : mg "sum" = none) (z_len : mg "len" = none) {t_MOST_HISTORIES : Tok} (g_MOST_HISTORIES : mg "MOST_HISTORIES" = some (.int 200 t_MOST_HISTORIES)) {C_TooMany : Addr} (T_TooMany : ErrC P w K mg base "TooMany" "most" C_TooMany) : Df P w K mg base T false "histories" 3 3 F_histories :=
  df_of (k := 2) F sc_histories gm bi rfl rfl fun cdv A outer s H E B W hB hr gk tk => by
    have sc_nd := sc_histories.nd
    exact (sb_cons (ss_set (fun te h => ps_set (i := 3) sc_nd rfl (by first | exact Or.inl rfl | exact Or.inr rfl) h) (sg_f (sf_lst (sa_cons (se_tupW sa_nil) sa_nil)))) (sb_cons (ss_for (passes_of rfl) rfl (si_range1 rfl z_range (se_nm (pv 0))) (st_nm (pg_name (i := 4) sc_nd rfl (by first | exact Or.inl rfl | exact Or.inr rfl))) (sb_cons (ss_setLc2 (i := 3) (own := [("row", 5), ("item", 6)]) (vs1 := [6]) rfl sc_nd rfl rfl (by rfl) (si_seq (se_nm (pv 3))) (blkOk_by (by rfl)) (by decide) (fun s H C cl fp => (st_nm (pg_name (i := 5) sc_nd rfl (by first | exact Or.inl rfl | exact Or.inr rfl)))) (fun s H C cl fp => sc_nil) (fun s H C cl fp => (si_range1 rfl z_range (se_bin op_add4 od_add (so_sl (pv 1)) (so_ex se_int)))) (fun s H C cl fp => (st_nm (pg_name (i := 6) sc_nd rfl (by first | exact Or.inl rfl | exact Or.inr rfl)))) (fun s H C cl fp => (sc_one (st_cmp op_le od_le (so_ex (se_bin op_add4 od_add (so_ex (se_sum rfl rfl z_sum (so_sl (pv 5)))) (so_sl (pv 6)))) (so_sl (pv 2))))) (fun s H C cl fp => (se_tupW (sa_star (se_nm (pv 5)) (sa_cons (se_nm (pv 6)) sa_nil)))) (by decide) (by decide)) (sb_one (ss_if (st_cmp op_gt od_gt (so_ex (se_len rfl z_len (so_sl (pv 3)))) (so_ex (se_globI rfl g_MOST_HISTORIES))) (sb_one (ss_raise T_TooMany rfl (hr.mono (by decide)) tk rfl (se_globI rfl g_MOST_HISTORIES))) sb_nil)))) (sb_one (ss_ret (sg_e (se_nm (pv 3)))))))

/-! ### unit -/
-- slots: 0:row 1:place 2:many 3:index
def b_unit : EM Fl :=
  (sRet (gE (un1 (.ex (eF (lcM [3] (.nm 3) (rng1 (un1 (.sl 0) lenD)) yes (ifE (tVal (bin (.sl 3) (.sl 1) eqD')) (nm 2) (lit (.int 0)))))) tupD)))
def F_unit : Fn := guardF (fnOf 3 1 b_unit)
theorem sc_unit : FnScope ["row", "place", "many", "index"] ["row", "place", "many"] (defScope (top 11)) := ⟨rfl, rfl, rfl, by decide +kernel, rfl, by decide +kernel, by decide +kernel⟩
theorem df_unit {P : Program} {w : World} {K : PySem.W.Frag} {mg : Str → Option Value} {base : Heap} {T : List (Addr × Str)} {f : Addr} {fd : FuncData} (F : Fun K "unit" "unit" (top 11) f fd) (gm : mg "unit" = some (.ref f)) (bi : Binds K fd ["row", "place", "many"] []) 
    (z_tuple : mg "tuple" = none) (z_range : mg "range" = none) (z_len : mg "len" = none) : Df P w K mg base T false "unit" 1 3 F_unit :=
  df_of (k := 0) F sc_unit gm bi rfl rfl fun cdv A outer s H E B W hB hr gk tk => by
    have sc_nd := sc_unit.nd
    exact (sb_one (ss_ret (sg_e (se_tupc rfl z_tuple (so_ex (se_f (sf_lc (own := [("index", 3)]) rfl sc_nd (si_range1 rfl z_range (se_len rfl z_len (so_sl (pv 0)))) (blkOk_by (by rfl)) (fun s H C cl fp => (st_nm (pg_name (i := 3) sc_nd rfl (by first | exact Or.inl rfl | exact Or.inr rfl)))) (fun s H C cl fp => sc_nil) (fun s H C cl fp => (se_if (st_cmp (op_eqW (room64 hr)) od_eqW (so_sl (pv 3)) (so_sl (pv 1))) (se_nm (pv 2)) se_int)) (by decide))))))))

/-! ### behind -/
-- slots: 0:history 1:item 2:row
def b_behind : EM Fl :=
  (sSeq (sSet 2 (gE (eTupW (aStar (nm 0) (aCons (nm 1) aNil))))) (sRet (gE (eSl (.sl 2) (some (lit (.int 1))) none))))
def F_behind : Fn := guardF (fnOf 2 1 b_behind)
theorem sc_behind : FnScope ["history", "item", "row"] ["history", "item"] (defScope (top 12)) := ⟨rfl, rfl, rfl, by decide +kernel, rfl, by decide +kernel, by decide +kernel⟩
theorem df_behind {P : Program} {w : World} {K : PySem.W.Frag} {mg : Str → Option Value} {base : Heap} {T : List (Addr × Str)} {f : Addr} {fd : FuncData} (F : Fun K "behind" "behind" (top 12) f fd) (gm : mg "behind" = some (.ref f)) (bi : Binds K fd ["history", "item"] []) 
     : Df P w K mg base T false "behind" 1 2 F_behind :=
  df_of (k := 0) F sc_behind gm bi rfl rfl fun cdv A outer s H E B W hB hr gk tk => by
    have sc_nd := sc_behind.nd
    exact (sb_cons (ss_set (fun te h => ps_set (i := 2) sc_nd rfl (by first | exact Or.inl rfl | exact Or.inr rfl) h) (sg_e (se_tupW (sa_star (se_nm (pv 0)) (sa_cons (se_nm (pv 1)) sa_nil))))) (sb_one (ss_ret (sg_e (se_slice (so_sl (pv 2)) (sp_some se_int) sp_none)))))

/-! ### at_most_broken -/
-- slots: 0:works 1:name 2:broken 3:window 4:place 5:every 6:nothing 7:arrows 8:source 9:history 10:item 11:crew
def b_at_most_broken : EM Fl :=
  (sSeq (sSet 4 (callM F_hand_place [.val (nm 0), .val (nm 1)])) (sSeq (sPar [5, 6] [(callM F_histories [.val (bin (.sl 3) (.ex (lit (.int 1))) subD), .val (lit (.int 1)), .val (nm 2)]), (gE (bin (.ex (eTupW (aCons (lit (.int 0)) aNil))) (.ex (un1 (.ex (bin (.sl 0) (.ex (lit (.int 0))) idxD)) lenD)) mulD))]) (sSeq (sSet 7 (gF (bnd aNil fun ds => if ds.length ≤ 16777216 then EM.ret ds else EM.stuck))) (sSeq (sFor (.tp [(.nm 8), (.nm 9)]) (eEnum (nm 5)) (sFor (.nm 10) (rng1 (bin (.ex (lit (.int 1))) (.ex (un1 (.ex (bin (.ex (un1 (.sl 9) sumD)) (.sl 2) ltD)) intT)) addD)) (sSeq (sSet 11 (callM F_unit [.val (bin (.sl 0) (.ex (lit (.int 1))) idxD), .val (nm 4), .val (bin (.ex (lit (.int 1))) (.sl 10) subD)])) (sExpr (eApp 7 (eTupW (aCons (nm 8) (aCons (bnd (isSeqL 5) fun _ => bnd (frz (callM F_behind [.val (nm 9), .val (nm 10)])) fun f => bnd (bn 5) fun d => EM.opt (indexLD d f)) (aCons (nm 6) (aCons (nm 11) aNil)))))))))) (sRet (gE (eTupW (aCons (un1 (.sl 5) lenD) (aCons (un1 (.sl 7) tupD) aNil)))))))))
def F_at_most_broken : Fn := guardF (fnOf 4 8 b_at_most_broken)
theorem sc_at_most_broken : FnScope ["works", "name", "broken", "window", "place", "every", "nothing", "arrows", "source", "history", "item", "crew"] ["works", "name", "broken", "window"] (defScope (top 13)) := ⟨rfl, rfl, rfl, by decide +kernel, rfl, by decide +kernel, by decide +kernel⟩
theorem df_at_most_broken {P : Program} {w : World} {K : PySem.W.Frag} {mg : Str → Option Value} {base : Heap} {T : List (Addr × Str)} {f : Addr} {fd : FuncData} (F : Fun K "at_most_broken" "at_most_broken" (top 13) f fd) (gm : mg "at_most_broken" = some (.ref f)) (bi : Binds K fd ["works", "name", "broken", "window"] []) 
    (D_hand_place : Df P w K mg base T false "hand_place" 4 2 F_hand_place) (D_histories : Df P w K mg base T false "histories" 3 3 F_histories) (z_len : mg "len" = none) (z_enumerate : mg "enumerate" = none) (z_range : mg "range" = none) (z_int : mg "int" = none) (z_sum : mg "sum" = none) (D_unit : Df P w K mg base T false "unit" 1 3 F_unit) (D_behind : Df P w K mg base T false "behind" 1 2 F_behind) (z_tuple : mg "tuple" = none) : Df P w K mg base T false "at_most_broken" 5 4 F_at_most_broken :=
  df_of (k := 4) F sc_at_most_broken gm bi rfl rfl fun cdv A outer s H E B W hB hr gk tk => by
    have sc_nd := sc_at_most_broken.nd
    exact (sb_cons (ss_set (fun te h => ps_set (i := 4) sc_nd rfl (by first | exact Or.inl rfl | exact Or.inr rfl) h) (sg_call (D_hand_place.to hB) (hr.mono (by decide)) (GOk.off _) rfl tk (ra_val (se_nm (pv 0)) (ra_val (se_nm (pv 1)) ra_nil)) rfl (by decide))) (sb_cons (ss_par2 (fun ta h => ps_par (i := 5) (j := 6) rfl sc_nd rfl rfl (by decide) rfl rfl h (by rfl)) (sg_call (D_histories.to hB) (hr.mono (by decide)) (GOk.off _) rfl tk (ra_val (se_bin op_sub od_sub (so_sl (pv 3)) (so_ex se_int)) (ra_val se_int (ra_val (se_nm (pv 2)) ra_nil))) rfl (by decide)) (sg_e (se_bin op_mul3 od_mul (so_ex (se_tupW (sa_cons se_int sa_nil))) (so_ex (se_len rfl z_len (so_ex (se_idx ix_seq od_idx (so_sl (pv 0)) (so_ex se_int)))))))) (sb_cons (ss_set (fun te h => ps_set (i := 7) sc_nd rfl (by first | exact Or.inl rfl | exact Or.inr rfl) h) (sg_f (sf_lst sa_nil))) (sb_cons (ss_for (passes_of rfl) rfl (si_enum rfl z_enumerate (se_nm (pv 5))) (st_tup rfl (st_cons (st_nm (pg_name (i := 8) sc_nd rfl (by first | exact Or.inl rfl | exact Or.inr rfl))) (st_cons (st_nm (pg_name (i := 9) sc_nd rfl (by first | exact Or.inl rfl | exact Or.inr rfl))) st_nil))) (sb_one (ss_for (passes_of rfl) rfl (si_range1 rfl z_range (se_bin op_add4 od_add (so_ex se_int) (so_ex (se_intc rfl z_int (so_ex (se_cmp op_lt od_lt (so_ex (se_sum rfl rfl z_sum (so_sl (pv 9)))) (so_sl (pv 2)))))))) (st_nm (pg_name (i := 10) sc_nd rfl (by first | exact Or.inl rfl | exact Or.inr rfl))) (sb_cons (ss_set (fun te h => ps_set (i := 11) sc_nd rfl (by first | exact Or.inl rfl | exact Or.inr rfl) h) (sg_call (D_unit.to hB) (hr.mono (by decide)) (GOk.off _) rfl tk (ra_val (se_idx ix_seq od_idx (so_sl (pv 0)) (so_ex se_int)) (ra_val (se_nm (pv 4)) (ra_val (se_bin op_sub od_sub (so_ex se_int) (so_sl (pv 10))) ra_nil))) rfl (by decide))) (sb_one (ss_expr (se_app (pv 7) (se_tupW (sa_cons (se_nm (pv 8)) (sa_cons (se_indexL (room65 hr) (pv 5) (se_frz (sg_call (D_behind.to hB) (hr.mono (by decide)) (GOk.off _) rfl tk (ra_val (se_nm (pv 9)) (ra_val (se_nm (pv 10)) ra_nil)) rfl (by decide)))) (sa_cons (se_nm (pv 6)) (sa_cons (se_nm (pv 11)) sa_nil)))))))))))) (sb_one (ss_ret (sg_e (se_tupW (sa_cons (se_len rfl z_len (so_sl (pv 5))) (sa_cons (se_tupc rfl z_tuple (so_sl (pv 7))) sa_nil))))))))))

/-! ### at_most_come -/
-- slots: 0:works 1:name 2:many 3:window 4:place 5:every 6:nobody 7:arrows 8:source 9:history 10:item 11:amounts
def b_at_most_come : EM Fl :=
  (sSeq (sSet 4 (callM F_kind_place [.val (nm 0), .val (nm 1)])) (sSeq (sPar [5, 6] [(callM F_histories [.val (bin (.sl 3) (.ex (lit (.int 1))) subD), .val (nm 2), .val (nm 2)]), (gE (bin (.ex (eTupW (aCons (lit (.int 0)) aNil))) (.ex (un1 (.ex (bin (.sl 0) (.ex (lit (.int 1))) idxD)) lenD)) mulD))]) (sSeq (sSet 7 (gF (bnd aNil fun ds => if ds.length ≤ 16777216 then EM.ret ds else EM.stuck))) (sSeq (sFor (.tp [(.nm 8), (.nm 9)]) (eEnum (nm 5)) (sFor (.nm 10) (rng1 (bin (.ex (bin (.sl 2) (.ex (un1 (.sl 9) sumD)) subD)) (.ex (lit (.int 1))) addD)) (sSeq (sSet 11 (callM F_unit [.val (bin (.sl 0) (.ex (lit (.int 0))) idxD), .val (nm 4), .val (nm 10)])) (sExpr (eApp 7 (eTupW (aCons (nm 8) (aCons (bnd (isSeqL 5) fun _ => bnd (frz (callM F_behind [.val (nm 9), .val (nm 10)])) fun f => bnd (bn 5) fun d => EM.opt (indexLD d f)) (aCons (nm 11) (aCons (nm 6) aNil)))))))))) (sRet (gE (eTupW (aCons (un1 (.sl 5) lenD) (aCons (un1 (.sl 7) tupD) aNil)))))))))
def F_at_most_come : Fn := guardF (fnOf 4 8 b_at_most_come)
theorem sc_at_most_come : FnScope ["works", "name", "many", "window", "place", "every", "nobody", "arrows", "source", "history", "item", "amounts"] ["works", "name", "many", "window"] (defScope (top 14)) := ⟨rfl, rfl, rfl, by decide +kernel, rfl, by decide +kernel, by decide +kernel⟩
theorem df_at_most_come {P : Program} {w : World} {K : PySem.W.Frag} {mg : Str → Option Value} {base : Heap} {T : List (Addr × Str)} {f : Addr} {fd : FuncData} (F : Fun K "at_most_come" "at_most_come" (top 14) f fd) (gm : mg "at_most_come" = some (.ref f)) (bi : Binds K fd ["works", "name", "many", "window"] []) 
    (D_kind_place : Df P w K mg base T false "kind_place" 4 2 F_kind_place) (D_histories : Df P w K mg base T false "histories" 3 3 F_histories) (z_len : mg "len" = none) (z_enumerate : mg "enumerate" = none) (z_range : mg "range" = none) (z_sum : mg "sum" = none) (D_unit : Df P w K mg base T false "unit" 1 3 F_unit) (D_behind : Df P w K mg base T false "behind" 1 2 F_behind) (z_tuple : mg "tuple" = none) : Df P w K mg base T false "at_most_come" 5 4 F_at_most_come :=
  df_of (k := 4) F sc_at_most_come gm bi rfl rfl fun cdv A outer s H E B W hB hr gk tk => by
    have sc_nd := sc_at_most_come.nd
    exact (sb_cons (ss_set (fun te h => ps_set (i := 4) sc_nd rfl (by first | exact Or.inl rfl | exact Or.inr rfl) h) (sg_call (D_kind_place.to hB) (hr.mono (by decide)) (GOk.off _) rfl tk (ra_val (se_nm (pv 0)) (ra_val (se_nm (pv 1)) ra_nil)) rfl (by decide))) (sb_cons (ss_par2 (fun ta h => ps_par (i := 5) (j := 6) rfl sc_nd rfl rfl (by decide) rfl rfl h (by rfl)) (sg_call (D_histories.to hB) (hr.mono (by decide)) (GOk.off _) rfl tk (ra_val (se_bin op_sub od_sub (so_sl (pv 3)) (so_ex se_int)) (ra_val (se_nm (pv 2)) (ra_val (se_nm (pv 2)) ra_nil))) rfl (by decide)) (sg_e (se_bin op_mul3 od_mul (so_ex (se_tupW (sa_cons se_int sa_nil))) (so_ex (se_len rfl z_len (so_ex (se_idx ix_seq od_idx (so_sl (pv 0)) (so_ex se_int)))))))) (sb_cons (ss_set (fun te h => ps_set (i := 7) sc_nd rfl (by first | exact Or.inl rfl | exact Or.inr rfl) h) (sg_f (sf_lst sa_nil))) (sb_cons (ss_for (passes_of rfl) rfl (si_enum rfl z_enumerate (se_nm (pv 5))) (st_tup rfl (st_cons (st_nm (pg_name (i := 8) sc_nd rfl (by first | exact Or.inl rfl | exact Or.inr rfl))) (st_cons (st_nm (pg_name (i := 9) sc_nd rfl (by first | exact Or.inl rfl | exact Or.inr rfl))) st_nil))) (sb_one (ss_for (passes_of rfl) rfl (si_range1 rfl z_range (se_bin op_add4 od_add (so_ex (se_bin op_sub od_sub (so_sl (pv 2)) (so_ex (se_sum rfl rfl z_sum (so_sl (pv 9)))))) (so_ex se_int))) (st_nm (pg_name (i := 10) sc_nd rfl (by first | exact Or.inl rfl | exact Or.inr rfl))) (sb_cons (ss_set (fun te h => ps_set (i := 11) sc_nd rfl (by first | exact Or.inl rfl | exact Or.inr rfl) h) (sg_call (D_unit.to hB) (hr.mono (by decide)) (GOk.off _) rfl tk (ra_val (se_idx ix_seq od_idx (so_sl (pv 0)) (so_ex se_int)) (ra_val (se_nm (pv 4)) (ra_val (se_nm (pv 10)) ra_nil))) rfl (by decide))) (sb_one (ss_expr (se_app (pv 7) (se_tupW (sa_cons (se_nm (pv 8)) (sa_cons (se_indexL (room65 hr) (pv 5) (se_frz (sg_call (D_behind.to hB) (hr.mono (by decide)) (GOk.off _) rfl tk (ra_val (se_nm (pv 9)) (ra_val (se_nm (pv 10)) ra_nil)) rfl (by decide)))) (sa_cons (se_nm (pv 11)) (sa_cons (se_nm (pv 6)) sa_nil)))))))))))) (sb_one (ss_ret (sg_e (se_tupW (sa_cons (se_len rfl z_len (so_sl (pv 5))) (sa_cons (se_tupc rfl z_tuple (so_sl (pv 7))) sa_nil))))))))))

/-! ### _law_bag -/
-- slots: 0:_law_script 1:_law_cell
def b_l_bag : EM Fl :=
  (sRet (gF (bnd (aCons (lit (.int 0)) (aCons (lit (.int 1234567891)) (aCons (lit (.int 0)) (aCons (eF (lcM [1] (.nm 1) (iSrc (eRo 0 63)) yes (un1 (.sl 1) absD))) aNil)))) fun ds => if ds.length ≤ 16777216 then EM.ret ds else EM.stuck)))
def F_l_bag : Fn := guardF (fnOf 1 1 b_l_bag)
theorem sc_l_bag : FnScope ["_law_script", "_law_cell"] ["_law_script"] (defScope (top 16)) := ⟨rfl, rfl, rfl, by decide +kernel, rfl, by decide +kernel, by decide +kernel⟩
theorem df_l_bag {P : Program} {w : World} {K : PySem.W.Frag} {mg : Str → Option Value} {base : Heap} {T : List (Addr × Str)} {f : Addr} {fd : FuncData} (F : Fun K "_law_bag" "_law_bag" (top 16) f fd) (gm : mg "_law_bag" = some (.ref f)) (bi : Binds K fd ["_law_script"] []) 
    (z_abs : mg "abs" = none) : Df P w K mg base T false "_law_bag" 1 1 F_l_bag :=
  df_of (k := 0) F sc_l_bag gm bi rfl rfl fun cdv A outer s H E B W hB hr gk tk => by
    have sc_nd := sc_l_bag.nd
    exact (sb_one (ss_ret (sg_f (sf_lst (sa_cons se_int (sa_cons se_int (sa_cons se_int (sa_cons (se_f (sf_lc (own := [("_law_cell", 1)]) rfl sc_nd (si_seq (se_ro (pv 0) se_int)) (blkOk_by (by rfl)) (fun s H C cl fp => (st_nm (pg_name (i := 1) sc_nd rfl (by first | exact Or.inl rfl | exact Or.inr rfl)))) (fun s H C cl fp => sc_nil) (fun s H C cl fp => (se_abs rfl z_abs (so_sl (pv 1)))) (by decide))) sa_nil))))))))

/-! ### _law_take -/
-- slots: 0:_law_bag_here 1:_law_many 2:_law_cell 3:_law_stirred 4:_law_value 5:_law_begin 6:_law_second
def b_l_take : EM Fl :=
  (sSeq (sIf (tVal (bin (.ex (bin (.sl 0) (.ex (lit (.int 0))) idxD)) (.ex (lit (.int 0))) eqD')) (sSeq (sSet 2 (gE (bin (.ex (bin (.ex (eSl (.ex (bin (.sl 0) (.ex (lit (.int 3))) idxD)) (some (bin (.sl 0) (.ex (lit (.int 2))) idxD)) none)) (.ex (eLst (aCons (lit (.int 0)) aNil))) addD)) (.ex (lit (.int 0))) idxD))) (sSeq (sPutOp 0 addI (lit (.int 2)) (lit (.int 1))) (sSeq (sIf (tVal (bin (.sl 2) (.ex (bin (.ex (lit (.int 10))) (.ex (lit (.int 18))) powD)) geD)) (sPut 0 (lit (.int 0)) (nm 2)) sNext) (sSeq (sSet 3 (gE (bin (.ex (bin (.ex (bin (.ex (bin (.sl 0) (.ex (lit (.int 1))) idxD)) (.ex (lit (.int 48271))) mulD)) (.ex (bin (.ex (un1 (.sl 2) intT)) (.ex (lit (.int 2147483647))) modD)) addD)) (.ex (bin (.ex (lit (.int 7919))) (.ex (bin (.sl 0) (.ex (lit (.int 2))) idxD)) mulD)) addD))) (sPut 0 (lit (.int 1)) (bin (.ex (un1 (.sl 3) intT)) (.ex (lit (.int 2147483647))) modD)))))) sNext) (sSeq (sIf (tVal (bin (.ex (bin (.sl 0) (.ex (lit (.int 0))) idxD)) (.ex (lit (.int 0))) gtD)) (sSeq (sSet 4 (gE (bin (.ex (un1 (.ex (bin (.sl 0) (.ex (lit (.int 0))) idxD)) intT)) (.sl 1) modD))) (sSeq (sPut 0 (lit (.int 0)) (bin (.ex (un1 (.ex (bin (.sl 0) (.ex (lit (.int 0))) idxD)) intT)) (.sl 1) fdivD)) (sRet (gE (nm 4))))) sNext) (sSeq (sSet 5 (gE (bin (.ex (un1 (.ex (bin (.ex (bin (.ex (bin (.sl 0) (.ex (lit (.int 1))) idxD)) (.ex (lit (.int 1))) addD)) (.ex (lit (.int 39373))) mulD)) intT)) (.ex (lit (.int 1000000007))) modD))) (sSeq (sSet 6 (gE (bin (.ex (un1 (.ex (bin (.ex (bin (.ex (un1 (.ex (bin (.sl 5) (.sl 5) mulD)) intT)) (.ex (lit (.int 998244353))) modD)) (.ex (lit (.int 30011))) mulD)) intT)) (.ex (lit (.int 998244353))) modD))) (sRet (gE (bin (.ex (un1 (.ex (bin (.sl 6) (.ex (lit (.int 7))) fdivD)) intT)) (.sl 1) modD)))))))
def F_l_take : Fn := guardF (fnOf 2 5 b_l_take)
theorem sc_l_take : FnScope ["_law_bag_here", "_law_many", "_law_cell", "_law_stirred", "_law_value", "_law_begin", "_law_second"] ["_law_bag_here", "_law_many"] (defScope (top 17)) := ⟨rfl, rfl, rfl, by decide +kernel, rfl, by decide +kernel, by decide +kernel⟩
theorem df_l_take {P : Program} {w : World} {K : PySem.W.Frag} {mg : Str → Option Value} {base : Heap} {T : List (Addr × Str)} {f : Addr} {fd : FuncData} (F : Fun K "_law_take" "_law_take" (top 17) f fd) (gm : mg "_law_take" = some (.ref f)) (bi : Binds K fd ["_law_bag_here", "_law_many"] []) 
    (z_int : mg "int" = none) : Df P w K mg base T false "_law_take" 1 2 F_l_take :=
  df_of (k := 0) F sc_l_take gm bi rfl rfl fun cdv A outer s H E B W hB hr gk tk => by
    have sc_nd := sc_l_take.nd
    exact (sb_cons (ss_if (st_cmp (op_eqW (room64 hr)) od_eqW (so_ex (se_idx ix_seq od_idx (so_sl (pv 0)) (so_ex se_int))) (so_ex se_int)) (sb_cons (ss_set (fun te h => ps_set (i := 2) sc_nd rfl (by first | exact Or.inl rfl | exact Or.inr rfl) h) (sg_e (se_idx ix_seq od_idx (so_ex (se_bin op_add4 od_add (so_ex (se_slice (so_ex (se_idx ix_seq od_idx (so_sl (pv 0)) (so_ex se_int))) (sp_some (se_idx ix_seq od_idx (so_sl (pv 0)) (so_ex se_int))) sp_none)) (so_ex (se_lst (sa_cons se_int sa_nil))))) (so_ex se_int)))) (sb_cons (ss_putOp ipd_addI ip_add (pv 0) se_int se_int) (sb_cons (ss_if (st_cmp op_ge od_ge (so_sl (pv 2)) (so_ex (se_bin op_pow od_pow (so_ex se_int) (so_ex se_int)))) (sb_one (ss_put (pv 0) se_int (se_nm (pv 2)))) sb_nil) (sb_cons (ss_set (fun te h => ps_set (i := 3) sc_nd rfl (by first | exact Or.inl rfl | exact Or.inr rfl) h) (sg_e (se_bin op_add4 od_add (so_ex (se_bin op_add4 od_add (so_ex (se_bin op_mul3 od_mul (so_ex (se_idx ix_seq od_idx (so_sl (pv 0)) (so_ex se_int))) (so_ex se_int))) (so_ex (se_bin op_modN od_mod (so_ex (se_intc rfl z_int (so_sl (pv 2)))) (so_ex se_int))))) (so_ex (se_bin op_mul3 od_mul (so_ex se_int) (so_ex (se_idx ix_seq od_idx (so_sl (pv 0)) (so_ex se_int)))))))) (sb_one (ss_put (pv 0) se_int (se_bin op_modN od_mod (so_ex (se_intc rfl z_int (so_sl (pv 3)))) (so_ex se_int)))))))) sb_nil) (sb_cons (ss_if (st_cmp op_gt od_gt (so_ex (se_idx ix_seq od_idx (so_sl (pv 0)) (so_ex se_int))) (so_ex se_int)) (sb_cons (ss_set (fun te h => ps_set (i := 4) sc_nd rfl (by first | exact Or.inl rfl | exact Or.inr rfl) h) (sg_e (se_bin op_modN od_mod (so_ex (se_intc rfl z_int (so_ex (se_idx ix_seq od_idx (so_sl (pv 0)) (so_ex se_int))))) (so_sl (pv 1))))) (sb_cons (ss_put (pv 0) se_int (se_bin op_fdivN od_fdiv (so_ex (se_intc rfl z_int (so_ex (se_idx ix_seq od_idx (so_sl (pv 0)) (so_ex se_int))))) (so_sl (pv 1)))) (sb_one (ss_ret (sg_e (se_nm (pv 4))))))) sb_nil) (sb_cons (ss_set (fun te h => ps_set (i := 5) sc_nd rfl (by first | exact Or.inl rfl | exact Or.inr rfl) h) (sg_e (se_bin op_modN od_mod (so_ex (se_intc rfl z_int (so_ex (se_bin op_mul3 od_mul (so_ex (se_bin op_add4 od_add (so_ex (se_idx ix_seq od_idx (so_sl (pv 0)) (so_ex se_int))) (so_ex se_int))) (so_ex se_int))))) (so_ex se_int)))) (sb_cons (ss_set (fun te h => ps_set (i := 6) sc_nd rfl (by first | exact Or.inl rfl | exact Or.inr rfl) h) (sg_e (se_bin op_modN od_mod (so_ex (se_intc rfl z_int (so_ex (se_bin op_mul3 od_mul (so_ex (se_bin op_modN od_mod (so_ex (se_intc rfl z_int (so_ex (se_bin op_mul3 od_mul (so_sl (pv 5)) (so_sl (pv 5)))))) (so_ex se_int))) (so_ex se_int))))) (so_ex se_int)))) (sb_one (ss_ret (sg_e (se_bin op_modN od_mod (so_ex (se_intc rfl z_int (so_ex (se_bin op_fdivN od_fdiv (so_sl (pv 6)) (so_ex se_int))))) (so_sl (pv 1))))))))))

/-! ### _law_one -/
-- slots: 0:_law_bag_here 1:_law_things
def b_l_one : EM Fl :=
  (sRet (gE (bin (.sl 1) (.ex (frz (callM F_l_take [.ref 0, .val (un1 (.sl 1) lenD)]))) idxD)))
def F_l_one : Fn := guardF (fnOf 2 0 b_l_one)
theorem sc_l_one : FnScope ["_law_bag_here", "_law_things"] ["_law_bag_here", "_law_things"] (defScope (top 18)) := ⟨rfl, rfl, rfl, by decide +kernel, rfl, by decide +kernel, by decide +kernel⟩
theorem df_l_one {P : Program} {w : World} {K : PySem.W.Frag} {mg : Str → Option Value} {base : Heap} {T : List (Addr × Str)} {f : Addr} {fd : FuncData} (F : Fun K "_law_one" "_law_one" (top 18) f fd) (gm : mg "_law_one" = some (.ref f)) (bi : Binds K fd ["_law_bag_here", "_law_things"] []) 
    (D_l_take : Df P w K mg base T false "_law_take" 1 2 F_l_take) (z_len : mg "len" = none) : Df P w K mg base T false "_law_one" 2 2 F_l_one :=
  df_of (k := 1) F sc_l_one gm bi rfl rfl fun cdv A outer s H E B W hB hr gk tk => by
    have sc_nd := sc_l_one.nd
    exact (sb_one (ss_ret (sg_e (se_idx ix_seq od_idx (so_sl (pv 1)) (so_ex (se_frz (sg_call (D_l_take.to hB) (hr.mono (by decide)) (GOk.off _) rfl tk (ra_ref (pv 0) (ra_val (se_len rfl z_len (so_sl (pv 1))) ra_nil)) rfl (by decide))))))))

/-! ### _law_mixed -/
-- slots: 0:_law_bag_here 1:_law_things 2:_law_found 3:_law_thing
def b_l_mixed : EM Fl :=
  (sSeq (sSet 2 (gF (bnd aNil fun ds => if ds.length ≤ 16777216 then EM.ret ds else EM.stuck))) (sSeq (sFor (.nm 3) (iSrc (nm 1)) (sExpr (eIns 2 (frz (callM F_l_take [.ref 0, .val (bin (.ex (un1 (.sl 2) lenD)) (.ex (lit (.int 1))) addD)])) (nm 3)))) (sRet (own 2))))
def F_l_mixed : Fn := guardF (fnOf 2 2 b_l_mixed)
theorem sc_l_mixed : FnScope ["_law_bag_here", "_law_things", "_law_found", "_law_thing"] ["_law_bag_here", "_law_things"] (defScope (top 19)) := ⟨rfl, rfl, rfl, by decide +kernel, rfl, by decide +kernel, by decide +kernel⟩
theorem df_l_mixed {P : Program} {w : World} {K : PySem.W.Frag} {mg : Str → Option Value} {base : Heap} {T : List (Addr × Str)} {f : Addr} {fd : FuncData} (F : Fun K "_law_mixed" "_law_mixed" (top 19) f fd) (gm : mg "_law_mixed" = some (.ref f)) (bi : Binds K fd ["_law_bag_here", "_law_things"] []) 
    (D_l_take : Df P w K mg base T false "_law_take" 1 2 F_l_take) (z_len : mg "len" = none) : Df P w K mg base T false "_law_mixed" 2 2 F_l_mixed :=
  df_of (k := 1) F sc_l_mixed gm bi rfl rfl fun cdv A outer s H E B W hB hr gk tk => by
    have sc_nd := sc_l_mixed.nd
    exact (sb_cons (ss_set (fun te h => ps_set (i := 2) sc_nd rfl (by first | exact Or.inl rfl | exact Or.inr rfl) h) (sg_f (sf_lst sa_nil))) (sb_cons (ss_for (passes_of rfl) rfl (si_seq (se_nm (pv 1))) (st_nm (pg_name (i := 3) sc_nd rfl (by first | exact Or.inl rfl | exact Or.inr rfl))) (sb_one (ss_expr (se_ins (pv 2) (se_frz (sg_call (D_l_take.to hB) (hr.mono (by decide)) (GOk.off _) rfl tk (ra_ref (pv 0) (ra_val (se_bin op_add4 od_add (so_ex (se_len rfl z_len (so_sl (pv 2)))) (so_ex se_int)) ra_nil)) rfl (by decide))) (se_nm (pv 3)))))) (sb_one (ss_ret (sg_own (pv 2))))))

/-! ### _law_alike -/
-- slots: 0:_law_found 1:_law_due
def b_l_alike : EM Fl :=
  (sRet (gE (andV (bin (.sl 0) (.sl 1) eqD') (bin (.ex (un1 (.sl 0) reprD)) (.ex (un1 (.sl 1) reprD)) eqD'))))
def F_l_alike : Fn := guardF (fnOf 2 0 b_l_alike)
theorem sc_l_alike : FnScope ["_law_found", "_law_due"] ["_law_found", "_law_due"] (defScope (top 20)) := ⟨rfl, rfl, rfl, by decide +kernel, rfl, by decide +kernel, by decide +kernel⟩
theorem df_l_alike {P : Program} {w : World} {K : PySem.W.Frag} {mg : Str → Option Value} {base : Heap} {T : List (Addr × Str)} {f : Addr} {fd : FuncData} (F : Fun K "_law_alike" "_law_alike" (top 20) f fd) (gm : mg "_law_alike" = some (.ref f)) (bi : Binds K fd ["_law_found", "_law_due"] []) 
    (z_repr : mg "repr" = none) : Df P w K mg base T true "_law_alike" 1 2 F_l_alike :=
  df_of (k := 0) F sc_l_alike gm bi rfl rfl fun cdv A outer s H E B W hB hr gk tk => by
    have sc_nd := sc_l_alike.nd
    exact (sb_one (ss_ret (sg_e (se_and (se_cmp (op_eqW (room64 hr)) od_eqW (so_sl (pv 0)) (so_sl (pv 1))) (se_one (se_cmp (op_eqW (room64 hr)) od_eqW (so_ex (se_repr (gk rfl) hr rfl z_repr (so_sl (pv 0)))) (so_ex (se_repr (gk rfl) hr rfl z_repr (so_sl (pv 1))))))))))

/-! ### _law_flat -/
-- slots: 0:_law_rows 1:_law_found 2:_law_row
def b_l_flat : EM Fl :=
  (sSeq (sSet 1 (gF (bnd aNil fun ds => if ds.length ≤ 16777216 then EM.ret ds else EM.stuck))) (sSeq (sFor (.nm 2) (iSrc (nm 0)) (sExpr (eExt 1 (nm 2)))) (sRet (own 1))))
def F_l_flat : Fn := guardF (fnOf 1 2 b_l_flat)
theorem sc_l_flat : FnScope ["_law_rows", "_law_found", "_law_row"] ["_law_rows"] (defScope (top 21)) := ⟨rfl, rfl, rfl, by decide +kernel, rfl, by decide +kernel, by decide +kernel⟩
theorem df_l_flat {P : Program} {w : World} {K : PySem.W.Frag} {mg : Str → Option Value} {base : Heap} {T : List (Addr × Str)} {f : Addr} {fd : FuncData} (F : Fun K "_law_flat" "_law_flat" (top 21) f fd) (gm : mg "_law_flat" = some (.ref f)) (bi : Binds K fd ["_law_rows"] []) 
     : Df P w K mg base T false "_law_flat" 1 1 F_l_flat :=
  df_of (k := 0) F sc_l_flat gm bi rfl rfl fun cdv A outer s H E B W hB hr gk tk => by
    have sc_nd := sc_l_flat.nd
    exact (sb_cons (ss_set (fun te h => ps_set (i := 1) sc_nd rfl (by first | exact Or.inl rfl | exact Or.inr rfl) h) (sg_f (sf_lst sa_nil))) (sb_cons (ss_for (passes_of rfl) rfl (si_seq (se_nm (pv 0))) (st_nm (pg_name (i := 2) sc_nd rfl (by first | exact Or.inl rfl | exact Or.inr rfl))) (sb_one (ss_expr (se_ext (pv 1) (se_nm (pv 2)))))) (sb_one (ss_ret (sg_own (pv 1))))))

/-! ### _law_names -/
-- slots: 0:_law_bag_here 1:_law_many 2:_law_menu
def b_l_names : EM Fl :=
  (sSeq (sSet 2 (gF (bnd (aCons (lit (.str "a")) (aCons (lit (.str "b")) (aCons (lit (.str "c")) (aCons (lit (.str "d")) (aCons (lit (.str "ab")) (aCons (lit (.str "to")) (aCons (lit (.str "by")) (aCons (lit (.str "with")) (aCons (lit (.str "kinds")) (aCons (lit (.str "hands")) (aCons (lit (.str "recipe")) (aCons (lit (.str "run")) (aCons (lit (.str "places")) aNil))))))))))))) fun ds => if ds.length ≤ 16777216 then EM.ret ds else EM.stuck))) (sRet (gE (eSl (.ex (frz (callM F_l_mixed [.ref 0, .val (bin (.sl 2) (.ex (eLst (aCons (lit (.str "arrow")) (aCons (lit (.str "gym")) (aCons (lit (.str "jvl")) (aCons (lit (.str "zzzzzz")) (aCons (lit (.str "x")) aNil))))))) addD)]))) none (some (nm 1))))))
def F_l_names : Fn := guardF (fnOf 2 1 b_l_names)
theorem sc_l_names : FnScope ["_law_bag_here", "_law_many", "_law_menu"] ["_law_bag_here", "_law_many"] (defScope (top 22)) := ⟨rfl, rfl, rfl, by decide +kernel, rfl, by decide +kernel, by decide +kernel⟩
theorem df_l_names {P : Program} {w : World} {K : PySem.W.Frag} {mg : Str → Option Value} {base : Heap} {T : List (Addr × Str)} {f : Addr} {fd : FuncData} (F : Fun K "_law_names" "_law_names" (top 22) f fd) (gm : mg "_law_names" = some (.ref f)) (bi : Binds K fd ["_law_bag_here", "_law_many"] []) 
    (D_l_mixed : Df P w K mg base T false "_law_mixed" 2 2 F_l_mixed) : Df P w K mg base T false "_law_names" 3 2 F_l_names :=
  df_of (k := 2) F sc_l_names gm bi rfl rfl fun cdv A outer s H E B W hB hr gk tk => by
    have sc_nd := sc_l_names.nd
    exact (sb_cons (ss_set (fun te h => ps_set (i := 2) sc_nd rfl (by first | exact Or.inl rfl | exact Or.inr rfl) h) (sg_f (sf_lst (sa_cons se_str (sa_cons se_str (sa_cons se_str (sa_cons se_str (sa_cons se_str (sa_cons se_str (sa_cons se_str (sa_cons se_str (sa_cons se_str (sa_cons se_str (sa_cons se_str (sa_cons se_str (sa_cons se_str sa_nil)))))))))))))))) (sb_one (ss_ret (sg_e (se_slice (so_ex (se_frz (sg_call (D_l_mixed.to hB) (hr.mono (by decide)) (GOk.off _) rfl tk (ra_ref (pv 0) (ra_val (se_bin op_add4 od_add (so_sl (pv 2)) (so_ex (se_lst (sa_cons se_str (sa_cons se_str (sa_cons se_str (sa_cons se_str (sa_cons se_str sa_nil)))))))) ra_nil)) rfl (by decide)))) sp_none (sp_some (se_nm (pv 1))))))))

/-! ### _law_recipe -/
-- slots: 0:_law_bag_here 1:_law_size 2:_law_hands 3:_law_most 4:_law_last 5:_law_menu 6:_law_takes 7:_law_puts 8:_law_place
def b_l_recipe : EM Fl :=
  (sSeq (sSet 4 (callM F_l_take [.ref 0, .val (nm 1)])) (sSeq (sPar [5, 6, 7] [(gF (bnd (aCons (lit (.int 0)) (aCons (lit (.int 1)) (aCons (lit (.int 0)) (aCons (bin (.ex (lit (.int 1))) (.ex (frz (callM F_l_take [.ref 0, .val (nm 3)]))) addD) aNil)))) fun ds => if ds.length ≤ 16777216 then EM.ret ds else EM.stuck)), (gF (binF (.ex (eLst (aCons (lit (.int 0)) aNil))) (.sl 1) repF)), (gF (binF (.ex (eLst (aCons (lit (.int 0)) aNil))) (.sl 1) repF))]) (sSeq (sFor (.nm 8) (rng1 (nm 1)) (sIf (tVal (bin (.sl 8) (.sl 4) ltD)) (sPut 6 (nm 8) (frz (callM F_l_one [.ref 0, .val (nm 5)]))) (sIf (tAndM (tVal (bin (.sl 8) (.sl 4) gtD)) (tVal (bin (.ex (frz (callM F_l_take [.ref 0, .val (lit (.int 2))]))) (.ex (lit (.int 0))) eqD'))) (sPut 7 (nm 8) (frz (callM F_l_one [.ref 0, .val (nm 5)]))) sNext))) (sSeq (sPut 6 (nm 4) (frz (callM F_l_one [.ref 0, .val (eLst (aCons (lit (.int 1)) (aCons (lit (.int 1)) (aCons (lit (.int 1)) (aCons (lit (.int 2)) (aCons (bin (.ex (lit (.int 1))) (.ex (frz (callM F_l_take [.ref 0, .val (nm 3)]))) addD) aNil))))))]))) (sRet (gE (eTupW (aCons (un1 (.sl 6) tupD) (aCons (un1 (.sl 7) tupD) (aCons (frz (callM F_l_one [.ref 0, .val (bin (.ex (bin (.ex (eF (unF (.sl 2) listF))) (.ex (lit (.int 2))) mulD)) (.ex (eLst (aCons (lit .none) aNil))) addD)])) aNil))))))))))
def F_l_recipe : Fn := guardF (fnOf 4 5 b_l_recipe)
theorem sc_l_recipe : FnScope ["_law_bag_here", "_law_size", "_law_hands", "_law_most", "_law_last", "_law_menu", "_law_takes", "_law_puts", "_law_place"] ["_law_bag_here", "_law_size", "_law_hands", "_law_most"] (defScope (top 23)) := ⟨rfl, rfl, rfl, by decide +kernel, rfl, by decide +kernel, by decide +kernel⟩
theorem df_l_recipe {P : Program} {w : World} {K : PySem.W.Frag} {mg : Str → Option Value} {base : Heap} {T : List (Addr × Str)} {f : Addr} {fd : FuncData} (F : Fun K "_law_recipe" "_law_recipe" (top 23) f fd) (gm : mg "_law_recipe" = some (.ref f)) (bi : Binds K fd ["_law_bag_here", "_law_size", "_law_hands", "_law_most"] []) 
    (D_l_take : Df P w K mg base T false "_law_take" 1 2 F_l_take) (z_range : mg "range" = none) (D_l_one : Df P w K mg base T false "_law_one" 2 2 F_l_one) (z_list : mg "list" = none) (z_tuple : mg "tuple" = none) : Df P w K mg base T false "_law_recipe" 3 4 F_l_recipe :=
  df_of (k := 2) F sc_l_recipe gm bi rfl rfl fun cdv A outer s H E B W hB hr gk tk => by
    have sc_nd := sc_l_recipe.nd
    exact (sb_cons (ss_set (fun te h => ps_set (i := 4) sc_nd rfl (by first | exact Or.inl rfl | exact Or.inr rfl) h) (sg_call (D_l_take.to hB) (hr.mono (by decide)) (GOk.off _) rfl tk (ra_ref (pv 0) (ra_val (se_nm (pv 1)) ra_nil)) rfl (by decide))) (sb_cons (ss_par3 (fun ta h => ps_par3 (i := 5) (j := 6) (l := 7) rfl sc_nd rfl rfl rfl (by decide) (by decide) (by decide) rfl rfl rfl h (by rfl)) (sg_f (sf_lst (sa_cons se_int (sa_cons se_int (sa_cons se_int (sa_cons (se_bin op_add4 od_add (so_ex se_int) (so_ex (se_frz (sg_call (D_l_take.to hB) (hr.mono (by decide)) (GOk.off _) rfl tk (ra_ref (pv 0) (ra_val (se_nm (pv 3)) ra_nil)) rfl (by decide))))) sa_nil)))))) (sg_f (sf_rep (so_ex (se_lst (sa_cons se_int sa_nil))) (so_sl (pv 1)))) (sg_f (sf_rep (so_ex (se_lst (sa_cons se_int sa_nil))) (so_sl (pv 1))))) (sb_cons (ss_for (passes_of rfl) rfl (si_range1 rfl z_range (se_nm (pv 1))) (st_nm (pg_name (i := 8) sc_nd rfl (by first | exact Or.inl rfl | exact Or.inr rfl))) (sb_one (ss_if (st_cmp op_lt od_lt (so_sl (pv 8)) (so_sl (pv 4))) (sb_one (ss_put (pv 6) (se_nm (pv 8)) (se_frz (sg_call (D_l_one.to hB) (hr.mono (by decide)) (GOk.off _) rfl tk (ra_ref (pv 0) (ra_val (se_nm (pv 5)) ra_nil)) rfl (by decide))))) (sb_one (ss_if (pt_w (sw_and (st_cmp op_gt od_gt (so_sl (pv 8)) (so_sl (pv 4))) (sw_and1 (st_cmp (op_eqW (room64 hr)) od_eqW (so_ex (se_frz (sg_call (D_l_take.to hB) (hr.mono (by decide)) (GOk.off _) rfl tk (ra_ref (pv 0) (ra_val se_int ra_nil)) rfl (by decide)))) (so_ex se_int))))) (sb_one (ss_put (pv 7) (se_nm (pv 8)) (se_frz (sg_call (D_l_one.to hB) (hr.mono (by decide)) (GOk.off _) rfl tk (ra_ref (pv 0) (ra_val (se_nm (pv 5)) ra_nil)) rfl (by decide))))) sb_nil))))) (sb_cons (ss_put (pv 6) (se_nm (pv 4)) (se_frz (sg_call (D_l_one.to hB) (hr.mono (by decide)) (GOk.off _) rfl tk (ra_ref (pv 0) (ra_val (se_lst (sa_cons se_int (sa_cons se_int (sa_cons se_int (sa_cons se_int (sa_cons (se_bin op_add4 od_add (so_ex se_int) (so_ex (se_frz (sg_call (D_l_take.to hB) (hr.mono (by decide)) (GOk.off _) rfl tk (ra_ref (pv 0) (ra_val (se_nm (pv 3)) ra_nil)) rfl (by decide))))) sa_nil)))))) ra_nil)) rfl (by decide)))) (sb_one (ss_ret (sg_e (se_tupW (sa_cons (se_tupc rfl z_tuple (so_sl (pv 6))) (sa_cons (se_tupc rfl z_tuple (so_sl (pv 7))) (sa_cons (se_frz (sg_call (D_l_one.to hB) (hr.mono (by decide)) (GOk.off _) rfl tk (ra_ref (pv 0) (ra_val (se_bin op_add4 od_add (so_ex (se_bin op_mul3 od_mul (so_ex (se_f (sf_list rfl z_list (so_sl (pv 2))))) (so_ex se_int))) (so_ex (se_lst (sa_cons se_none sa_nil)))) ra_nil)) rfl (by decide))) sa_nil)))))))))))

/-! ### _law_out -/
-- slots: 0:_law_bag_here 1:_law_size 2:_law_place 3:_law_hands 4:_law_takes
def b_l_out : EM Fl :=
  (sSeq (sSet 4 (gF (binF (.ex (eLst (aCons (lit (.int 0)) aNil))) (.sl 1) repF))) (sSeq (sPut 4 (nm 2) (lit (.int 1))) (sRet (gE (eTupW (aCons (un1 (.sl 4) tupD) (aCons (bin (.ex (eTupW (aCons (lit (.int 0)) aNil))) (.sl 1) mulD) (aCons (frz (callM F_l_one [.ref 0, .val (bin (.ex (bin (.ex (eF (unF (.sl 3) listF))) (.ex (lit (.int 3))) mulD)) (.ex (eLst (aCons (lit .none) aNil))) addD)])) aNil))))))))
def F_l_out : Fn := guardF (fnOf 4 1 b_l_out)
theorem sc_l_out : FnScope ["_law_bag_here", "_law_size", "_law_place", "_law_hands", "_law_takes"] ["_law_bag_here", "_law_size", "_law_place", "_law_hands"] (defScope (top 24)) := ⟨rfl, rfl, rfl, by decide +kernel, rfl, by decide +kernel, by decide +kernel⟩
theorem df_l_out {P : Program} {w : World} {K : PySem.W.Frag} {mg : Str → Option Value} {base : Heap} {T : List (Addr × Str)} {f : Addr} {fd : FuncData} (F : Fun K "_law_out" "_law_out" (top 24) f fd) (gm : mg "_law_out" = some (.ref f)) (bi : Binds K fd ["_law_bag_here", "_law_size", "_law_place", "_law_hands"] []) 
    (D_l_one : Df P w K mg base T false "_law_one" 2 2 F_l_one) (z_list : mg "list" = none) (z_tuple : mg "tuple" = none) : Df P w K mg base T false "_law_out" 3 4 F_l_out :=
  df_of (k := 2) F sc_l_out gm bi rfl rfl fun cdv A outer s H E B W hB hr gk tk => by
    have sc_nd := sc_l_out.nd
    exact (sb_cons (ss_set (fun te h => ps_set (i := 4) sc_nd rfl (by first | exact Or.inl rfl | exact Or.inr rfl) h) (sg_f (sf_rep (so_ex (se_lst (sa_cons se_int sa_nil))) (so_sl (pv 1))))) (sb_cons (ss_put (pv 4) (se_nm (pv 2)) se_int) (sb_one (ss_ret (sg_e (se_tupW (sa_cons (se_tupc rfl z_tuple (so_sl (pv 4))) (sa_cons (se_bin op_mul3 od_mul (so_ex (se_tupW (sa_cons se_int sa_nil))) (so_sl (pv 1))) (sa_cons (se_frz (sg_call (D_l_one.to hB) (hr.mono (by decide)) (GOk.off _) rfl tk (ra_ref (pv 0) (ra_val (se_bin op_add4 od_add (so_ex (se_bin op_mul3 od_mul (so_ex (se_f (sf_list rfl z_list (so_sl (pv 3))))) (so_ex se_int))) (so_ex (se_lst (sa_cons se_none sa_nil)))) ra_nil)) rfl (by decide))) sa_nil)))))))))

/-! ### _law_works -/
-- slots: 0:_law_bag_here 1:_law_kinds 2:_law_hands 3:_law_recipes 4:_law_names_here 5:_law_size 6:_law_many 7:_law_crew 8:_law_found 9:_law_most 10:_law_turn 11:_law_place
def b_l_works : EM Fl :=
  (sSeq (sPar [4, 5, 6] [(callM F_l_names [.ref 0, .val (lit (.int 8))]), (gE (bin (.ex (lit (.int 1))) (.ex (frz (callM F_l_take [.ref 0, .val (nm 1)]))) addD)), (callM F_l_take [.ref 0, .val (bin (.sl 2) (.ex (lit (.int 1))) addD)])]) (sSeq (sPar [7, 8] [(gE (un1 (.ex (eSl (.sl 4) (some (nm 5)) (some (bin (.sl 5) (.sl 6) addD)))) tupD)), (gF (bnd aNil fun ds => if ds.length ≤ 16777216 then EM.ret ds else EM.stuck))]) (sSeq (sSet 9 (callM F_l_one [.ref 0, .val (eLst (aCons (lit (.int 1)) (aCons (lit (.int 2)) (aCons (lit (.int 2)) (aCons (lit (.int 4)) aNil)))))])) (sSeq (sFor (.nm 10) (rng1 (frz (callM F_l_take [.ref 0, .val (bin (.sl 3) (.ex (lit (.int 1))) addD)]))) (sExpr (eApp 8 (frz (callM F_l_recipe [.ref 0, .val (nm 5), .val (nm 7), .val (nm 9)]))))) (sSeq (sFor (.nm 11) (rng1 (nm 5)) (sIf (tVal (bin (.ex (frz (callM F_l_take [.ref 0, .val (lit (.int 4))]))) (.ex (lit (.int 0))) gtD)) (sExpr (eApp 8 (frz (callM F_l_out [.ref 0, .val (nm 5), .val (nm 11), .val (nm 7)])))) sNext)) (sSeq (sIf (tAndM (tVal (bin (.sl 8) (.ex (eLst aNil)) neD)) (tVal (bin (.ex (frz (callM F_l_take [.ref 0, .val (lit (.int 6))]))) (.ex (lit (.int 0))) eqD'))) (sExpr (eApp 8 (frz (callM F_l_one [.ref 0, .ref 8])))) sNext) (sRet (gE (eTupW (aCons (un1 (.ex (eSl (.sl 4) none (some (nm 5)))) tupD) (aCons (nm 7) (aCons (un1 (.ex (eSl (.ex (frz (callM F_l_mixed [.ref 0, .val (nm 8)]))) none (some (nm 3)))) tupD) aNil))))))))))))
def F_l_works : Fn := guardF (fnOf 4 8 b_l_works)
theorem sc_l_works : FnScope ["_law_bag_here", "_law_kinds", "_law_hands", "_law_recipes", "_law_names_here", "_law_size", "_law_many", "_law_crew", "_law_found", "_law_most", "_law_turn", "_law_place"] ["_law_bag_here", "_law_kinds", "_law_hands", "_law_recipes"] (defScope (top 25)) := ⟨rfl, rfl, rfl, by decide +kernel, rfl, by decide +kernel, by decide +kernel⟩
theorem df_l_works {P : Program} {w : World} {K : PySem.W.Frag} {mg : Str → Option Value} {base : Heap} {T : List (Addr × Str)} {f : Addr} {fd : FuncData} (F : Fun K "_law_works" "_law_works" (top 25) f fd) (gm : mg "_law_works" = some (.ref f)) (bi : Binds K fd ["_law_bag_here", "_law_kinds", "_law_hands", "_law_recipes"] []) 
    (D_l_names : Df P w K mg base T false "_law_names" 3 2 F_l_names) (D_l_take : Df P w K mg base T false "_law_take" 1 2 F_l_take) (z_tuple : mg "tuple" = none) (D_l_one : Df P w K mg base T false "_law_one" 2 2 F_l_one) (z_range : mg "range" = none) (D_l_recipe : Df P w K mg base T false "_law_recipe" 3 4 F_l_recipe) (D_l_out : Df P w K mg base T false "_law_out" 3 4 F_l_out) (D_l_mixed : Df P w K mg base T false "_law_mixed" 2 2 F_l_mixed) : Df P w K mg base T false "_law_works" 4 4 F_l_works :=
  df_of (k := 3) F sc_l_works gm bi rfl rfl fun cdv A outer s H E B W hB hr gk tk => by
    have sc_nd := sc_l_works.nd
    exact (sb_cons (ss_par3 (fun ta h => ps_par3 (i := 4) (j := 5) (l := 6) rfl sc_nd rfl rfl rfl (by decide) (by decide) (by decide) rfl rfl rfl h (by rfl)) (sg_call (D_l_names.to hB) (hr.mono (by decide)) (GOk.off _) rfl tk (ra_ref (pv 0) (ra_val se_int ra_nil)) rfl (by decide)) (sg_e (se_bin op_add4 od_add (so_ex se_int) (so_ex (se_frz (sg_call (D_l_take.to hB) (hr.mono (by decide)) (GOk.off _) rfl tk (ra_ref (pv 0) (ra_val (se_nm (pv 1)) ra_nil)) rfl (by decide)))))) (sg_call (D_l_take.to hB) (hr.mono (by decide)) (GOk.off _) rfl tk (ra_ref (pv 0) (ra_val (se_bin op_add4 od_add (so_sl (pv 2)) (so_ex se_int)) ra_nil)) rfl (by decide))) (sb_cons (ss_par2 (fun ta h => ps_par (i := 7) (j := 8) rfl sc_nd rfl rfl (by decide) rfl rfl h (by rfl)) (sg_e (se_tupc rfl z_tuple (so_ex (se_slice (so_sl (pv 4)) (sp_some (se_nm (pv 5))) (sp_some (se_bin op_add4 od_add (so_sl (pv 5)) (so_sl (pv 6)))))))) (sg_f (sf_lst sa_nil))) (sb_cons (ss_set (fun te h => ps_set (i := 9) sc_nd rfl (by first | exact Or.inl rfl | exact Or.inr rfl) h) (sg_call (D_l_one.to hB) (hr.mono (by decide)) (GOk.off _) rfl tk (ra_ref (pv 0) (ra_val (se_lst (sa_cons se_int (sa_cons se_int (sa_cons se_int (sa_cons se_int sa_nil))))) ra_nil)) rfl (by decide))) (sb_cons (ss_for (passes_of rfl) rfl (si_range1 rfl z_range (se_frz (sg_call (D_l_take.to hB) (hr.mono (by decide)) (GOk.off _) rfl tk (ra_ref (pv 0) (ra_val (se_bin op_add4 od_add (so_sl (pv 3)) (so_ex se_int)) ra_nil)) rfl (by decide)))) (st_nm (pg_name (i := 10) sc_nd rfl (by first | exact Or.inl rfl | exact Or.inr rfl))) (sb_one (ss_expr (se_app (pv 8) (se_frz (sg_call (D_l_recipe.to hB) (hr.mono (by decide)) (GOk.off _) rfl tk (ra_ref (pv 0) (ra_val (se_nm (pv 5)) (ra_val (se_nm (pv 7)) (ra_val (se_nm (pv 9)) ra_nil)))) rfl (by decide))))))) (sb_cons (ss_for (passes_of rfl) rfl (si_range1 rfl z_range (se_nm (pv 5))) (st_nm (pg_name (i := 11) sc_nd rfl (by first | exact Or.inl rfl | exact Or.inr rfl))) (sb_one (ss_if (st_cmp op_gt od_gt (so_ex (se_frz (sg_call (D_l_take.to hB) (hr.mono (by decide)) (GOk.off _) rfl tk (ra_ref (pv 0) (ra_val se_int ra_nil)) rfl (by decide)))) (so_ex se_int)) (sb_one (ss_expr (se_app (pv 8) (se_frz (sg_call (D_l_out.to hB) (hr.mono (by decide)) (GOk.off _) rfl tk (ra_ref (pv 0) (ra_val (se_nm (pv 5)) (ra_val (se_nm (pv 11)) (ra_val (se_nm (pv 7)) ra_nil)))) rfl (by decide)))))) sb_nil))) (sb_cons (ss_if (pt_w (sw_and (st_cmp (op_neD (room64 hr)) od_ne (so_sl (pv 8)) (so_ex (se_lst sa_nil))) (sw_and1 (st_cmp (op_eqW (room64 hr)) od_eqW (so_ex (se_frz (sg_call (D_l_take.to hB) (hr.mono (by decide)) (GOk.off _) rfl tk (ra_ref (pv 0) (ra_val se_int ra_nil)) rfl (by decide)))) (so_ex se_int))))) (sb_one (ss_expr (se_app (pv 8) (se_frz (sg_call (D_l_one.to hB) (hr.mono (by decide)) (GOk.off _) rfl tk (ra_ref (pv 0) (ra_ref (pv 8) ra_nil)) rfl (by decide)))))) sb_nil) (sb_one (ss_ret (sg_e (se_tupW (sa_cons (se_tupc rfl z_tuple (so_ex (se_slice (so_sl (pv 4)) sp_none (sp_some (se_nm (pv 5)))))) (sa_cons (se_nm (pv 7)) (sa_cons (se_tupc rfl z_tuple (so_ex (se_slice (so_ex (se_frz (sg_call (D_l_mixed.to hB) (hr.mono (by decide)) (GOk.off _) rfl tk (ra_ref (pv 0) (ra_val (se_nm (pv 8)) ra_nil)) rfl (by decide)))) sp_none (sp_some (se_nm (pv 3)))))) sa_nil)))))))))))))

/-! ### _law_nothing -/
-- slots: 0:_law_works_here
def b_l_nothing : EM Fl :=
  (sRet (gE (bin (.ex (eTupW (aCons (lit (.int 0)) aNil))) (.ex (un1 (.ex (bin (.sl 0) (.ex (lit (.int 0))) idxD)) lenD)) mulD)))
def F_l_nothing : Fn := guardF (fnOf 1 0 b_l_nothing)
theorem sc_l_nothing : FnScope ["_law_works_here"] ["_law_works_here"] (defScope (top 26)) := ⟨rfl, rfl, rfl, by decide +kernel, rfl, by decide +kernel, by decide +kernel⟩
theorem df_l_nothing {P : Program} {w : World} {K : PySem.W.Frag} {mg : Str → Option Value} {base : Heap} {T : List (Addr × Str)} {f : Addr} {fd : FuncData} (F : Fun K "_law_nothing" "_law_nothing" (top 26) f fd) (gm : mg "_law_nothing" = some (.ref f)) (bi : Binds K fd ["_law_works_here"] []) 
    (z_len : mg "len" = none) : Df P w K mg base T false "_law_nothing" 1 1 F_l_nothing :=
  df_of (k := 0) F sc_l_nothing gm bi rfl rfl fun cdv A outer s H E B W hB hr gk tk => by
    have sc_nd := sc_l_nothing.nd
    exact (sb_one (ss_ret (sg_e (se_bin op_mul3 od_mul (so_ex (se_tupW (sa_cons se_int sa_nil))) (so_ex (se_len rfl z_len (so_ex (se_idx ix_seq od_idx (so_sl (pv 0)) (so_ex se_int)))))))))

/-! ### _law_histories -/
-- slots: 0:_law_window 1:_law_top 2:_law_most 3:_law_found 4:_law_k 5:_law_more 6:_law_one_here
def b_l_histories : EM Fl :=
  (sSeq (sSet 3 (gF (bnd (aCons (eTupW aNil) aNil) fun ds => if ds.length ≤ 16777216 then EM.ret ds else EM.stuck))) (sSeq (sFor (.nm 4) (rng1 (bin (.sl 0) (.ex (lit (.int 1))) subD)) (sSet 3 (callM F_l_flat [.val (eF (lcM [6] (.nm 6) (iSrc (nm 3)) yes (eF (lcM [5] (.nm 5) (rng1 (bin (.ex (bin (.sl 1) (.ex (bin (.sl 2) (.ex (un1 (.sl 6) sumD)) subD)) min2D)) (.ex (lit (.int 1))) addD)) yes (bin (.sl 6) (.ex (eTupW (aCons (nm 5) aNil))) addD)))))]))) (sRet (gE (nm 3)))))
def F_l_histories : Fn := guardF (fnOf 3 4 b_l_histories)
theorem sc_l_histories : FnScope ["_law_window", "_law_top", "_law_most", "_law_found", "_law_k", "_law_more", "_law_one_here"] ["_law_window", "_law_top", "_law_most"] (defScope (top 28)) := ⟨rfl, rfl, rfl, by decide +kernel, rfl, by decide +kernel, by decide +kernel⟩
theorem df_l_histories {P : Program} {w : World} {K : PySem.W.Frag} {mg : Str → Option Value} {base : Heap} {T : List (Addr × Str)} {f : Addr} {fd : FuncData} (F : Fun K "_law_histories" "_law_histories" (top 28) f fd) (gm : mg "_law_histories" = some (.ref f)) (bi : Binds K fd ["_law_window", "_law_top", "_law_most"] []) 
    (z_range : mg "range" = none) (D_l_flat : Df P w K mg base T false "_law_flat" 1 1 F_l_flat) (z_min : mg "min" = none) (z_sum : mg "sum" = none) : Df P w K mg base T false "_law_histories" 2 3 F_l_histories :=
  df_of (k := 1) F sc_l_histories gm bi rfl rfl fun cdv A outer s H E B W hB hr gk tk => by
    have sc_nd := sc_l_histories.nd
    exact (sb_cons (ss_set (fun te h => ps_set (i := 3) sc_nd rfl (by first | exact Or.inl rfl | exact Or.inr rfl) h) (sg_f (sf_lst (sa_cons (se_tupW sa_nil) sa_nil)))) (sb_cons (ss_for (passes_of rfl) rfl (si_range1 rfl z_range (se_bin op_sub od_sub (so_sl (pv 0)) (so_ex se_int))) (st_nm (pg_name (i := 4) sc_nd rfl (by first | exact Or.inl rfl | exact Or.inr rfl))) (sb_one (ss_set (fun te h => ps_set (i := 3) sc_nd rfl (by first | exact Or.inl rfl | exact Or.inr rfl) h) (sg_call (D_l_flat.to hB) (hr.mono (by decide)) (GOk.off _) rfl tk (ra_val (se_f (sf_lc (own := [("_law_one_here", 6)]) rfl sc_nd (si_seq (se_nm (pv 3))) (blkOk_by (by rfl)) (fun s H C cl fp => (st_nm (pg_name (i := 6) sc_nd rfl (by first | exact Or.inl rfl | exact Or.inr rfl)))) (fun s H C cl fp => sc_nil) (fun s H C cl fp => (se_f (sf_lc (own := [("_law_more", 5)]) rfl sc_nd (si_range1 rfl z_range (se_bin op_add4 od_add (so_ex (se_min2 rfl rfl z_min (so_sl (pv 1)) (so_ex (se_bin op_sub od_sub (so_sl (pv 2)) (so_ex (se_sum rfl rfl z_sum (so_sl (pv 6)))))))) (so_ex se_int))) (blkOk_by (by rfl)) (fun s H C cl fp => (st_nm (pg_name (i := 5) sc_nd rfl (by first | exact Or.inl rfl | exact Or.inr rfl)))) (fun s H C cl fp => sc_nil) (fun s H C cl fp => (se_bin op_add4 od_add (so_sl (pv 6)) (so_ex (se_tupW (sa_cons (se_nm (pv 5)) sa_nil))))) (by decide)))) (by decide))) ra_nil) rfl (by decide))))) (sb_one (ss_ret (sg_e (se_nm (pv 3)))))))

/-! ### _law_promise -/
-- slots: 0:_law_works_here 1:_law_name 2:_law_window 3:_law_top 4:_law_most 5:_law_histories_here 6:_law_arrows 7:_law_numbers 8:_law_one_here 9:_law_more 10:_law_amounts 11:_law_crew 12:_law_k 13:_law_kind 14:_law_hand
def b_l_promise : EM Fl :=
  (sSeq (sPar [5, 6] [(callM F_l_histories [.val (nm 2), .val (ifE (tVal (bin (.sl 3) (.ex (lit (.int 0))) eqD')) (lit (.int 1)) (nm 3)), .val (nm 4)]), (gF (bnd aNil fun ds => if ds.length ≤ 16777216 then EM.ret ds else EM.stuck))]) (sSeq (sSet 7 (gE (un1 (.ex (eF (lcM [12, 8] (.tp [(.nm 12), (.nm 8)]) (eEnum (nm 5)) yes (eTupW (aCons (nm 8) (aCons (nm 12) aNil)))))) dictPT))) (sSeq (sFor (.nm 8) (iSrc (nm 5)) (sFor (.nm 9) (rng1 (bin (.ex (bin (.ex (ifE (tVal (bin (.sl 3) (.ex (lit (.int 0))) eqD')) (lit (.int 1)) (nm 3))) (.ex (bin (.sl 4) (.ex (un1 (.sl 8) sumD)) subD)) min2D)) (.ex (lit (.int 1))) addD)) (sSeq (sSet 10 (gE (un1 (.ex (eF (lcM [13] (.nm 13) (iSrc (bin (.sl 0) (.ex (lit (.int 0))) idxD)) yes (ifE (tAndM (tVal (bin (.sl 3) (.ex (lit (.int 0))) gtD)) (tVal (bin (.sl 13) (.sl 1) eqD'))) (nm 9) (lit (.int 0)))))) tupD))) (sSeq (sSet 11 (gE (un1 (.ex (eF (lcM [14] (.nm 14) (iSrc (bin (.sl 0) (.ex (lit (.int 1))) idxD)) yes (ifE (tAndM (tVal (bin (.sl 3) (.ex (lit (.int 0))) eqD')) (tVal (bin (.sl 14) (.sl 1) eqD'))) (bin (.ex (lit (.int 1))) (.sl 9) subD) (lit (.int 0)))))) tupD))) (sExpr (eApp 6 (eTupW (aCons (bin (.sl 7) (.sl 8) dgetD) (aCons (bin (.sl 7) (.ex (eSl (.ex (bin (.sl 8) (.ex (eTupW (aCons (nm 9) aNil))) addD)) (some (lit (.int 1))) none)) dgetD) (aCons (nm 10) (aCons (nm 11) aNil))))))))))) (sRet (gE (eTupW (aCons (un1 (.sl 5) lenD) (aCons (un1 (.sl 6) tupD) aNil))))))))
def F_l_promise : Fn := guardF (fnOf 5 10 b_l_promise)
theorem sc_l_promise : FnScope ["_law_works_here", "_law_name", "_law_window", "_law_top", "_law_most", "_law_histories_here", "_law_arrows", "_law_numbers", "_law_one_here", "_law_more", "_law_amounts", "_law_crew", "_law_k", "_law_kind", "_law_hand"] ["_law_works_here", "_law_name", "_law_window", "_law_top", "_law_most"] (defScope (top 29)) := ⟨rfl, rfl, rfl, by decide +kernel, rfl, by decide +kernel, by decide +kernel⟩
theorem df_l_promise {P : Program} {w : World} {K : PySem.W.Frag} {mg : Str → Option Value} {base : Heap} {T : List (Addr × Str)} {f : Addr} {fd : FuncData} (F : Fun K "_law_promise" "_law_promise" (top 29) f fd) (gm : mg "_law_promise" = some (.ref f)) (bi : Binds K fd ["_law_works_here", "_law_name", "_law_window", "_law_top", "_law_most"] []) 
    (D_l_histories : Df P w K mg base T false "_law_histories" 2 3 F_l_histories) (z_dict : mg "dict" = none) (z_enumerate : mg "enumerate" = none) (z_range : mg "range" = none) (z_min : mg "min" = none) (z_sum : mg "sum" = none) (z_tuple : mg "tuple" = none) (z_len : mg "len" = none) : Df P w K mg base T false "_law_promise" 3 5 F_l_promise :=
  df_of (k := 2) F sc_l_promise gm bi rfl rfl fun cdv A outer s H E B W hB hr gk tk => by
    have sc_nd := sc_l_promise.nd
    exact (sb_cons (ss_par2 (fun ta h => ps_par (i := 5) (j := 6) rfl sc_nd rfl rfl (by decide) rfl rfl h (by rfl)) (sg_call (D_l_histories.to hB) (hr.mono (by decide)) (GOk.off _) rfl tk (ra_val (se_nm (pv 2)) (ra_val (se_if (st_cmp (op_eqW (room64 hr)) od_eqW (so_sl (pv 3)) (so_ex se_int)) se_int (se_nm (pv 3))) (ra_val (se_nm (pv 4)) ra_nil))) rfl (by decide)) (sg_f (sf_lst sa_nil))) (sb_cons (ss_set (fun te h => ps_set (i := 7) sc_nd rfl (by first | exact Or.inl rfl | exact Or.inr rfl) h) (sg_e (se_dictc rfl (room2 hr) rfl z_dict (so_ex (se_f (sf_lc (own := [("_law_k", 12), ("_law_one_here", 8)]) rfl sc_nd (si_enum rfl z_enumerate (se_nm (pv 5))) (blkOk_by (by rfl)) (fun s H C cl fp => (st_tup rfl (st_cons (st_nm (pg_name (i := 12) sc_nd rfl (by first | exact Or.inl rfl | exact Or.inr rfl))) (st_cons (st_nm (pg_name (i := 8) sc_nd rfl (by first | exact Or.inl rfl | exact Or.inr rfl))) st_nil)))) (fun s H C cl fp => sc_nil) (fun s H C cl fp => (se_tupW (sa_cons (se_nm (pv 8)) (sa_cons (se_nm (pv 12)) sa_nil)))) (by decide))))))) (sb_cons (ss_for (passes_of rfl) rfl (si_seq (se_nm (pv 5))) (st_nm (pg_name (i := 8) sc_nd rfl (by first | exact Or.inl rfl | exact Or.inr rfl))) (sb_one (ss_for (passes_of rfl) rfl (si_range1 rfl z_range (se_bin op_add4 od_add (so_ex (se_min2 rfl rfl z_min (so_ex (se_if (st_cmp (op_eqW (room64 hr)) od_eqW (so_sl (pv 3)) (so_ex se_int)) se_int (se_nm (pv 3)))) (so_ex (se_bin op_sub od_sub (so_sl (pv 4)) (so_ex (se_sum rfl rfl z_sum (so_sl (pv 8)))))))) (so_ex se_int))) (st_nm (pg_name (i := 9) sc_nd rfl (by first | exact Or.inl rfl | exact Or.inr rfl))) (sb_cons (ss_set (fun te h => ps_set (i := 10) sc_nd rfl (by first | exact Or.inl rfl | exact Or.inr rfl) h) (sg_e (se_tupc rfl z_tuple (so_ex (se_f (sf_lc (own := [("_law_kind", 13)]) rfl sc_nd (si_seq (se_idx ix_seq od_idx (so_sl (pv 0)) (so_ex se_int))) (blkOk_by (by rfl)) (fun s H C cl fp => (st_nm (pg_name (i := 13) sc_nd rfl (by first | exact Or.inl rfl | exact Or.inr rfl)))) (fun s H C cl fp => sc_nil) (fun s H C cl fp => (se_if (pt_w (sw_and (st_cmp op_gt od_gt (so_sl (pv 3)) (so_ex se_int)) (sw_and1 (st_cmp (op_eqW (room64 hr)) od_eqW (so_sl (pv 13)) (so_sl (pv 1)))))) (se_nm (pv 9)) se_int)) (by decide))))))) (sb_cons (ss_set (fun te h => ps_set (i := 11) sc_nd rfl (by first | exact Or.inl rfl | exact Or.inr rfl) h) (sg_e (se_tupc rfl z_tuple (so_ex (se_f (sf_lc (own := [("_law_hand", 14)]) rfl sc_nd (si_seq (se_idx ix_seq od_idx (so_sl (pv 0)) (so_ex se_int))) (blkOk_by (by rfl)) (fun s H C cl fp => (st_nm (pg_name (i := 14) sc_nd rfl (by first | exact Or.inl rfl | exact Or.inr rfl)))) (fun s H C cl fp => sc_nil) (fun s H C cl fp => (se_if (pt_w (sw_and (st_cmp (op_eqW (room64 hr)) od_eqW (so_sl (pv 3)) (so_ex se_int)) (sw_and1 (st_cmp (op_eqW (room64 hr)) od_eqW (so_sl (pv 14)) (so_sl (pv 1)))))) (se_bin op_sub od_sub (so_ex se_int) (so_sl (pv 9))) se_int)) (by decide))))))) (sb_one (ss_expr (se_app (pv 6) (se_tupW (sa_cons (se_dget (room1 hr) (so_sl (pv 7)) (so_sl (pv 8))) (sa_cons (se_dget (room1 hr) (so_sl (pv 7)) (so_ex (se_slice (so_ex (se_bin op_add4 od_add (so_sl (pv 8)) (so_ex (se_tupW (sa_cons (se_nm (pv 9)) sa_nil))))) (sp_some se_int) sp_none))) (sa_cons (se_nm (pv 10)) (sa_cons (se_nm (pv 11)) sa_nil))))))))))))) (sb_one (ss_ret (sg_e (se_tupW (sa_cons (se_len rfl z_len (so_sl (pv 5))) (sa_cons (se_tupc rfl z_tuple (so_sl (pv 6))) sa_nil)))))))))

/-! ### _law_come -/
-- slots: 0:_law_works_here 1:_law_name 2:_law_window 3:_law_many
def b_l_come : EM Fl :=
  (sSeq (sIf (tVal (bin (.sl 3) (.ex (lit (.int 0))) gtD)) (sRet (callM F_l_promise [.val (nm 0), .val (nm 1), .val (nm 2), .val (nm 3), .val (nm 3)])) sNext) (sRet (gE (eTupW (aCons (lit (.int 1)) (aCons (eTupW (aCons (eTupW (aCons (lit (.int 0)) (aCons (lit (.int 0)) (aCons (frz (callM F_l_nothing [.val (nm 0)])) (aCons (bin (.ex (eTupW (aCons (lit (.int 0)) aNil))) (.ex (un1 (.ex (bin (.sl 0) (.ex (lit (.int 1))) idxD)) lenD)) mulD) aNil))))) aNil)) aNil))))))
def F_l_come : Fn := guardF (fnOf 4 0 b_l_come)
theorem sc_l_come : FnScope ["_law_works_here", "_law_name", "_law_window", "_law_many"] ["_law_works_here", "_law_name", "_law_window", "_law_many"] (defScope (top 31)) := ⟨rfl, rfl, rfl, by decide +kernel, rfl, by decide +kernel, by decide +kernel⟩
theorem df_l_come {P : Program} {w : World} {K : PySem.W.Frag} {mg : Str → Option Value} {base : Heap} {T : List (Addr × Str)} {f : Addr} {fd : FuncData} (F : Fun K "_law_come" "_law_come" (top 31) f fd) (gm : mg "_law_come" = some (.ref f)) (bi : Binds K fd ["_law_works_here", "_law_name", "_law_window", "_law_many"] []) 
    (D_l_promise : Df P w K mg base T false "_law_promise" 3 5 F_l_promise) (z_len : mg "len" = none) (D_l_nothing : Df P w K mg base T false "_law_nothing" 1 1 F_l_nothing) : Df P w K mg base T false "_law_come" 4 4 F_l_come :=
  df_of (k := 3) F sc_l_come gm bi rfl rfl fun cdv A outer s H E B W hB hr gk tk => by
    have sc_nd := sc_l_come.nd
    exact (sb_cons (ss_if (st_cmp op_gt od_gt (so_sl (pv 3)) (so_ex se_int)) (sb_one (ss_ret (sg_call (D_l_promise.to hB) (hr.mono (by decide)) (GOk.off _) rfl tk (ra_val (se_nm (pv 0)) (ra_val (se_nm (pv 1)) (ra_val (se_nm (pv 2)) (ra_val (se_nm (pv 3)) (ra_val (se_nm (pv 3)) ra_nil))))) rfl (by decide)))) sb_nil) (sb_one (ss_ret (sg_e (se_tupW (sa_cons se_int (sa_cons (se_tupW (sa_cons (se_tupW (sa_cons se_int (sa_cons se_int (sa_cons (se_frz (sg_call (D_l_nothing.to hB) (hr.mono (by decide)) (GOk.off _) rfl tk (ra_val (se_nm (pv 0)) ra_nil) rfl (by decide))) (sa_cons (se_bin op_mul3 od_mul (so_ex (se_tupW (sa_cons se_int sa_nil))) (so_ex (se_len rfl z_len (so_ex (se_idx ix_seq od_idx (so_sl (pv 0)) (so_ex se_int)))))) sa_nil))))) sa_nil)) sa_nil)))))))

/-! ### _law_are_promises_right -/
-- slots: 0:_law_bag_here 1:_law_works_here 2:_law_window 3:_law_name 4:_law_broken 5:_law_due 6:_law_again 7:_law_many 8:_law_size
def b_l_are_promises_right : EM Fl :=
  (sSeq (sFor (.nm 3) (iSrc (bin (.sl 1) (.ex (lit (.int 1))) idxD)) (sSeq (sSet 4 (callM F_l_take [.ref 0, .val (bin (.sl 2) (.ex (lit (.int 1))) addD)])) (sSeq (sSet 5 (gE (eTup (aCons (lit (.str "told")) (aCons (frz (callM F_l_promise [.val (nm 1), .val (nm 3), .val (nm 2), .val (lit (.int 0)), .val (nm 4)])) aNil))))) (sFor (.nm 6) (rng1 (lit (.int 2))) (sIf (tNotM (tVal (frz (callM F_l_alike [.val (heardM told tags (frz (callM F_at_most_broken [.val (nm 1), .val (nm 3), .val (nm 4), .val (nm 2)]))), .val (nm 5)])))) (sRet (gE (lit (.bool false)))) sNext))))) (sSeq (sFor (.nm 3) (iSrc (bin (.sl 1) (.ex (lit (.int 0))) idxD)) (sSeq (sSet 7 (callM F_l_one [.ref 0, .val (eLst (aCons (lit (.int 1)) (aCons (lit (.int 2)) (aCons (lit (.int 3)) (aCons (lit (.int 4)) (aCons (lit (.int 6)) (aCons (lit (.int 9)) (aCons (lit (.int 0)) aNil))))))))])) (sSeq (sSet 8 (gE (un1 (.ex (frz (callM F_l_histories [.val (nm 2), .val (bin (.sl 7) (.ex (lit (.int 1))) max2D), .val (nm 7)]))) lenD))) (sSeq (sSet 5 (gE (ifE (tVal (bin (.sl 8) (.ex (lit (.int 200))) gtD)) (eTup (aCons (lit (.str "many")) (aCons (lit (.int 200)) aNil))) (eTup (aCons (lit (.str "told")) (aCons (frz (callM F_l_come [.val (nm 1), .val (nm 3), .val (nm 2), .val (nm 7)])) aNil)))))) (sIf (tNotM (tVal (frz (callM F_l_alike [.val (heardM told tags (frz (callM F_at_most_come [.val (nm 1), .val (nm 3), .val (nm 7), .val (nm 2)]))), .val (nm 5)])))) (sRet (gE (lit (.bool false)))) sNext))))) (sRet (gE (lit (.bool true))))))
def F_l_are_promises_right : Fn := guardF (fnOf 3 6 b_l_are_promises_right)
theorem sc_l_are_promises_right : FnScope ["_law_bag_here", "_law_works_here", "_law_window", "_law_name", "_law_broken", "_law_due", "_law_again", "_law_many", "_law_size"] ["_law_bag_here", "_law_works_here", "_law_window"] (defScope (top 30)) := ⟨rfl, rfl, rfl, by decide +kernel, rfl, by decide +kernel, by decide +kernel⟩
theorem df_l_are_promises_right {P : Program} {w : World} {K : PySem.W.Frag} {mg : Str → Option Value} {base : Heap} {T : List (Addr × Str)} {f : Addr} {fd : FuncData} {c Pt : Addr} (F : FunP K "_law_are_promises_right" "_law_are_promises_right" (top 30) f fd fun v => v = .ref c) (gm : mg "_law_are_promises_right" = some (.ref f)) (bi : Binds K fd ["_law_bag_here", "_law_works_here", "_law_window"] []) {Ng : List Str} {cl : List Cl} (HF : HeardF P w K mg base "_law_heard" "_law_act" Ng told cl) (CO : ClsOk K mg tags cl) (TB : LamX.TabB base mg c Pt) (tm : (Pt, (envOfC "_law_are_promises_right" (defScope (top 30)) 0 0 .none).qual ++ "<lambda>") ∈ T) (tu : ∀ p ∈ T, p.1 = Pt → p.2 = (envOfC "_law_are_promises_right" (defScope (top 30)) 0 0 .none).qual ++ "<lambda>")
    (D_l_take : Df P w K mg base T false "_law_take" 1 2 F_l_take) (D_l_promise : Df P w K mg base T false "_law_promise" 3 5 F_l_promise) (z_range : mg "range" = none) (D_l_alike : Df P w K mg base T true "_law_alike" 1 2 F_l_alike) (D_at_most_broken : Df P w K mg base T false "at_most_broken" 5 4 F_at_most_broken) (D_l_one : Df P w K mg base T false "_law_one" 2 2 F_l_one) (z_len : mg "len" = none) (D_l_histories : Df P w K mg base T false "_law_histories" 2 3 F_l_histories) (z_max : mg "max" = none) (D_l_come : Df P w K mg base T false "_law_come" 4 4 F_l_come) (D_at_most_come : Df P w K mg base T false "at_most_come" 5 4 F_at_most_come) : Df P w K mg base T true "_law_are_promises_right" 8 3 F_l_are_promises_right :=
  df_ofC (k := 7) F sc_l_are_promises_right gm bi rfl rfl fun cdv hcd A outer s H E B W hB hr gk tk => by
    have sc_nd := sc_l_are_promises_right.nd
    subst hcd
    exact (sb_cons (ss_for (passes_of rfl) rfl (si_seq (se_idx ix_seq od_idx (so_sl (pv 1)) (so_ex se_int))) (st_nm (pg_name (i := 3) sc_nd rfl (by first | exact Or.inl rfl | exact Or.inr rfl))) (sb_cons (ss_set (fun te h => ps_set (i := 4) sc_nd rfl (by first | exact Or.inl rfl | exact Or.inr rfl) h) (sg_call (D_l_take.to hB) (hr.mono (by decide)) (GOk.off _) rfl tk (ra_ref (pv 0) (ra_val (se_bin op_add4 od_add (so_sl (pv 2)) (so_ex se_int)) ra_nil)) rfl (by decide))) (sb_cons (ss_set (fun te h => ps_set (i := 5) sc_nd rfl (by first | exact Or.inl rfl | exact Or.inr rfl) h) (sg_e (se_tup (sa_cons se_str (sa_cons (se_frz (sg_call (D_l_promise.to hB) (hr.mono (by decide)) (GOk.off _) rfl tk (ra_val (se_nm (pv 1)) (ra_val (se_nm (pv 3)) (ra_val (se_nm (pv 2)) (ra_val se_int (ra_val (se_nm (pv 4)) ra_nil))))) rfl (by decide))) sa_nil))))) (sb_one (ss_for (passes_of rfl) rfl (si_range1 rfl z_range se_int) (st_nm (pg_name (i := 6) sc_nd rfl (by first | exact Or.inl rfl | exact Or.inr rfl))) (sb_one (ss_if (st_not (st_val (se_frz (sg_call (D_l_alike.to hB) (hr.mono (by decide)) gk rfl tk (ra_val (se_heard (k := 5) HF CO rfl TB rfl (by rw [hB]; exact tm) (by rw [hB]; exact tu) (hr.mono (by decide)) (LamX.lamS_by (show LamX.lamSB (defScope (top 30)) _ = true by decide +kernel)) rfl (fun q cl pm cv ctv => rfl) (fun A1 outer1 s1 H1 E1 f1 c1 hr => (se_frz (sg_call (D_at_most_broken.to hB) (hr.mono (by decide)) (GOk.off _) rfl (takes_of rfl rfl rfl rfl) (ra_val (se_nm (pv 1)) (ra_val (se_nm (pv 3)) (ra_val (se_nm (pv 4)) (ra_val (se_nm (pv 2)) ra_nil)))) rfl (by decide))))) (ra_val (se_nm (pv 5)) ra_nil)) rfl (by decide))))) (sb_one (ss_ret (sg_e se_bool))) sb_nil))))))) (sb_cons (ss_for (passes_of rfl) rfl (si_seq (se_idx ix_seq od_idx (so_sl (pv 1)) (so_ex se_int))) (st_nm (pg_name (i := 3) sc_nd rfl (by first | exact Or.inl rfl | exact Or.inr rfl))) (sb_cons (ss_set (fun te h => ps_set (i := 7) sc_nd rfl (by first | exact Or.inl rfl | exact Or.inr rfl) h) (sg_call (D_l_one.to hB) (hr.mono (by decide)) (GOk.off _) rfl tk (ra_ref (pv 0) (ra_val (se_lst (sa_cons se_int (sa_cons se_int (sa_cons se_int (sa_cons se_int (sa_cons se_int (sa_cons se_int (sa_cons se_int sa_nil)))))))) ra_nil)) rfl (by decide))) (sb_cons (ss_set (fun te h => ps_set (i := 8) sc_nd rfl (by first | exact Or.inl rfl | exact Or.inr rfl) h) (sg_e (se_len rfl z_len (so_ex (se_frz (sg_call (D_l_histories.to hB) (hr.mono (by decide)) (GOk.off _) rfl tk (ra_val (se_nm (pv 2)) (ra_val (se_max2 rfl rfl z_max (so_sl (pv 7)) (so_ex se_int)) (ra_val (se_nm (pv 7)) ra_nil))) rfl (by decide))))))) (sb_cons (ss_set (fun te h => ps_set (i := 5) sc_nd rfl (by first | exact Or.inl rfl | exact Or.inr rfl) h) (sg_e (se_if (st_cmp op_gt od_gt (so_sl (pv 8)) (so_ex se_int)) (se_tup (sa_cons se_str (sa_cons se_int sa_nil))) (se_tup (sa_cons se_str (sa_cons (se_frz (sg_call (D_l_come.to hB) (hr.mono (by decide)) (GOk.off _) rfl tk (ra_val (se_nm (pv 1)) (ra_val (se_nm (pv 3)) (ra_val (se_nm (pv 2)) (ra_val (se_nm (pv 7)) ra_nil)))) rfl (by decide))) sa_nil)))))) (sb_one (ss_if (st_not (st_val (se_frz (sg_call (D_l_alike.to hB) (hr.mono (by decide)) gk rfl tk (ra_val (se_heard (k := 5) HF CO rfl TB rfl (by rw [hB]; exact tm) (by rw [hB]; exact tu) (hr.mono (by decide)) (LamX.lamS_by (show LamX.lamSB (defScope (top 30)) _ = true by decide +kernel)) rfl (fun q cl pm cv ctv => rfl) (fun A1 outer1 s1 H1 E1 f1 c1 hr => (se_frz (sg_call (D_at_most_come.to hB) (hr.mono (by decide)) (GOk.off _) rfl (takes_of rfl rfl rfl rfl) (ra_val (se_nm (pv 1)) (ra_val (se_nm (pv 3)) (ra_val (se_nm (pv 7)) (ra_val (se_nm (pv 2)) ra_nil)))) rfl (by decide))))) (ra_val (se_nm (pv 5)) ra_nil)) rfl (by decide))))) (sb_one (ss_ret (sg_e se_bool))) sb_nil)))))) (sb_one (ss_ret (sg_e se_bool)))))

/-! ### law -/
-- slots: 0:_law_script 1:_law_bag_here 2:_law_turn 3:_law_works_here 4:_law_odd 5:_law_acts 6:_law_due 7:_law_act
def b_law : EM Fl :=
  (sSeq (sSet 1 (callM F_l_bag [.ref 0])) (sSeq (sFor (.nm 2) (rng1 (lit (.int 4))) (sSeq (sSet 3 (callM F_l_works [.ref 1, .val (lit (.int 3)), .val (lit (.int 2)), .val (lit (.int 2))])) (sSeq (sIf (tNotM (tVal (frz (callM F_l_are_promises_right [.ref 1, .val (nm 3), .val (frz (callM F_l_one [.ref 1, .val (eLst (aCons (lit (.int 2)) (aCons (lit (.int 3)) (aCons (lit (.int 1)) (aCons (lit (.int 4)) (aCons (lit (.int 5)) (aCons (lit (.int 8)) (aCons (lit (.int 6)) aNil))))))))]))])))) (sRet (gE (lit (.bool false)))) sNext) (sSeq (sSet 4 (callM F_l_one [.ref 1, .val (eLst (aCons (lit .none) (aCons (lit (.str "")) (aCons (lit (.str "nobody")) (aCons (lit (.int 0)) (aCons (eLst (aCons (bin (.ex (bin (.sl 3) (.ex (lit (.int 0))) idxD)) (.ex (lit (.int 0))) idxD) aNil)) (aCons (eSl (.ex (bin (.sl 3) (.ex (lit (.int 0))) idxD)) none (some (lit (.int 1)))) (aCons (lit (.dict [])) (aCons (lit (.bool true)) aNil)))))))))])) (sActs 5 105 (sSeq (sSet 6 (gF (bnd (aCons (eTup (aCons (lit (.str "no name")) (aCons (nm 4) aNil))) (aCons (eTup (aCons (lit (.str "no name")) (aCons (nm 4) aNil))) (aCons (eTup (aCons (lit (.str "no name")) (aCons (bin (.ex (bin (.sl 3) (.ex (lit (.int 0))) idxD)) (.ex (lit (.int 0))) idxD) aNil))) aNil))) fun ds => if ds.length ≤ 16777216 then EM.ret ds else EM.stuck))) (sIf (tNotM (tVal (frz (callM F_l_alike [.val (eF (eActs 5 105 told tags [(frz (callM F_at_most_broken [.val (nm 3), .val (nm 4), .val (lit (.int 1)), .val (lit (.int 3))])), (frz (callM F_at_most_come [.val (nm 3), .val (nm 4), .val (lit (.int 9)), .val (lit (.int 8))])), (frz (callM F_at_most_broken [.val (nm 3), .val (bin (.ex (bin (.sl 3) (.ex (lit (.int 0))) idxD)) (.ex (lit (.int 0))) idxD), .val (lit (.int 0)), .val (lit (.int 1))]))])), .val (nm 6)])))) (sRet (gE (lit (.bool false)))) sNext))))))) (sRet (gE (lit (.bool true))))))
def F_law : Fn := guardF (fnOf 1 7 b_law)
theorem sc_law : FnScope ["_law_script", "_law_bag_here", "_law_turn", "_law_works_here", "_law_odd", "_law_acts", "_law_due", "_law_act"] ["_law_script"] (defScope (top 32)) := ⟨rfl, rfl, rfl, by decide +kernel, rfl, by decide +kernel, by decide +kernel⟩
theorem df_law {P : Program} {w : World} {K : PySem.W.Frag} {mg : Str → Option Value} {base : Heap} {T : List (Addr × Str)} {f : Addr} {fd : FuncData} {c Pt : Addr} (F : FunP K "law" "law" (top 32) f fd fun v => v = .ref c) (gm : mg "law" = some (.ref f)) (bi : Binds K fd ["_law_script"] []) {Ng : List Str} {cl : List Cl} (HF : HeardF P w K mg base "_law_heard" "_law_act" Ng told cl) (CO : ClsOk K mg tags cl) (TB : LamX.TabB base mg c Pt) (tm : (Pt, (envOfC "law" (defScope (top 32)) 0 0 .none).qual ++ "<lambda>") ∈ T) (tu : ∀ p ∈ T, p.1 = Pt → p.2 = (envOfC "law" (defScope (top 32)) 0 0 .none).qual ++ "<lambda>")
    (D_l_bag : Df P w K mg base T false "_law_bag" 1 1 F_l_bag) (z_range : mg "range" = none) (D_l_works : Df P w K mg base T false "_law_works" 4 4 F_l_works) (D_l_are_promises_right : Df P w K mg base T true "_law_are_promises_right" 8 3 F_l_are_promises_right) (D_l_one : Df P w K mg base T false "_law_one" 2 2 F_l_one) (D_at_most_broken : Df P w K mg base T false "at_most_broken" 5 4 F_at_most_broken) (D_at_most_come : Df P w K mg base T false "at_most_come" 5 4 F_at_most_come) (D_l_alike : Df P w K mg base T true "_law_alike" 1 2 F_l_alike) : Df P w K mg base T true "law" 11 1 F_law :=
  df_ofC (k := 10) F sc_law gm bi rfl rfl fun cdv hcd A outer s H E B W hB hr gk tk => by
    have sc_nd := sc_law.nd
    subst hcd
    exact (sb_cons (ss_set (fun te h => ps_set (i := 1) sc_nd rfl (by first | exact Or.inl rfl | exact Or.inr rfl) h) (sg_call (D_l_bag.to hB) (hr.mono (by decide)) (GOk.off _) rfl tk (ra_ref (pv 0) ra_nil) rfl (by decide))) (sb_cons (ss_for (passes_of rfl) rfl (si_range1 rfl z_range se_int) (st_nm (pg_name (i := 2) sc_nd rfl (by first | exact Or.inl rfl | exact Or.inr rfl))) (sb_cons (ss_set (fun te h => ps_set (i := 3) sc_nd rfl (by first | exact Or.inl rfl | exact Or.inr rfl) h) (sg_call (D_l_works.to hB) (hr.mono (by decide)) (GOk.off _) rfl tk (ra_ref (pv 1) (ra_val se_int (ra_val se_int (ra_val se_int ra_nil)))) rfl (by decide))) (sb_cons (ss_if (st_not (st_val (se_frz (sg_call (D_l_are_promises_right.to hB) (hr.mono (by decide)) gk rfl tk (ra_ref (pv 1) (ra_val (se_nm (pv 3)) (ra_val (se_frz (sg_call (D_l_one.to hB) (hr.mono (by decide)) (GOk.off _) rfl tk (ra_ref (pv 1) (ra_val (se_lst (sa_cons se_int (sa_cons se_int (sa_cons se_int (sa_cons se_int (sa_cons se_int (sa_cons se_int (sa_cons se_int sa_nil)))))))) ra_nil)) rfl (by decide))) ra_nil))) rfl (by decide))))) (sb_one (ss_ret (sg_e se_bool))) sb_nil) (sb_cons (ss_set (fun te h => ps_set (i := 4) sc_nd rfl (by first | exact Or.inl rfl | exact Or.inr rfl) h) (sg_call (D_l_one.to hB) (hr.mono (by decide)) (GOk.off _) rfl tk (ra_ref (pv 1) (ra_val (se_lst (sa_cons se_none (sa_cons se_str (sa_cons se_str (sa_cons se_int (sa_cons (se_lst (sa_cons (se_idx ix_seq od_idx (so_ex (se_idx ix_seq od_idx (so_sl (pv 3)) (so_ex se_int))) (so_ex se_int)) sa_nil)) (sa_cons (se_slice (so_ex (se_idx ix_seq od_idx (so_sl (pv 3)) (so_ex se_int))) sp_none (sp_some se_int)) (sa_cons se_dnew (sa_cons se_bool sa_nil))))))))) ra_nil)) rfl (by decide))) (ss_acts (i := 5) (t := 105) hB TB rfl tm tu sc_nd rfl rfl (fun pos => pv 5) tk (.app (.mk rfl rfl rfl rfl) (.app (.mk rfl rfl rfl rfl) .done)) (.cons rfl (LamX.lamS_by (show LamX.lamSB (defScope (top 32)) _ = true by decide +kernel)) (.cons rfl (LamX.lamS_by (show LamX.lamSB (defScope (top 32)) _ = true by decide +kernel)) (.cons rfl (LamX.lamS_by (show LamX.lamSB (defScope (top 32)) _ = true by decide +kernel)) .nil))) (by decide) rfl (fun pn B hB KA tk => (sb_cons (ss_set (fun te h => ps_set (i := 6) sc_nd rfl (by first | exact Or.inl rfl | exact Or.inr rfl) h) (sg_f (sf_lst (sa_cons (se_tup (sa_cons se_str (sa_cons (se_nm (pv 4)) sa_nil))) (sa_cons (se_tup (sa_cons se_str (sa_cons (se_nm (pv 4)) sa_nil))) (sa_cons (se_tup (sa_cons se_str (sa_cons (se_idx ix_seq od_idx (so_ex (se_idx ix_seq od_idx (so_sl (pv 3)) (so_ex se_int))) (so_ex se_int)) sa_nil))) sa_nil)))))) (sb_one (ss_if (st_not (st_val (se_frz (sg_call (D_l_alike.to hB) (hr.mono (by decide)) gk rfl tk (ra_val (se_f (sf_acts (i := 5) (t := 105) (j := 7) (k := 5) HF CO KA rfl sc_nd (fun q => pv 5) (blkOk_by (by rfl)) rfl (fun s H C cl fp => pg_name (i := 7) sc_nd rfl (by first | exact Or.inl rfl | exact Or.inr rfl)) (fun s H C cl fp => pv 7) (fun s H C cl fp => rfl) (hr.mono (by decide)) (.cons ⟨(LamX.lamS_by (show LamX.lamSB (defScope (top 32)) _ = true by decide +kernel)), fun q cl pm cv ctv => rfl, fun A1 outer1 s1 H1 E1 f1 c1 hr => (se_frz (sg_call (D_at_most_broken.to hB) (hr.mono (by decide)) (GOk.off _) rfl (takes_of rfl rfl rfl rfl) (ra_val (se_nm (pv 3)) (ra_val (se_nm (pv 4)) (ra_val se_int (ra_val se_int ra_nil)))) rfl (by decide)))⟩ (.cons ⟨(LamX.lamS_by (show LamX.lamSB (defScope (top 32)) _ = true by decide +kernel)), fun q cl pm cv ctv => rfl, fun A1 outer1 s1 H1 E1 f1 c1 hr => (se_frz (sg_call (D_at_most_come.to hB) (hr.mono (by decide)) (GOk.off _) rfl (takes_of rfl rfl rfl rfl) (ra_val (se_nm (pv 3)) (ra_val (se_nm (pv 4)) (ra_val se_int (ra_val se_int ra_nil)))) rfl (by decide)))⟩ (.cons ⟨(LamX.lamS_by (show LamX.lamSB (defScope (top 32)) _ = true by decide +kernel)), fun q cl pm cv ctv => rfl, fun A1 outer1 s1 H1 E1 f1 c1 hr => (se_frz (sg_call (D_at_most_broken.to hB) (hr.mono (by decide)) (GOk.off _) rfl (takes_of rfl rfl rfl rfl) (ra_val (se_nm (pv 3)) (ra_val (se_idx ix_seq od_idx (so_ex (se_idx ix_seq od_idx (so_sl (pv 3)) (so_ex se_int))) (so_ex se_int)) (ra_val se_int (ra_val se_int ra_nil)))) rfl (by decide)))⟩ .nil))))) (ra_val (se_nm (pv 6)) ra_nil)) rfl (by decide))))) (sb_one (ss_ret (sg_e se_bool))) sb_nil))))))))) (sb_one (ss_ret (sg_e se_bool)))))

/-! ### the head -/
abbrev R : PySem.W.OpenRow := PySem.W.OpenLaw.row PySem.Challenge.rw_neverheaps_k84_promises_as_senders
def d_place_in : He.DefD := ⟨("place_in", none), "place_in", "place_in", defArgs (top 5), defBody (top 5), defScope (top 5), [], []⟩
def d_kind_place : He.DefD := ⟨("kind_place", none), "kind_place", "kind_place", defArgs (top 6), defBody (top 6), defScope (top 6), [], []⟩
def d_hand_place : He.DefD := ⟨("hand_place", none), "hand_place", "hand_place", defArgs (top 7), defBody (top 7), defScope (top 7), [], []⟩
def d_histories : He.DefD := ⟨("histories", none), "histories", "histories", defArgs (top 10), defBody (top 10), defScope (top 10), [], []⟩
def d_unit : He.DefD := ⟨("unit", none), "unit", "unit", defArgs (top 11), defBody (top 11), defScope (top 11), [], []⟩
def d_behind : He.DefD := ⟨("behind", none), "behind", "behind", defArgs (top 12), defBody (top 12), defScope (top 12), [], []⟩
def d_at_most_broken : He.DefD := ⟨("at_most_broken", none), "at_most_broken", "at_most_broken", defArgs (top 13), defBody (top 13), defScope (top 13), [], []⟩
def d_at_most_come : He.DefD := ⟨("at_most_come", none), "at_most_come", "at_most_come", defArgs (top 14), defBody (top 14), defScope (top 14), [], []⟩
def d_l_bag : He.DefD := ⟨("_law_bag", none), "_law_bag", "_law_bag", defArgs (top 16), defBody (top 16), defScope (top 16), [], []⟩
def d_l_take : He.DefD := ⟨("_law_take", none), "_law_take", "_law_take", defArgs (top 17), defBody (top 17), defScope (top 17), [], []⟩
def d_l_one : He.DefD := ⟨("_law_one", none), "_law_one", "_law_one", defArgs (top 18), defBody (top 18), defScope (top 18), [], []⟩
def d_l_mixed : He.DefD := ⟨("_law_mixed", none), "_law_mixed", "_law_mixed", defArgs (top 19), defBody (top 19), defScope (top 19), [], []⟩
def d_l_alike : He.DefD := ⟨("_law_alike", none), "_law_alike", "_law_alike", defArgs (top 20), defBody (top 20), defScope (top 20), [], []⟩
def d_l_flat : He.DefD := ⟨("_law_flat", none), "_law_flat", "_law_flat", defArgs (top 21), defBody (top 21), defScope (top 21), [], []⟩
def d_l_names : He.DefD := ⟨("_law_names", none), "_law_names", "_law_names", defArgs (top 22), defBody (top 22), defScope (top 22), [], []⟩
def d_l_recipe : He.DefD := ⟨("_law_recipe", none), "_law_recipe", "_law_recipe", defArgs (top 23), defBody (top 23), defScope (top 23), [], []⟩
def d_l_out : He.DefD := ⟨("_law_out", none), "_law_out", "_law_out", defArgs (top 24), defBody (top 24), defScope (top 24), [], []⟩
def d_l_works : He.DefD := ⟨("_law_works", none), "_law_works", "_law_works", defArgs (top 25), defBody (top 25), defScope (top 25), [], []⟩
def d_l_nothing : He.DefD := ⟨("_law_nothing", none), "_law_nothing", "_law_nothing", defArgs (top 26), defBody (top 26), defScope (top 26), [], []⟩
def d_l_histories : He.DefD := ⟨("_law_histories", none), "_law_histories", "_law_histories", defArgs (top 28), defBody (top 28), defScope (top 28), [], []⟩
def d_l_promise : He.DefD := ⟨("_law_promise", none), "_law_promise", "_law_promise", defArgs (top 29), defBody (top 29), defScope (top 29), [], []⟩
def d_l_come : He.DefD := ⟨("_law_come", none), "_law_come", "_law_come", defArgs (top 31), defBody (top 31), defScope (top 31), [], []⟩
def d_l_are_promises_right : He.DefD := ⟨("_law_are_promises_right", none), "_law_are_promises_right", "_law_are_promises_right", defArgs (top 30), defBody (top 30), defScope (top 30), [], []⟩
def d_law : He.DefD := ⟨("law", none), "law", "law", defArgs (top 32), defBody (top 32), defScope (top 32), [], []⟩
def d_l_heard : He.DefD := ⟨("_law_heard", none), "_law_heard", "_law_heard", defArgs (top 27), defBody (top 27), defScope (top 27), [], []⟩
def di_NoName : He.DefD := ⟨("NoName", some "__init__"), "__init__", "NoName.__init__", defArgs (inClass (top 2) 0), defBody (inClass (top 2) 0), defScope (inClass (top 2) 0), [], []⟩
def di_TooMany : He.DefD := ⟨("TooMany", some "__init__"), "__init__", "TooMany.__init__", defArgs (inClass (top 3) 0), defBody (inClass (top 3) 0), defScope (inClass (top 3) 0), [], []⟩
def dfs : List He.DefD := [d_place_in, d_kind_place, d_hand_place, d_histories, d_unit, d_behind, d_at_most_broken, d_at_most_come, d_l_bag, d_l_take, d_l_one, d_l_mixed, d_l_alike, d_l_flat, d_l_names, d_l_recipe, d_l_out, d_l_works, d_l_nothing, d_l_histories, d_l_promise, d_l_come, d_l_are_promises_right, d_law, d_l_heard, di_NoName, di_TooMany]
def fas : List He.Fa := [.glo "place_in", .glo "kind_place", .glo "hand_place", .glo "histories", .glo "unit", .glo "behind", .glo "at_most_broken", .glo "at_most_come", .glo "_law_bag", .glo "_law_take", .glo "_law_one", .glo "_law_mixed", .glo "_law_alike", .glo "_law_flat", .glo "_law_names", .glo "_law_recipe", .glo "_law_out", .glo "_law_works", .glo "_law_nothing", .glo "_law_histories", .glo "_law_promise", .glo "_law_come", .glo "_law_are_promises_right", .glo "law", .glo "_law_heard", .free "isinstance", .free "str", .free "range", .free "sum", .free "len", .int "MOST_HISTORIES" 200, .free "tuple", .free "enumerate", .free "int", .free "abs", .free "repr", .free "list", .free "min", .free "dict", .free "max"]
def tfs : List (He.Defn × Str) := [(("_law_are_promises_right", none), "_law_are_promises_right.<locals>.<lambda>"), (("law", none), "law.<locals>.<lambda>")]
def exB (K : PySem.W.Frag) : Bool := tabsN K tfs && (apartB K tags && (errB K "NoName" "name" && (errB K "TooMany" "most")))
theorem sci_NoName : FnScope ["self", "name"] ["self", "name"] (defScope (inClass (top 2) 0)) := ⟨rfl, rfl, rfl, by decide +kernel, rfl, by decide +kernel, by decide +kernel⟩
theorem sci_TooMany : FnScope ["self", "most"] ["self", "most"] (defScope (inClass (top 3) 0)) := ⟨rfl, rfl, rfl, by decide +kernel, rfl, by decide +kernel, by decide +kernel⟩
theorem sc_heard : FnScope ["_law_act", "error"] ["_law_act"] (defScope (top 27)) := ⟨rfl, rfl, rfl, by decide +kernel, rfl, by decide +kernel, by decide +kernel⟩
theorem heard_f {P : Program} {w : World} {K : PySem.W.Frag} {mg : Str → Option Value} {base : Heap} {g : Addr} {fd : FuncData} (F : Fun K "_law_heard" "_law_heard" (top 27) g fd) (gm : mg "_law_heard" = some (.ref g)) (bi : Binds K fd ["_law_act"] []) {C_TooMany : Addr} (T_TooMany : ErrC P w K mg base "TooMany" "most" C_TooMany) {C_NoName : Addr} (T_NoName : ErrC P w K mg base "NoName" "name" C_NoName) :
    HeardF P w K mg base "_law_heard" "_law_act" ["_law_act", "error"] told [(C_TooMany, "most", "many"), (C_NoName, "name", "no name")] := by
  obtain ⟨oc, od, kV, doc, pm, an, cdv, ct, osl, rfl, lk, hcd⟩ := F.ex
  refine ⟨⟨g, _, _, _, kV, doc, pm, cdv, ct, oc, an, od, osl, _, _, _, _, _, _, _, _, _, _, gm, F.kp, lk, hcd, bi, sc_heard, .inl rfl, fun X s H hP hw hK hm hb => ?_⟩, sc_heard.nd, rfl, fun f => rfl⟩
  subst hP hw hK hm hb
  exact (.cons ⟨rfl, by decide, .inl T_TooMany.gC⟩ rfl rfl (fun a oe cls d pn hz hf => pss_one (ps_ret (pe_tupF (pa_cons pe_str (pa_cons (pe_errF T_TooMany hz hf (pv 1)) pa_nil))))) (.cons ⟨rfl, by decide, .inl T_NoName.gC⟩ rfl rfl (fun a oe cls d pn hz hf => pss_one (ps_ret (pe_tupF (pa_cons pe_str (pa_cons (pe_errF T_NoName hz hf (pv 1)) pa_nil))))) .nil))
theorem facts {l : PySem.W.OpenLaw} {w : World} {K : PySem.W.Frag} {h : Heap} {mg : Str → Option Value} (X : K.In h) (G : h.Ns mainGlobals mg) (c : He.SaysX fas dfs [] (tfs.map (·.1)) exB w h K) : LawG l w K 11 "law" tfs F_law mg := by
  intro base KB GB TB
  have c0 := c.t.d
  have e0 := c.more
  obtain ⟨eT, e0⟩ := He.ba e0
  obtain ⟨eA, e0⟩ := He.ba e0
  obtain ⟨e_NoName, e0⟩ := He.ba e0
  have e_TooMany := e0
  obtain ⟨fd_place_in, K_place_in⟩ := c0.def_ 0 (d := d_place_in) rfl
  have g_place_in := He.glo_ok X G (c0.fact 0 (f := .glo "place_in") rfl)
  have b_place_in : Binds K fd_place_in ["names", "name"] [] := K_place_in.bindsN fun _ _ _ _ _ _ us hl => match us, hl with | [_, _], _ => rfl
  obtain ⟨fd_kind_place, K_kind_place⟩ := c0.def_ 1 (d := d_kind_place) rfl
  have g_kind_place := He.glo_ok X G (c0.fact 1 (f := .glo "kind_place") rfl)
  have b_kind_place : Binds K fd_kind_place ["works", "name"] [] := K_kind_place.bindsN fun _ _ _ _ _ _ us hl => match us, hl with | [_, _], _ => rfl
  obtain ⟨fd_hand_place, K_hand_place⟩ := c0.def_ 2 (d := d_hand_place) rfl
  have g_hand_place := He.glo_ok X G (c0.fact 2 (f := .glo "hand_place") rfl)
  have b_hand_place : Binds K fd_hand_place ["works", "name"] [] := K_hand_place.bindsN fun _ _ _ _ _ _ us hl => match us, hl with | [_, _], _ => rfl
  obtain ⟨fd_histories, K_histories⟩ := c0.def_ 3 (d := d_histories) rfl
  have g_histories := He.glo_ok X G (c0.fact 3 (f := .glo "histories") rfl)
  have b_histories : Binds K fd_histories ["size", "top", "most"] [] := K_histories.bindsN fun _ _ _ _ _ _ us hl => match us, hl with | [_, _, _], _ => rfl
  obtain ⟨fd_unit, K_unit⟩ := c0.def_ 4 (d := d_unit) rfl
  have g_unit := He.glo_ok X G (c0.fact 4 (f := .glo "unit") rfl)
  have b_unit : Binds K fd_unit ["row", "place", "many"] [] := K_unit.bindsN fun _ _ _ _ _ _ us hl => match us, hl with | [_, _, _], _ => rfl
  obtain ⟨fd_behind, K_behind⟩ := c0.def_ 5 (d := d_behind) rfl
  have g_behind := He.glo_ok X G (c0.fact 5 (f := .glo "behind") rfl)
  have b_behind : Binds K fd_behind ["history", "item"] [] := K_behind.bindsN fun _ _ _ _ _ _ us hl => match us, hl with | [_, _], _ => rfl
  obtain ⟨fd_at_most_broken, K_at_most_broken⟩ := c0.def_ 6 (d := d_at_most_broken) rfl
  have g_at_most_broken := He.glo_ok X G (c0.fact 6 (f := .glo "at_most_broken") rfl)
  have b_at_most_broken : Binds K fd_at_most_broken ["works", "name", "broken", "window"] [] := K_at_most_broken.bindsN fun _ _ _ _ _ _ us hl => match us, hl with | [_, _, _, _], _ => rfl
  obtain ⟨fd_at_most_come, K_at_most_come⟩ := c0.def_ 7 (d := d_at_most_come) rfl
  have g_at_most_come := He.glo_ok X G (c0.fact 7 (f := .glo "at_most_come") rfl)
  have b_at_most_come : Binds K fd_at_most_come ["works", "name", "many", "window"] [] := K_at_most_come.bindsN fun _ _ _ _ _ _ us hl => match us, hl with | [_, _, _, _], _ => rfl
  obtain ⟨fd_l_bag, K_l_bag⟩ := c0.def_ 8 (d := d_l_bag) rfl
  have g_l_bag := He.glo_ok X G (c0.fact 8 (f := .glo "_law_bag") rfl)
  have b_l_bag : Binds K fd_l_bag ["_law_script"] [] := K_l_bag.bindsN fun _ _ _ _ _ _ us hl => match us, hl with | [_], _ => rfl
  obtain ⟨fd_l_take, K_l_take⟩ := c0.def_ 9 (d := d_l_take) rfl
  have g_l_take := He.glo_ok X G (c0.fact 9 (f := .glo "_law_take") rfl)
  have b_l_take : Binds K fd_l_take ["_law_bag_here", "_law_many"] [] := K_l_take.bindsN fun _ _ _ _ _ _ us hl => match us, hl with | [_, _], _ => rfl
  obtain ⟨fd_l_one, K_l_one⟩ := c0.def_ 10 (d := d_l_one) rfl
  have g_l_one := He.glo_ok X G (c0.fact 10 (f := .glo "_law_one") rfl)
  have b_l_one : Binds K fd_l_one ["_law_bag_here", "_law_things"] [] := K_l_one.bindsN fun _ _ _ _ _ _ us hl => match us, hl with | [_, _], _ => rfl
  obtain ⟨fd_l_mixed, K_l_mixed⟩ := c0.def_ 11 (d := d_l_mixed) rfl
  have g_l_mixed := He.glo_ok X G (c0.fact 11 (f := .glo "_law_mixed") rfl)
  have b_l_mixed : Binds K fd_l_mixed ["_law_bag_here", "_law_things"] [] := K_l_mixed.bindsN fun _ _ _ _ _ _ us hl => match us, hl with | [_, _], _ => rfl
  obtain ⟨fd_l_alike, K_l_alike⟩ := c0.def_ 12 (d := d_l_alike) rfl
  have g_l_alike := He.glo_ok X G (c0.fact 12 (f := .glo "_law_alike") rfl)
  have b_l_alike : Binds K fd_l_alike ["_law_found", "_law_due"] [] := K_l_alike.bindsN fun _ _ _ _ _ _ us hl => match us, hl with | [_, _], _ => rfl
  obtain ⟨fd_l_flat, K_l_flat⟩ := c0.def_ 13 (d := d_l_flat) rfl
  have g_l_flat := He.glo_ok X G (c0.fact 13 (f := .glo "_law_flat") rfl)
  have b_l_flat : Binds K fd_l_flat ["_law_rows"] [] := K_l_flat.bindsN fun _ _ _ _ _ _ us hl => match us, hl with | [_], _ => rfl
  obtain ⟨fd_l_names, K_l_names⟩ := c0.def_ 14 (d := d_l_names) rfl
  have g_l_names := He.glo_ok X G (c0.fact 14 (f := .glo "_law_names") rfl)
  have b_l_names : Binds K fd_l_names ["_law_bag_here", "_law_many"] [] := K_l_names.bindsN fun _ _ _ _ _ _ us hl => match us, hl with | [_, _], _ => rfl
  obtain ⟨fd_l_recipe, K_l_recipe⟩ := c0.def_ 15 (d := d_l_recipe) rfl
  have g_l_recipe := He.glo_ok X G (c0.fact 15 (f := .glo "_law_recipe") rfl)
  have b_l_recipe : Binds K fd_l_recipe ["_law_bag_here", "_law_size", "_law_hands", "_law_most"] [] := K_l_recipe.bindsN fun _ _ _ _ _ _ us hl => match us, hl with | [_, _, _, _], _ => rfl
  obtain ⟨fd_l_out, K_l_out⟩ := c0.def_ 16 (d := d_l_out) rfl
  have g_l_out := He.glo_ok X G (c0.fact 16 (f := .glo "_law_out") rfl)
  have b_l_out : Binds K fd_l_out ["_law_bag_here", "_law_size", "_law_place", "_law_hands"] [] := K_l_out.bindsN fun _ _ _ _ _ _ us hl => match us, hl with | [_, _, _, _], _ => rfl
  obtain ⟨fd_l_works, K_l_works⟩ := c0.def_ 17 (d := d_l_works) rfl
  have g_l_works := He.glo_ok X G (c0.fact 17 (f := .glo "_law_works") rfl)
  have b_l_works : Binds K fd_l_works ["_law_bag_here", "_law_kinds", "_law_hands", "_law_recipes"] [] := K_l_works.bindsN fun _ _ _ _ _ _ us hl => match us, hl with | [_, _, _, _], _ => rfl
  obtain ⟨fd_l_nothing, K_l_nothing⟩ := c0.def_ 18 (d := d_l_nothing) rfl
  have g_l_nothing := He.glo_ok X G (c0.fact 18 (f := .glo "_law_nothing") rfl)
  have b_l_nothing : Binds K fd_l_nothing ["_law_works_here"] [] := K_l_nothing.bindsN fun _ _ _ _ _ _ us hl => match us, hl with | [_], _ => rfl
  obtain ⟨fd_l_histories, K_l_histories⟩ := c0.def_ 19 (d := d_l_histories) rfl
  have g_l_histories := He.glo_ok X G (c0.fact 19 (f := .glo "_law_histories") rfl)
  have b_l_histories : Binds K fd_l_histories ["_law_window", "_law_top", "_law_most"] [] := K_l_histories.bindsN fun _ _ _ _ _ _ us hl => match us, hl with | [_, _, _], _ => rfl
  obtain ⟨fd_l_promise, K_l_promise⟩ := c0.def_ 20 (d := d_l_promise) rfl
  have g_l_promise := He.glo_ok X G (c0.fact 20 (f := .glo "_law_promise") rfl)
  have b_l_promise : Binds K fd_l_promise ["_law_works_here", "_law_name", "_law_window", "_law_top", "_law_most"] [] := K_l_promise.bindsN fun _ _ _ _ _ _ us hl => match us, hl with | [_, _, _, _, _], _ => rfl
  obtain ⟨fd_l_come, K_l_come⟩ := c0.def_ 21 (d := d_l_come) rfl
  have g_l_come := He.glo_ok X G (c0.fact 21 (f := .glo "_law_come") rfl)
  have b_l_come : Binds K fd_l_come ["_law_works_here", "_law_name", "_law_window", "_law_many"] [] := K_l_come.bindsN fun _ _ _ _ _ _ us hl => match us, hl with | [_, _, _, _], _ => rfl
  obtain ⟨fd_l_are_promises_right, K_l_are_promises_right⟩ := c0.def_ 22 (d := d_l_are_promises_right) rfl
  have g_l_are_promises_right := He.glo_ok X G (c0.fact 22 (f := .glo "_law_are_promises_right") rfl)
  have b_l_are_promises_right : Binds K fd_l_are_promises_right ["_law_bag_here", "_law_works_here", "_law_window"] [] := K_l_are_promises_right.bindsN fun _ _ _ _ _ _ us hl => match us, hl with | [_, _, _], _ => rfl
  obtain ⟨fd_law, K_law⟩ := c0.def_ 23 (d := d_law) rfl
  have g_law := He.glo_ok X G (c0.fact 23 (f := .glo "law") rfl)
  have b_law : Binds K fd_law ["_law_script"] [] := K_law.bindsN fun _ _ _ _ _ _ us hl => match us, hl with | [_], _ => rfl
  obtain ⟨fd_l_heard, K_l_heard⟩ := c0.def_ 24 (d := d_l_heard) rfl
  have g_l_heard := He.glo_ok X G (c0.fact 24 (f := .glo "_law_heard") rfl)
  have b_l_heard : Binds K fd_l_heard ["_law_act"] [] := K_l_heard.bindsN fun _ _ _ _ _ _ us hl => match us, hl with | [_], _ => rfl
  have z_isinstance := He.free_ok X G (c0.fact 25 (f := .free "isinstance") rfl)
  have z_str := He.free_ok X G (c0.fact 26 (f := .free "str") rfl)
  have z_range := He.free_ok X G (c0.fact 27 (f := .free "range") rfl)
  have z_sum := He.free_ok X G (c0.fact 28 (f := .free "sum") rfl)
  have z_len := He.free_ok X G (c0.fact 29 (f := .free "len") rfl)
  obtain ⟨t_MOST_HISTORIES, n_MOST_HISTORIES⟩ := He.int_ok X G (c0.fact 30 (f := .int "MOST_HISTORIES" 200) rfl)
  have z_tuple := He.free_ok X G (c0.fact 31 (f := .free "tuple") rfl)
  have z_enumerate := He.free_ok X G (c0.fact 32 (f := .free "enumerate") rfl)
  have z_int := He.free_ok X G (c0.fact 33 (f := .free "int") rfl)
  have z_abs := He.free_ok X G (c0.fact 34 (f := .free "abs") rfl)
  have z_repr := He.free_ok X G (c0.fact 35 (f := .free "repr") rfl)
  have z_list := He.free_ok X G (c0.fact 36 (f := .free "list") rfl)
  have z_min := He.free_ok X G (c0.fact 37 (f := .free "min") rfl)
  have z_dict := He.free_ok X G (c0.fact 38 (f := .free "dict") rfl)
  have z_max := He.free_ok X G (c0.fact 39 (f := .free "max") rfl)
  obtain ⟨fdi_NoName, Ki_NoName⟩ := c0.def_ 25 (d := di_NoName) rfl
  have bi_NoName : Binds K fdi_NoName ["self", "name"] [] := Ki_NoName.bindsN fun _ _ _ _ _ _ us hl => match us, hl with | [_, _], _ => rfl
  have T_NoName : ErrC l.prog w K mg base "NoName" "name" (He.ga K "NoName") := errC_of X G e_NoName bi_NoName fun ox no => ini_ok (show Fun K "__init__" "NoName.__init__" (inClass (top 2) 0) _ _ from fun_of Ki_NoName) sci_NoName rfl (fun X h1 h2 => pv 0 (hN := by rw [h1]; rfl) (hv := by rw [h2]; exact .inl rfl)) (fun X h1 h2 => pv 1 (hN := by rw [h1]; rfl) (hv := by rw [h2]; exact .inl rfl)) (fun _ => rfl) ox no
  obtain ⟨fdi_TooMany, Ki_TooMany⟩ := c0.def_ 26 (d := di_TooMany) rfl
  have bi_TooMany : Binds K fdi_TooMany ["self", "most"] [] := Ki_TooMany.bindsN fun _ _ _ _ _ _ us hl => match us, hl with | [_, _], _ => rfl
  have T_TooMany : ErrC l.prog w K mg base "TooMany" "most" (He.ga K "TooMany") := errC_of X G e_TooMany bi_TooMany fun ox no => ini_ok (show Fun K "__init__" "TooMany.__init__" (inClass (top 3) 0) _ _ from fun_of Ki_TooMany) sci_TooMany rfl (fun X h1 h2 => pv 0 (hN := by rw [h1]; rfl) (hv := by rw [h2]; exact .inl rfl)) (fun X h1 h2 => pv 1 (hN := by rw [h1]; rfl) (hv := by rw [h2]; exact .inl rfl)) (fun _ => rfl) ox no
  have HF := heard_f (P := l.prog) (w := w) (base := base) (fun_of K_l_heard) g_l_heard b_l_heard T_TooMany T_NoName
  have CO : ClsOk K mg tags (clOf K tags) := clsOk_of eA fun t ht => by
    simp only [tags, List.mem_cons, List.not_mem_nil, or_false] at ht
    rcases ht with rfl | rfl
    · exact T_TooMany.gC
    · exact T_NoName.gC
  have D_place_in : Df l.prog w K mg base (tabsT K tfs) false "place_in" 3 2 F_place_in := df_place_in (fun_of K_place_in) g_place_in b_place_in z_isinstance z_str T_NoName
  have D_kind_place : Df l.prog w K mg base (tabsT K tfs) false "kind_place" 4 2 F_kind_place := df_kind_place (fun_of K_kind_place) g_kind_place b_kind_place D_place_in
  have D_hand_place : Df l.prog w K mg base (tabsT K tfs) false "hand_place" 4 2 F_hand_place := df_hand_place (fun_of K_hand_place) g_hand_place b_hand_place D_place_in
  have D_histories : Df l.prog w K mg base (tabsT K tfs) false "histories" 3 3 F_histories := df_histories (fun_of K_histories) g_histories b_histories z_range z_sum z_len n_MOST_HISTORIES T_TooMany
  have D_unit : Df l.prog w K mg base (tabsT K tfs) false "unit" 1 3 F_unit := df_unit (fun_of K_unit) g_unit b_unit z_tuple z_range z_len
  have D_behind : Df l.prog w K mg base (tabsT K tfs) false "behind" 1 2 F_behind := df_behind (fun_of K_behind) g_behind b_behind 
  have D_at_most_broken : Df l.prog w K mg base (tabsT K tfs) false "at_most_broken" 5 4 F_at_most_broken := df_at_most_broken (fun_of K_at_most_broken) g_at_most_broken b_at_most_broken D_hand_place D_histories z_len z_enumerate z_range z_int z_sum D_unit D_behind z_tuple
  have D_at_most_come : Df l.prog w K mg base (tabsT K tfs) false "at_most_come" 5 4 F_at_most_come := df_at_most_come (fun_of K_at_most_come) g_at_most_come b_at_most_come D_kind_place D_histories z_len z_enumerate z_range z_sum D_unit D_behind z_tuple
  have D_l_bag : Df l.prog w K mg base (tabsT K tfs) false "_law_bag" 1 1 F_l_bag := df_l_bag (fun_of K_l_bag) g_l_bag b_l_bag z_abs
  have D_l_take : Df l.prog w K mg base (tabsT K tfs) false "_law_take" 1 2 F_l_take := df_l_take (fun_of K_l_take) g_l_take b_l_take z_int
  have D_l_one : Df l.prog w K mg base (tabsT K tfs) false "_law_one" 2 2 F_l_one := df_l_one (fun_of K_l_one) g_l_one b_l_one D_l_take z_len
  have D_l_mixed : Df l.prog w K mg base (tabsT K tfs) false "_law_mixed" 2 2 F_l_mixed := df_l_mixed (fun_of K_l_mixed) g_l_mixed b_l_mixed D_l_take z_len
  have D_l_alike : Df l.prog w K mg base (tabsT K tfs) true "_law_alike" 1 2 F_l_alike := df_l_alike (fun_of K_l_alike) g_l_alike b_l_alike z_repr
  have D_l_flat : Df l.prog w K mg base (tabsT K tfs) false "_law_flat" 1 1 F_l_flat := df_l_flat (fun_of K_l_flat) g_l_flat b_l_flat 
  have D_l_names : Df l.prog w K mg base (tabsT K tfs) false "_law_names" 3 2 F_l_names := df_l_names (fun_of K_l_names) g_l_names b_l_names D_l_mixed
  have D_l_recipe : Df l.prog w K mg base (tabsT K tfs) false "_law_recipe" 3 4 F_l_recipe := df_l_recipe (fun_of K_l_recipe) g_l_recipe b_l_recipe D_l_take z_range D_l_one z_list z_tuple
  have D_l_out : Df l.prog w K mg base (tabsT K tfs) false "_law_out" 3 4 F_l_out := df_l_out (fun_of K_l_out) g_l_out b_l_out D_l_one z_list z_tuple
  have D_l_works : Df l.prog w K mg base (tabsT K tfs) false "_law_works" 4 4 F_l_works := df_l_works (fun_of K_l_works) g_l_works b_l_works D_l_names D_l_take z_tuple D_l_one z_range D_l_recipe D_l_out D_l_mixed
  have D_l_nothing : Df l.prog w K mg base (tabsT K tfs) false "_law_nothing" 1 1 F_l_nothing := df_l_nothing (fun_of K_l_nothing) g_l_nothing b_l_nothing z_len
  have D_l_histories : Df l.prog w K mg base (tabsT K tfs) false "_law_histories" 2 3 F_l_histories := df_l_histories (fun_of K_l_histories) g_l_histories b_l_histories z_range D_l_flat z_min z_sum
  have D_l_promise : Df l.prog w K mg base (tabsT K tfs) false "_law_promise" 3 5 F_l_promise := df_l_promise (fun_of K_l_promise) g_l_promise b_l_promise D_l_histories z_dict z_enumerate z_range z_min z_sum z_tuple z_len
  have D_l_come : Df l.prog w K mg base (tabsT K tfs) false "_law_come" 4 4 F_l_come := df_l_come (fun_of K_l_come) g_l_come b_l_come D_l_promise z_len D_l_nothing
  obtain ⟨tm_l_are_promises_right, tu_l_are_promises_right⟩ := tabs_u (d := ("_law_are_promises_right", none)) (q := "_law_are_promises_right.<locals>.<lambda>") eT (List.mem_of_getElem? (i := 0) rfl)
  have TB_l_are_promises_right := TB (("_law_are_promises_right", none), "_law_are_promises_right.<locals>.<lambda>") (List.mem_of_getElem? (i := 0) rfl)
  have D_l_are_promises_right : Df l.prog w K mg base (tabsT K tfs) true "_law_are_promises_right" 8 3 F_l_are_promises_right := df_l_are_promises_right (funC_of K_l_are_promises_right) g_l_are_promises_right b_l_are_promises_right HF CO TB_l_are_promises_right tm_l_are_promises_right tu_l_are_promises_right D_l_take D_l_promise z_range D_l_alike D_at_most_broken D_l_one z_len D_l_histories z_max D_l_come D_at_most_come
  obtain ⟨tm_law, tu_law⟩ := tabs_u (d := ("law", none)) (q := "law.<locals>.<lambda>") eT (List.mem_of_getElem? (i := 1) rfl)
  have TB_law := TB (("law", none), "law.<locals>.<lambda>") (List.mem_of_getElem? (i := 1) rfl)
  have D_law : Df l.prog w K mg base (tabsT K tfs) true "law" 11 1 F_law := df_law (funC_of K_law) g_law b_law HF CO TB_law tm_law tu_law D_l_bag z_range D_l_works D_l_are_promises_right D_l_one D_at_most_broken D_at_most_come D_l_alike
  exact D_law
abbrev hk : PySem.W.Hook := He.hookX 5 fas dfs [] (tfs.map (·.1)) exB
def ob (s : PySem.W.SharedT) : He.AlX := He.obsX 5 fas dfs [] (tfs.map (·.1)) exB (HandSHeadRun.getT s)
theorem ob_eq (s : PySem.W.SharedT) : ob s = hk.obs s.abs := He.obsX_eq (HandSHeadRun.getT_eq s)
def loose : List Str := (["HeapError", "NoName", "TooMany", "place_in", "kind_place", "hand_place", "MOST_HISTORIES", "histories", "unit", "behind", "at_most_broken", "at_most_come", "_law_bag", "_law_take", "_law_one", "_law_mixed", "_law_alike", "_law_flat", "_law_names", "_law_recipe", "_law_out", "_law_works", "_law_nothing", "_law_heard", "_law_histories", "_law_promise", "_law_are_promises_right", "_law_come"] : List Str)
theorem run (w : World) : HandSHeadRun.RunEq R (PySem.W.view R.prog [32]) hk ob 4000 loose w := by
  intro os
  kernel_rfl
end NH

namespace NH
open PySem Spec PyProof.Rows L2
open EM
local macro_rules | `(tactic| walk_at "vc") => `(tactic| try simp only [W_some, W_none, W_ret, oW_some, oW_none, W_bnd, Kn_ok, Kn_err, W_opt, W_stuck, W_ite, ite_F, oW_ite, W_raise, slot_zero, slot_succ, W_nm, nmW_fz, nmW_ow, W_bn, bnW_fz, bnW_ow, bnW_rf, W_chk, chkW_fz, chkW_ow, chkW_rf, chkW_ro, W_setSl, setW_un, setW_fz, setW_ow, W_own, ownW_fz, ownW_ow, mkSl_zero, mkSl_one, mkSl_two, W_lit, W_binEE, W_binES, W_binSE, W_binSS, W_un1E, W_un1S, W_tVal, W_boolOf, W_tNot, W_tAnd, W_tOr, W_tTruE, W_tTruS, W_ifE, W_andV, W_orV, W_notV, W_aNil, W_aCons, W_aStar, W_eTup, W_eTupW, W_eLst, W_partN, W_partS, W_intO, W_eSlE, W_eSlS, W_gE, W_gF, W_eF, W_frz, W_binFEE, W_binFES, W_unFE, W_unFS, W_iSrc, W_rng1, W_eEnum, W_eZip, lsW_ow, lsW_rf, upS_ow, upS_rf, W_hasL, W_getL, W_setL, W_eApp, W_eExt, W_eIns, W_ePop, W_ePopAt, W_sNext, W_sSet, W_sRet, W_sExpr, W_sSeq, Sk_next, Sk_ret, Sk_err, Sk_brk, Sk_cont, W_sIf, W_sAsg, W_sFor, W_sPut, W_sPutOp, fzW_fz, W_sAug, W_sRaise, W_sPar, W_gsNil, W_gsCons, W_setNil, W_setCons, W_asgN, W_asgT, W_asgsNil, W_asgsCons, W_argsNil, W_argsVal, W_argsRef, W_callM, W_callR, Ck_eq, mkA_nil, mkA_val, mkA_ref, argS_fz, argS_ow, argS_rf, argS_ro, backA_nil, backA_val, backA_ref, bakS_fz, bakS_ro, bakS_ow, bakS_rf, Fk_ret, Fk_next, Fk_err, finS_nil, finS_cons, fin1_fz, fin1_ro, fin1_rf, W_lcM, W_lcM2, W_compT, W_yes, clr_nil, clr_cons, rst_nil, rst_cons, W_eRo, roW_ro, W_eActs, knW_kn, W_seqNil, W_seqCons, W_isSeqL, seqW_fz, seqW_ow, seqW_rf, W_heard, Hk_ok, Hk_err, repF_l, catF_l, mul_li, mul_ti, add_tt, idx_l, idx_t, ixN_lit, pow_1018, atD_lit, atD_zero, atD_one, add_ii, add_ll, sub_ii, mul_ii, fdiv_ii, mod_ii, lt_ii, le_ii, gt_ii, ge_ii, eq_ii, eq_ss, ne_ii, isN, isNotN, isn_none, isn_int, isn_str, intT_i, intT_b, len_l, len_t, abs_i, tup_l, tup_t, items_l, items_t, lst_l, listF_l, listF_t, intD_i, slice_l, slice_t, addI_ii, subI_ii, neg_i, max2_ii, min2_ii, tru_l, tru_t, tru_i, List.set_cons_zero, List.set_cons_succ, List.getElem?_cons_zero, List.getElem?_cons_succ, List.length_cons, List.length_nil, Option.bind_some, Option.map_some, if_true, if_false, reduceIte, decide_eq_true_eq, Bool.not_eq_true', decide_eq_false_iff_not, Nat.zero_add, Nat.reduceAdd, Nat.reduceLT, Nat.reduceLeDiff, true_and, and_true, List.append_assoc, List.cons_append, List.nil_append, Bool.not_true, Bool.not_false, Bool.false_eq_true, List.replicate])
/-! ### the bag of draws -/
def bagD (a b c : Int) (cs : List Int) : D := .list [.int a, .int b, .int c, .list (cs.map PyData.int)]
structure BagOk (d : D) : Prop where
  ex : ∃ a b c cs, d = bagD a b c cs ∧ 0 ≤ a ∧ 0 ≤ b ∧ b < 2147483647 ∧ 0 ≤ c ∧ cs.length ≤ 63 ∧ ∀ v ∈ cs, 0 ≤ v
theorem cell_at (c : Int) (cs : List Int) (h : ∀ v ∈ cs, 0 ≤ v) (hl : cs.length ≤ 63) : ∃ v : Int, 0 ≤ v ∧ (cutD (cs.map PyData.int) (some c) none ++ [PyData.int 0])[0]? = some (.int v) ∧ (cutD (cs.map PyData.int) (some c) none).length ≤ 16777215 := by
  have e : cutD (cs.map PyData.int) (some c) none = (cs.drop (HT.sIx cs.length 0 (some c))).map PyData.int := by
    unfold cutD
    rw [List.length_map, HT.sIx_none, List.map_drop]
    exact List.take_of_length_le (by simp)
  rw [e]
  cases hd : cs.drop (HT.sIx cs.length 0 (some c)) with
  | nil => exact ⟨0, by omega, rfl, by simp⟩
  | cons v r =>
    refine ⟨v, h v (List.mem_of_mem_drop (hd ▸ List.mem_cons_self)), rfl, ?_⟩
    have := congrArg List.length hd
    rw [List.length_drop] at this
    rw [List.length_map]
    simp at this ⊢
    omega
theorem take_ok {b : D} {many : Int} (hb : BagOk b) (hm : 0 < many) (hm2 : many < 1000000) {G : Except Exn (Nat × D) → Env' → Prop} (k : ∀ b' v, BagOk b' → 0 ≤ v → v < many → G (.ok (0, .int v)) [.rf 0 1 b', .fz (.int many)]) : W (F_l_take [.rf 0 1 b, .fz (.int many)]) G := by
  obtain ⟨a, b0, c, cs, rfl, ha, hb0, hb1, hc, hl, hv⟩ := hb.ex
  have h1 : many ≠ 0 := by omega
  have h2 : many.natAbs < 1073741824 := by omega
  have fm : ∀ x : Int, 0 ≤ x.fmod many ∧ x.fmod many < many := fun x => ⟨Int.fmod_nonneg_of_pos _ hm, Int.fmod_lt_of_pos _ hm⟩
  have fd : ∀ x : Int, 0 ≤ x → 0 ≤ x.fdiv many := fun x hx => Int.fdiv_nonneg hx (by omega)
  have fM : ∀ x : Int, 0 ≤ x.fmod 2147483647 ∧ x.fmod 2147483647 < 2147483647 := fun x => ⟨Int.fmod_nonneg_of_pos _ (by decide), Int.fmod_lt_of_pos _ (by decide)⟩
  have fB : ∀ x : Int, 0 ≤ x.fmod 1000000007 ∧ x.fmod 1000000007 < 1000000007 := fun x => ⟨Int.fmod_nonneg_of_pos _ (by decide), Int.fmod_lt_of_pos _ (by decide)⟩
  have fC : ∀ x : Int, 0 ≤ x.fmod 998244353 ∧ x.fmod 998244353 < 998244353 := fun x => ⟨Int.fmod_nonneg_of_pos _ (by decide), Int.fmod_lt_of_pos _ (by decide)⟩
  obtain ⟨v, v0, e1, e2⟩ := cell_at c cs hv hl
  refine W_fn rfl rfl ?_
  unfold b_l_take bagD
  by_cases h0 : a = 0
  · walk_at "vc"
    rw [if_pos h0]
    refine ⟨e2, ?_⟩
    rw [e1]
    walk_at "vc"
    have big : ∀ x : Int, (-2 ^ 64 < (x.fmod 1000000007) ∧ (x.fmod 1000000007) < 2 ^ 64 ∨ -2 ^ 64 < (x.fmod 1000000007) ∧ (x.fmod 1000000007) < 2 ^ 64) := fun x => by
      have := fB x
      exact .inl ⟨by omega, by omega⟩
    have tail : ∀ (a1 x y z u : Int), 0 ≤ a1 → 0 ≤ x.fmod 2147483647 → (if 0 < a1 then
        many ≠ 0 ∧ (many ≠ 0 ∧ many.natAbs < 1073741824) ∧ G (.ok (0, .int (a1.fmod many))) [.rf 0 1 (.list [.int (a1.fdiv many), .int (x.fmod 2147483647), .int (c + 1), .list (cs.map PyData.int)]), .fz (.int many)]
      else many ≠ 0 → G (.ok (0, .int (y.fmod many))) [.rf 0 1 (.list [.int a1, .int (x.fmod 2147483647), .int (c + 1), .list (cs.map PyData.int)]), .fz (.int many)]) := fun a1 x y z u h1' h2' => by
      split
      · exact ⟨h1, ⟨h1, h2⟩, k _ _ ⟨⟨_, _, _, cs, rfl, fd _ h1', (fM _).1, (fM _).2, by omega, hl, hv⟩⟩ (fm _).1 (fm _).2⟩
      · exact fun _ => k _ _ ⟨⟨_, _, _, cs, rfl, h1', (fM _).1, (fM _).2, by omega, hl, hv⟩⟩ (fm _).1 (fm _).2
    have l7 : (7 : Int) ≠ 0 ∧ Int.natAbs 7 < 1073741824 := by decide
    split
    · refine ⟨.inr (by decide), by decide, .inl (by decide), by decide, ?_⟩
      have q := tail v (b0 * 48271 + v.fmod 2147483647 + 7919 * (c + 1)) 0 0 0 v0 (fM _).1
      split
      · rename_i hp
        rw [if_pos hp] at q
        exact q
      · exact ⟨.inr (by decide), by decide, big _, by decide, .inr (by decide), by decide, l7, h1, k _ _ ⟨⟨_, _, _, cs, rfl, v0, (fM _).1, (fM _).2, by omega, hl, hv⟩⟩ (fm _).1 (fm _).2⟩
    · refine ⟨.inr (by decide), by decide, .inl (by decide), by decide, ?_⟩
      rw [if_neg (by omega)]
      exact ⟨.inr (by decide), by decide, big _, by decide, .inr (by decide), by decide, l7, h1, k _ _ ⟨⟨_, _, _, cs, rfl, ha, (fM _).1, (fM _).2, by omega, hl, hv⟩⟩ (fm _).1 (fm _).2⟩
  · have h00 : 0 < a := by omega
    walk_at "vc"
    rw [if_neg h0, if_pos h00]
    refine ⟨h1, ⟨h1, h2⟩, ?_⟩
    exact k _ _ ⟨⟨_, b0, c, cs, rfl, fd _ ha, hb0, hb1, hc, hl, hv⟩⟩ (fm _).1 (fm _).2
theorem bag_ok {ns : List Int} (hl : ns.length ≤ 63) {G : Except Exn (Nat × D) → Env' → Prop} (k : ∀ b, BagOk b → G (.ok (1, b)) [.ro 0 (.list (ns.map PyData.int))]) : W (F_l_bag [.ro 0 (.list (ns.map PyData.int))]) G := by
  refine W_fn rfl rfl ?_
  unfold b_l_bag
  walk_at "vc"
  have e : cutD (ns.map PyData.int) none (some 63) = (ns.take 63).map PyData.int := by
    unfold cutD
    rw [List.length_map]
    show ((ns.map PyData.int).drop 0).take (HT.sIx ns.length ns.length (some ((63 : Nat) : Int)) - 0) = _
    rw [HT.sIx_nat, List.drop_zero, Nat.sub_zero, ← List.map_take, List.take_of_length_le (i := min 63 ns.length) (by omega), List.take_of_length_le hl]
  rw [e]
  refine ⟨by simp; omega, ?_⟩
  refine W_lc_map (fun d => match d with | .int i => .int (if i < 0 then -i else i) | d => d) (fun d hd => ?_) ?_
  · obtain ⟨i, hi, rfl⟩ := List.mem_map.mp hd
    walk_at "vc"
  · walk_at "vc"
    rw [List.map_map]
    refine k _ ⟨0, 1234567891, 0, (ns.take 63).map fun i => if i < 0 then -i else i, ?_, by omega, by omega, by omega, by omega, ?_, ?_⟩
    · unfold bagD
      rw [List.map_map]
      rfl
    · rw [List.length_map]; exact List.length_take_le _ _
    · intro v hv
      obtain ⟨i, _, rfl⟩ := List.mem_map.mp hv
      split <;> omega
/-- one of some things -/
theorem one_ok {b : D} {ds : List D} (hb : BagOk b) (hd : ds ≠ []) (hs : ds.length < 1000000) {G : Except Exn (Nat × D) → Env' → Prop} (k : ∀ b' d, BagOk b' → d ∈ ds → G (.ok (0, d)) [.rf 0 1 b', .fz (.list ds)]) : W (F_l_one [.rf 0 1 b, .fz (.list ds)]) G := by
  refine W_fn rfl rfl ?_
  unfold b_l_one
  walk_at "vc"
  have hp : 0 < ds.length := List.length_pos_iff.mpr hd
  refine take_ok hb (by omega) (by omega) fun b' v hb' h0 h1 => ?_
  walk_at "vc"
  obtain ⟨n, rfl⟩ : ∃ n : Nat, v = n := ⟨v.toNat, by omega⟩
  rw [atD_nat, List.getElem?_eq_getElem (by omega), oW_some]
  walk_at "vc"
  exact k _ _ hb' (List.getElem_mem _)
theorem one_okT {b : D} {ds : List D} (hb : BagOk b) (hd : ds ≠ []) (hs : ds.length < 1000000) {G : Except Exn (Nat × D) → Env' → Prop} (k : ∀ b' d, BagOk b' → d ∈ ds → G (.ok (0, d)) [.rf 0 1 b', .fz (.tuple ds)]) : W (F_l_one [.rf 0 1 b, .fz (.tuple ds)]) G := by
  refine W_fn rfl rfl ?_
  unfold b_l_one
  walk_at "vc"
  have hp : 0 < ds.length := List.length_pos_iff.mpr hd
  refine take_ok hb (by omega) (by omega) fun b' v hb' h0 h1 => ?_
  walk_at "vc"
  obtain ⟨n, rfl⟩ : ∃ n : Nat, v = n := ⟨v.toNat, by omega⟩
  rw [atD_nat, List.getElem?_eq_getElem (by omega), oW_some]
  walk_at "vc"
  exact k _ _ hb' (List.getElem_mem _)
/-- the same, of a list of one's own -/
theorem one_okO {b : D} {ds : List D} (hb : BagOk b) (hd : ds ≠ []) (hs : ds.length < 1000000) {G : Except Exn (Nat × D) → Env' → Prop} (k : ∀ b' d, BagOk b' → d ∈ ds → G (.ok (0, d)) [.rf 0 1 b', .rf 1 1 (.list ds)]) : W (F_l_one [.rf 0 1 b, .rf 1 1 (.list ds)]) G := by
  refine W_fn rfl rfl ?_
  unfold b_l_one
  walk_at "vc"
  have hp : 0 < ds.length := List.length_pos_iff.mpr hd
  refine take_ok hb (by omega) (by omega) fun b' v hb' h0 h1 => ?_
  walk_at "vc"
  obtain ⟨n, rfl⟩ : ∃ n : Nat, v = n := ⟨v.toNat, by omega⟩
  rw [atD_nat, List.getElem?_eq_getElem (by omega), oW_some]
  walk_at "vc"
  exact k _ _ hb' (List.getElem_mem _)
/-- the things in another order -/
theorem mixed_ok {b : D} {ds : List D} (hb : BagOk b) (hs : ds.length < 1000000) {G : Except Exn (Nat × D) → Env' → Prop} (k : ∀ b' es, BagOk b' → es.Perm ds → G (.ok (1, .list es)) [.rf 0 1 b', .fz (.list ds)]) : W (F_l_mixed [.rf 0 1 b, .fz (.list ds)]) G := by
  refine W_fn rfl rfl ?_
  unfold b_l_mixed
  walk_at "vc"
  refine W_for (fun rest ρ => ∃ b' es x, BagOk b' ∧ ρ = [.rf 0 1 b', .fz (.list ds), .ow 1 (.list es), x] ∧ (x = .un ∨ ∃ d, x = .fz d) ∧ (es ++ rest).Perm ds) ⟨b, [], .un, hb, rfl, .inl rfl, List.Perm.refl _⟩ (fun ρ h => ?_) fun d rest ρ h => ?_
  · obtain ⟨b', es, x, hb', rfl, hx, hp⟩ := h
    walk_at "vc"
    rw [List.append_nil] at hp
    exact k _ _ hb' hp
  · obtain ⟨b', es, x, hb', rfl, hx, hp⟩ := h
    have hlen : es.length + 1 ≤ ds.length := by
      have := hp.length_eq
      simp at this; omega
    have go : W (asgT (.nm 3) d [.rf 0 1 b', .fz (.list ds), .ow 1 (.list es), x]) = W (asgT (.nm 3) d [.rf 0 1 b', .fz (.list ds), .ow 1 (.list es), .un]) := by
      rcases hx with rfl | ⟨e, rfl⟩
      · rfl
      · funext Q
        walk_at "vc"
    rw [go]
    walk_at "vc"
    refine take_ok hb' (by omega) (by omega) fun b2 v hb2 h0 h1 => ?_
    walk_at "vc"
    obtain ⟨n, rfl⟩ : ∃ n : Nat, v = n := ⟨v.toNat, by omega⟩
    rw [fitI_nat (by omega), oW_some]
    walk_at "vc"
    refine ⟨?_, b2, _, .fz d, hb2, rfl, .inr ⟨d, rfl⟩, ?_⟩
    · simp; omega
    · refine List.Perm.trans ?_ hp
      have : (es.take n ++ d :: es.drop n).Perm (es ++ [d]) := by
        refine (List.perm_middle).trans ?_
        rw [List.take_append_drop]
        exact (List.perm_append_singleton d es).symm
      have e : es ++ d :: rest = (es ++ [d]) ++ rest := by simp
      rw [e]
      exact this.append_right rest

/-! ### drawn works -/
def menu : List Str := ["a", "b", "c", "d", "ab", "to", "by", "with", "kinds", "hands", "recipe", "run", "places", "arrow", "gym", "jvl", "zzzzzz", "x"]
def strsL (xs : List Str) : List D := xs.map PyData.str
def intsL (xs : List Int) : List D := xs.map PyData.int
def nameD : Option Str → D
  | none => .none
  | some x => .str x
def unstr : D → Str
  | .str x => x
  | _ => ""
theorem perm_strs {es : List D} {xs : List Str} (h : es.Perm (strsL xs)) : ∃ ys, es = strsL ys ∧ ys.Perm xs := by
  refine ⟨es.map unstr, ?_, ?_⟩
  · have : ∀ e ∈ es, PyData.str (unstr e) = e := fun e he => by
      obtain ⟨x, _, rfl⟩ := List.mem_map.mp (h.subset he)
      rfl
    unfold strsL
    rw [List.map_map]
    conv => lhs; rw [← List.map_id es]
    exact List.map_congr_left fun e he => (this e he).symm
  · have := h.map unstr
    unfold strsL at this
    rw [List.map_map] at this
    have e : (unstr ∘ PyData.str) = id := rfl
    rw [e, List.map_id] at this
    exact this
theorem strsL_length {xs : List Str} : (strsL xs).length = xs.length := List.length_map _
theorem intsL_length {xs : List Int} : (intsL xs).length = xs.length := List.length_map _
theorem cut_hi {ds : List D} {n : Nat} : cutD ds none (some (n : Int)) = ds.take n := by
  unfold cutD
  show (ds.drop 0).take (HT.sIx ds.length ds.length (some (n : Int)) - 0) = _
  rw [HT.sIx_nat, List.drop_zero, Nat.sub_zero]
  rcases Nat.le_total n ds.length with h | h
  · rw [Nat.min_eq_left h]
  · rw [Nat.min_eq_right h, List.take_of_length_le (by omega), List.take_of_length_le h]
theorem cut_lohi {ds : List D} {m n : Nat} : cutD ds (some (m : Int)) (some (n : Int)) = (ds.drop m).take (n - m) := by
  unfold cutD
  rw [HT.sIx_nat, HT.sIx_nat]
  rcases Nat.le_total m ds.length with h | h
  · rw [Nat.min_eq_left h]
    rcases Nat.le_total n ds.length with h2 | h2
    · rw [Nat.min_eq_left h2]
    · rw [Nat.min_eq_right h2]
      rw [List.take_of_length_le (by rw [List.length_drop]; omega), List.take_of_length_le (by rw [List.length_drop]; omega)]
  · rw [Nat.min_eq_right h, List.drop_eq_nil_of_le (Nat.le_refl _), List.drop_eq_nil_of_le h]; simp
theorem cut_lo {ds : List D} {m : Nat} : cutD ds (some (m : Int)) none = ds.drop m := by
  unfold cutD
  rw [HT.sIx_nat]
  show (ds.drop (min m ds.length)).take (ds.length - min m ds.length) = _
  rcases Nat.le_total m ds.length with h | h
  · rw [Nat.min_eq_left h, List.take_of_length_le (by rw [List.length_drop]; omega)]
  · rw [Nat.min_eq_right h, List.drop_eq_nil_of_le (Nat.le_refl _), List.drop_eq_nil_of_le h]; simp
theorem menu_nodup : menu.Nodup := by decide +kernel
theorem menu_ok : ∀ x ∈ menu, PyData.strOk x = true := by decide +kernel
theorem names_ok {b : D} {n : Nat} (hb : BagOk b) (hn : n ≤ 18) {G : Except Exn (Nat × D) → Env' → Prop}
    (k : ∀ b' xs, BagOk b' → xs.Nodup → (∀ x ∈ xs, x ∈ menu) → xs.length = n → G (.ok (0, .list (strsL xs))) [.rf 0 1 b', .fz (.int n)]) : W (F_l_names [.rf 0 1 b, .fz (.int n)]) G := by
  refine W_fn rfl rfl ?_
  unfold b_l_names
  walk_at "vc"
  refine mixed_ok hb (by decide) fun b' es hb' hp => ?_
  obtain ⟨ys, rfl, hy⟩ := perm_strs (xs := menu) hp
  walk_at "vc"
  rw [cut_hi]
  have e : (strsL ys).take n = strsL (ys.take n) := by unfold strsL; rw [List.map_take]
  rw [e]
  have hl : ys.length = 18 := hy.length_eq
  exact k _ _ hb' ((List.take_sublist n ys).nodup (hy.nodup_iff.mpr menu_nodup)) (fun x hx => hy.subset (List.mem_of_mem_take hx)) (by rw [List.length_take]; omega)
/-- a recipe of so many kinds, none of its numbers above top -/
structure RecOk (size : Nat) (hands : List Str) (top : Int) (d : D) : Prop where
  ex : ∃ (tk pt : List Int) (h : Option Str) (last : Nat), d = .tuple [.tuple (intsL tk), .tuple (intsL pt), nameD h] ∧ tk.length = size ∧ pt.length = size ∧ last < size ∧
    (∀ x ∈ tk, 0 ≤ x ∧ x ≤ top) ∧ (∀ x ∈ pt, 0 ≤ x ∧ x ≤ top) ∧ 0 < tk.getD last 0 ∧ (∀ j, last < j → tk.getD j 0 = 0) ∧ (∀ j, j ≤ last → pt.getD j 0 = 0) ∧ ∀ x, h = some x → x ∈ hands
theorem intsL_set {xs : List Int} {i : Nat} {v : Int} : (intsL xs).set i (.int v) = intsL (xs.set i v) := by unfold intsL; rw [List.map_set]
theorem intsL_rep {n : Nat} {v : Int} : List.replicate n (PyData.int v) = intsL (List.replicate n v) := by unfold intsL; rw [List.map_replicate]
theorem getD_set {xs : List Int} {i j : Nat} {v : Int} : (xs.set i v).getD j 0 = if i = j ∧ i < xs.length then v else xs.getD j 0 := by
  rw [List.getD_eq_getElem?_getD, List.getD_eq_getElem?_getD, List.getElem?_set]
  by_cases h : i = j
  · subst h
    by_cases h2 : i < xs.length
    · simp [h2]
    · simp [h2, List.getElem?_eq_none (Nat.le_of_not_lt h2)]
  · simp [h]
theorem getD_rep {n j : Nat} {v : Int} : (List.replicate n v).getD j 0 = if j < n then v else 0 := by
  rw [List.getD_eq_getElem?_getD, List.getElem?_replicate]
  split <;> rfl
theorem hand_of {xs : List Str} {k : Int} {d : D} (h : d ∈ rep k (strsL xs) ++ [PyData.none]) : ∃ o, d = nameD o ∧ ∀ x, o = some x → x ∈ xs := by
  rcases List.mem_append.mp h with h | h
  · obtain ⟨x, hx, rfl⟩ := List.mem_map.mp (mem_rep h)
    exact ⟨some x, rfl, fun y e => by cases e; exact hx⟩
  · rw [List.mem_singleton.mp h]
    exact ⟨none, rfl, fun y e => by cases e⟩
theorem recipe_ok {b : D} {size most : Nat} {hands : List Str} (hb : BagOk b) (hs : 0 < size) (hs2 : size ≤ 100) (hm : 0 < most) (hm2 : most ≤ 100) (hh : hands.length ≤ 100) {G : Except Exn (Nat × D) → Env' → Prop}
    (k : ∀ b' d, BagOk b' → RecOk size hands (most + 1) d → G (.ok (0, d)) [.rf 0 1 b', .fz (.int size), .fz (.tuple (strsL hands)), .fz (.int most)]) : W (F_l_recipe [.rf 0 1 b, .fz (.int size), .fz (.tuple (strsL hands)), .fz (.int most)]) G := by
  refine W_fn rfl rfl ?_
  unfold b_l_recipe
  walk_at "vc"
  refine take_ok hb (by omega) (by omega) fun b1 last0 hb1 l0 l1 => ?_
  obtain ⟨last, rfl⟩ : ∃ n : Nat, last0 = n := ⟨last0.toNat, by omega⟩
  walk_at "vc"
  refine take_ok hb1 (by omega) (by omega) fun b2 m1 hb2 m0 m2 => ?_
  walk_at "vc"
  refine ⟨⟨by omega, by omega, by omega⟩, ⟨by omega, by omega, by omega⟩, ⟨by omega, by omega⟩, ?_⟩
  rw [Int.toNat_natCast, rep_one, intsL_rep]
  have hmenu : ∀ d ∈ [PyData.int 0, PyData.int 1, PyData.int 0, PyData.int (1 + m1)], ∃ v : Int, d = .int v ∧ 0 ≤ v ∧ v ≤ most + 1 := fun d hd => by
    simp only [List.mem_cons, List.not_mem_nil, or_false] at hd
    rcases hd with rfl | rfl | rfl | rfl
    · exact ⟨0, rfl, by omega, by omega⟩
    · exact ⟨1, rfl, by omega, by omega⟩
    · exact ⟨0, rfl, by omega, by omega⟩
    · exact ⟨_, rfl, by omega, by omega⟩
  refine W_forR (fun i ρ => ∃ b' s5 tk pt x8, BagOk b' ∧ ρ = [.rf 0 1 b', .fz (.int size), .fz (.tuple (strsL hands)), .fz (.int most), .fz (.int last), s5, .ow 1 (.list (intsL tk)), .ow 1 (.list (intsL pt)), x8] ∧
    Fz s5 (.list [PyData.int 0, PyData.int 1, PyData.int 0, PyData.int (1 + m1)]) ∧ Lo x8 ∧ tk.length = size ∧ pt.length = size ∧ (∀ x ∈ tk, 0 ≤ x ∧ x ≤ most + 1) ∧ (∀ x ∈ pt, 0 ≤ x ∧ x ≤ most + 1) ∧ (∀ j, last ≤ j → tk.getD j 0 = 0) ∧ (∀ j, j ≤ last → pt.getD j 0 = 0))
    ⟨b2, _, List.replicate size 0, List.replicate size 0, _, hb2, rfl, .ow, .un, by simp, by simp, ?_, ?_, fun j _ => by rw [getD_rep]; split <;> rfl, fun j _ => by rw [getD_rep]; split <;> rfl⟩ (fun ρ h => ?_) fun i ρ hi h => ?_
  · intro x hx
    rw [(List.mem_replicate.mp hx).2]; omega
  · intro x hx
    rw [(List.mem_replicate.mp hx).2]; omega
  · obtain ⟨b', s5, tk, pt, x8, hb', rfl, h5, h8, lt, lp, bt, bp, zt, zp⟩ := h
    walk_at "vc"
    refine take_ok hb' (by omega) (by omega) fun b3 m3 hb3 m30 m31 => ?_
    walk_at "vc"
    refine one_ok hb3 (by simp) (by simp) fun b4 d4 hb4 hd4 => ?_
    obtain ⟨v4, rfl, v40, v41⟩ : ∃ v : Int, d4 = .int v ∧ 0 < v ∧ v ≤ most + 1 := by
      simp only [List.mem_cons, List.not_mem_nil, or_false] at hd4
      rcases hd4 with rfl | rfl | rfl | rfl | rfl
      · exact ⟨1, rfl, by omega, by omega⟩
      · exact ⟨1, rfl, by omega, by omega⟩
      · exact ⟨1, rfl, by omega, by omega⟩
      · exact ⟨2, rfl, by omega, by omega⟩
      · exact ⟨_, rfl, by omega, by omega⟩
    walk_at "vc"
    rw [intsL_length, ixN_nat (by omega), oW_some, intsL_set]
    walk_at "vc"
    refine ⟨by rw [intsL_length, List.length_set]; omega, ⟨by decide, by decide, by rw [strsL_length]; show hands.length * 2 ≤ _; omega⟩, by rw [rep_length, strsL_length]; show 2 * hands.length ≤ _; omega, ?_⟩
    refine one_ok hb4 (by simp) (by rw [List.length_append, rep_length, strsL_length]; show 2 * hands.length + 1 < _; omega) fun b5 d5 hb5 hd5 => ?_
    obtain ⟨o, rfl, ho⟩ := hand_of hd5
    walk_at "vc"
    refine ⟨by cases o <;> rfl, ?_⟩
    refine k _ _ hb5 ⟨tk.set last v4, pt, o, last, rfl, by rw [List.length_set]; exact lt, lp, by omega, fun x hx => ?_, bp, ?_, fun j hj => ?_, zp, ho⟩
    · rcases List.mem_or_eq_of_mem_set hx with h | h
      · exact bt x h
      · omega
    · rw [getD_set, if_pos ⟨rfl, by omega⟩]; exact v40
    · rw [getD_set, if_neg (by omega)]; exact zt j (by omega)
  · obtain ⟨b', s5, tk, pt, x8, hb', rfl, h5, h8, lt, lp, bt, bp, zt, zp⟩ := h
    refine W_asg_lo h8 (by simp) ?_
    walk_at "vc"
    split
    · rename_i hil
      refine W_nm_fz h5 rfl ?_
      walk_at "vc"
      refine one_ok hb' (by simp) (by simp) fun b4 d4 hb4 hd4 => ?_
      obtain ⟨v, rfl, v0, v1⟩ := hmenu d4 hd4
      walk_at "vc"
      rw [intsL_length, ixN_nat (by omega), oW_some, intsL_set]
      walk_at "vc"
      refine ⟨by rw [intsL_length, List.length_set]; omega, b4, _, _, pt, _, hb4, rfl, .fz, .fz, by rw [List.length_set]; exact lt, lp, fun x hx => ?_, bp, fun j hj => ?_, zp⟩
      · rcases List.mem_or_eq_of_mem_set hx with h | h
        · exact bt x h
        · omega
      · rw [getD_set, if_neg (by omega)]; exact zt j hj
    · rename_i hil
      split
      · rename_i hgt
        walk_at "vc"
        refine take_ok hb' (by omega) (by omega) fun b3 m3 hb3 m30 m31 => ?_
        walk_at "vc"
        split
        · refine W_nm_fz h5 rfl ?_
          walk_at "vc"
          refine one_ok hb3 (by simp) (by simp) fun b4 d4 hb4 hd4 => ?_
          obtain ⟨v, rfl, v0, v1⟩ := hmenu d4 hd4
          walk_at "vc"
          rw [intsL_length, ixN_nat (by omega), oW_some, intsL_set]
          walk_at "vc"
          refine ⟨by rw [intsL_length, List.length_set]; omega, b4, _, tk, _, _, hb4, rfl, .fz, .fz, lt, by rw [List.length_set]; exact lp, bt, fun x hx => ?_, zt, fun j hj => ?_⟩
          · rcases List.mem_or_eq_of_mem_set hx with h | h
            · exact bp x h
            · omega
          · rw [getD_set, if_neg (by omega)]; exact zp j hj
        · exact ⟨b3, _, tk, pt, _, hb3, rfl, h5, .fz, lt, lp, bt, bp, zt, zp⟩
      · walk_at "vc"
        exact ⟨b', _, tk, pt, _, hb', rfl, h5, .fz, lt, lp, bt, bp, zt, zp⟩
theorem out_ok {b : D} {size place : Nat} {hands : List Str} (hb : BagOk b) (hp : place < size) (hs2 : size ≤ 100) (hh : hands.length ≤ 100) {G : Except Exn (Nat × D) → Env' → Prop}
    (k : ∀ b' d, BagOk b' → RecOk size hands 1 d → G (.ok (0, d)) [.rf 0 1 b', .fz (.int size), .fz (.int place), .fz (.tuple (strsL hands))]) : W (F_l_out [.rf 0 1 b, .fz (.int size), .fz (.int place), .fz (.tuple (strsL hands))]) G := by
  refine W_fn rfl rfl ?_
  unfold b_l_out
  walk_at "vc"
  refine ⟨⟨by omega, by omega, by omega⟩, ?_⟩
  rw [rep_one, intsL_rep, intsL_length, List.length_replicate, ixN_nat hp, oW_some, intsL_set]
  walk_at "vc"
  refine ⟨by rw [intsL_length, List.length_set, List.length_replicate]; omega, rfl, ⟨by omega, by omega, by omega, ?_⟩, ⟨by decide, by decide, by rw [strsL_length]; show hands.length * 3 ≤ _; omega⟩, by rw [rep_length, strsL_length]; show 3 * hands.length ≤ _; omega, ?_⟩
  · cases size <;> rfl
  refine one_ok hb (by simp) (by rw [List.length_append, rep_length, strsL_length]; show 3 * hands.length + 1 < _; omega) fun b5 d5 hb5 hd5 => ?_
  obtain ⟨o, rfl, ho⟩ := hand_of hd5
  walk_at "vc"
  refine ⟨by cases o <;> rfl, ?_⟩
  refine k _ _ hb5 ⟨(List.replicate size 0).set place 1, List.replicate size 0, o, place, rfl, by simp, by simp, hp, fun x hx => ?_, fun x hx => ?_, ?_, fun j hj => ?_, fun j hj => ?_, ho⟩
  · rcases List.mem_or_eq_of_mem_set hx with h | h
    · rw [(List.mem_replicate.mp h).2]; omega
    · omega
  · rw [(List.mem_replicate.mp hx).2]; omega
  · rw [getD_set, if_pos ⟨rfl, by simp; exact hp⟩]; omega
  · rw [getD_set, if_neg (by omega), getD_rep]; split <;> rfl
  · rw [getD_rep]; split <;> rfl
/-- a works: names of its kinds, of its hands, its recipes -/
structure WorksOk (kinds hands recs : Nat) (d : D) : Prop where
  ex : ∃ (ks hs : List Str) (rs : List D), d = .tuple [.tuple (strsL ks), .tuple (strsL hs), .tuple rs] ∧ 0 < ks.length ∧ ks.length ≤ kinds ∧ hs.length ≤ hands ∧ rs.length ≤ recs ∧ (ks ++ hs).Nodup ∧ (∀ x ∈ ks ++ hs, x ∈ menu) ∧
    ∀ r ∈ rs, RecOk ks.length hs 5 r
theorem RecOk.up {size : Nat} {hands : List Str} {t t' : Int} {d : D} (h : RecOk size hands t d) (ht : t ≤ t') : RecOk size hands t' d := by
  obtain ⟨tk, pt, o, last, e, l1, l2, l3, b1, b2, r⟩ := h.ex
  exact ⟨tk, pt, o, last, e, l1, l2, l3, fun x hx => ⟨(b1 x hx).1, Int.le_trans (b1 x hx).2 ht⟩, fun x hx => ⟨(b2 x hx).1, Int.le_trans (b2 x hx).2 ht⟩, r⟩
theorem RecOk.ly {size : Nat} {hands : List Str} {t : Int} {d : D} (h : RecOk size hands t d) (hm : ∀ x ∈ hands, x ∈ menu) : Ly 2 d := by
  obtain ⟨tk, pt, o, last, rfl, _, _, _, _, _, _, _, _, ho⟩ := h.ex
  refine Ly.tup fun d hd => ?_
  simp only [List.mem_cons, List.not_mem_nil, or_false] at hd
  rcases hd with rfl | rfl | rfl
  · exact Ly.intsT
  · exact Ly.intsT
  · cases o with
    | none => exact Ly.none.up (by omega)
    | some x => exact (Ly.str (menu_ok x (hm x (ho x rfl)))).up (by omega)
theorem works_ok {b : D} {kinds hands recs : Nat} (hb : BagOk b) (hk : 0 < kinds) (hk2 : kinds + hands ≤ 8) (hr : recs ≤ 8) {G : Except Exn (Nat × D) → Env' → Prop}
    (k : ∀ b' d, BagOk b' → WorksOk kinds hands recs d → G (.ok (0, d)) [.rf 0 1 b', .fz (.int kinds), .fz (.int hands), .fz (.int recs)]) : W (F_l_works [.rf 0 1 b, .fz (.int kinds), .fz (.int hands), .fz (.int recs)]) G := by
  refine W_fn rfl rfl ?_
  unfold b_l_works
  walk_at "vc"
  refine names_ok (n := 8) hb (by decide) fun b1 xs hb1 nd hm hl => ?_
  walk_at "vc"
  refine take_ok hb1 (by omega) (by omega) fun b2 s0 hb2 h20 h21 => ?_
  walk_at "vc"
  refine take_ok hb2 (by omega) (by omega) fun b3 m0 hb3 h30 h31 => ?_
  walk_at "vc"
  refine one_ok hb3 (by simp) (by simp) fun b4 d4 hb4 hd4 => ?_
  obtain ⟨most, rfl, mo0, mo1⟩ : ∃ v : Nat, d4 = .int v ∧ 0 < v ∧ v ≤ 4 := by
    simp only [List.mem_cons, List.not_mem_nil, or_false] at hd4
    rcases hd4 with rfl | rfl | rfl | rfl
    · exact ⟨1, rfl, by omega, by omega⟩
    · exact ⟨2, rfl, by omega, by omega⟩
    · exact ⟨2, rfl, by omega, by omega⟩
    · exact ⟨4, rfl, by omega, by omega⟩
  walk_at "vc"
  obtain ⟨s, rfl⟩ : ∃ n : Nat, s0 = n := ⟨s0.toNat, by omega⟩
  obtain ⟨m, rfl⟩ : ∃ n : Nat, m0 = n := ⟨m0.toNat, by omega⟩
  have es : (1 + (s : Int)) = ((1 + s : Nat) : Int) := by omega
  have em : (1 + (s : Int)) + (m : Int) = ((1 + s + m : Nat) : Int) := by omega
  rw [em, es, cut_lohi]
  generalize hsize : 1 + s = size
  have hs1 : 0 < size := by omega
  have hs2 : size ≤ kinds := by omega
  have ec : List.take (size + m - size) (List.drop size (strsL xs)) = strsL ((xs.drop size).take m) := by
    unfold strsL
    rw [← List.map_drop, ← List.map_take]
    congr 2
    omega
  rw [ec]
  generalize hcrew : (xs.drop size).take m = crew
  have hc : crew.length = m := by
    rw [← hcrew, List.length_take, List.length_drop]; omega
  refine take_ok hb4 (by omega) (by omega) fun b5 n5 hb5 h50 h51 => ?_
  obtain ⟨n5, rfl⟩ : ∃ n : Nat, n5 = n := ⟨n5.toNat, by omega⟩
  walk_at "vc"
  refine ⟨⟨by omega, by omega⟩, ?_⟩
  rw [Int.toNat_natCast]
  refine W_forR (fun i ρ => ∃ b' rs x10, BagOk b' ∧ ρ = [.rf 0 1 b', .fz (.int kinds), .fz (.int hands), .fz (.int recs), .fz (.list (strsL xs)), .fz (.int size), .fz (.int m), .fz (.tuple (strsL crew)), .ow 1 (.list rs), .fz (.int most), x10, .un] ∧
    Lo x10 ∧ rs.length = i ∧ ∀ r ∈ rs, RecOk size crew 5 r) ⟨b5, [], _, hb5, rfl, .un, rfl, fun r hr => by simp at hr⟩ (fun ρ h => ?_) fun i ρ hi h => ?_
  · obtain ⟨b', rs, x10, hb', rfl, h10, hl1, hrs⟩ := h
    walk_at "vc"
    refine ⟨⟨by omega, by omega⟩, ?_⟩
    rw [Int.toNat_natCast]
    refine W_forR (fun i ρ => ∃ b' rs x10 x11, BagOk b' ∧ ρ = [.rf 0 1 b', .fz (.int kinds), .fz (.int hands), .fz (.int recs), .fz (.list (strsL xs)), .fz (.int size), .fz (.int m), .fz (.tuple (strsL crew)), .ow 1 (.list rs), .fz (.int most), x10, x11] ∧
      Lo x10 ∧ Lo x11 ∧ rs.length ≤ n5 + i ∧ ∀ r ∈ rs, RecOk size crew 5 r) ⟨b', rs, _, _, hb', rfl, h10, .un, by omega, hrs⟩ (fun ρ h => ?_) fun i ρ hi h => ?_
    · obtain ⟨b2, rs2, y10, y11, hb2, rfl, g10, g11, hl2, hrs2⟩ := h
      walk_at "vc"
      have hcm : ∀ x ∈ crew, x ∈ menu := fun x hx => hm x (by rw [← hcrew] at hx; exact List.mem_of_mem_drop (List.mem_of_mem_take hx))
      rw [ne_lnil (fun d hd => (hrs2 d hd).ly hcm) (by omega), oW_some]
      -- the end, whatever was put behind
      have fin : ∀ (b3 : D) (rs3 : List D), BagOk b3 → rs3.length ≤ 20 → (∀ r ∈ rs3, RecOk size crew 5 r) → W (sRet (gE (eTupW (aCons (un1 (.ex (eSl (.sl 4) none (some (nm 5)))) tupD) (aCons (nm 7) (aCons (un1 (.ex (eSl (.ex (frz (callM F_l_mixed [.ref 0, .val (nm 8)]))) none (some (nm 3)))) tupD) aNil)))))
          [.rf 0 1 b3, .fz (.int kinds), .fz (.int hands), .fz (.int recs), .fz (.list (strsL xs)), .fz (.int size), .fz (.int m), .fz (.tuple (strsL crew)), .ow 1 (.list rs3), .fz (.int most), y10, y11]) (Fk [.rf 0 1 b, .fz (.int kinds), .fz (.int hands), .fz (.int recs)] G) := fun b3 rs3 hb3 hl3 hr3 => by
        walk_at "vc"
        refine mixed_ok hb3 (by omega) fun b4 es hb4 hp => ?_
        walk_at "vc"
        rw [cut_hi, cut_hi]
        refine ⟨rfl, ?_⟩
        have ek : (strsL xs).take size = strsL (xs.take size) := by unfold strsL; rw [List.map_take]
        rw [ek]
        have hkl : (xs.take size).length = size := by rw [List.length_take]; omega
        have hsub : (xs.take size ++ crew).Sublist xs := by
          have e : xs = xs.take size ++ xs.drop size := (List.take_append_drop size xs).symm
          rw [← hcrew]
          conv => rhs; rw [e]
          exact (List.Sublist.refl _).append (List.take_sublist m _)
        refine k _ _ hb4 ⟨xs.take size, crew, es.take recs, rfl, by omega, by omega, by omega, by rw [List.length_take]; omega, hsub.nodup nd, fun x hx => hm x (hsub.subset hx), fun r hr => ?_⟩
        rw [hkl]
        exact hr3 r (hp.subset (List.mem_of_mem_take hr))
      have hl20 : rs2.length ≤ 18 := by omega
      walk_at "vc"
      split
      · rename_i hne
        have hne' : rs2 ≠ [] := by
          intro z; rw [z] at hne; simp at hne
        refine take_ok hb2 (by omega) (by omega) fun b6 n6 hb6 h60 h61 => ?_
        walk_at "vc"
        split
        · refine one_okO hb6 hne' (by omega) fun b7 d7 hb7 hd7 => ?_
          walk_at "vc"
          refine ⟨by rw [List.length_append]; simp; omega, ?_⟩
          refine Eq.mp (by walk_at "vc") (fin b7 (rs2 ++ [d7]) hb7 (by simp; omega) fun r hr => ?_)
          rcases List.mem_append.mp hr with h | h
          · exact hrs2 r h
          · rw [List.mem_singleton.mp h]; exact hrs2 d7 hd7
        · exact Eq.mp (by walk_at "vc") (fin b6 rs2 hb6 (by omega) hrs2)
      · walk_at "vc"
        exact Eq.mp (by walk_at "vc") (fin b2 rs2 hb2 (by omega) hrs2)
    · obtain ⟨b2, rs2, y10, y11, hb2, rfl, g10, g11, hl2, hrs2⟩ := h
      refine W_asg_lo g11 (by simp) ?_
      walk_at "vc"
      refine take_ok hb2 (by omega) (by omega) fun b6 n6 hb6 h60 h61 => ?_
      walk_at "vc"
      split
      · refine out_ok (place := i) hb6 hi (by omega) (by omega) fun b7 d7 hb7 hd7 => ?_
        walk_at "vc"
        refine ⟨by rw [List.length_append]; simp; omega, b7, _, y10, _, hb7, rfl, g10, .fz, by rw [List.length_append]; simp; omega, fun r hr => ?_⟩
        rcases List.mem_append.mp hr with h | h
        · exact hrs2 r h
        · rw [List.mem_singleton.mp h]
          exact hd7.up (by omega)
      · exact ⟨b6, _, y10, _, hb6, rfl, g10, .fz, by omega, hrs2⟩
  · obtain ⟨b', rs, x10, hb', rfl, h10, hl1, hrs⟩ := h
    refine W_asg_lo h10 (by simp) ?_
    walk_at "vc"
    refine recipe_ok hb' hs1 (by omega) mo0 (by omega) (by omega) fun b6 d6 hb6 hd6 => ?_
    walk_at "vc"
    refine ⟨by rw [List.length_append]; simp; omega, b6, _, _, hb6, rfl, .fz, by rw [List.length_append]; simp; omega, fun r hr => ?_⟩
    rcases List.mem_append.mp hr with h | h
    · exact hrs r h
    · rw [List.mem_singleton.mp h]
      exact hd6.up (by omega)

/-! ### histories, plain -/
def hs (top most : Nat) : Nat → List (List Nat)
  | 0 => [[]]
  | n + 1 => (hs top most n).flatMap fun r => (List.range (min top (most - r.sum) + 1)).map fun i => r ++ [i]
theorem hs_mem {top most n : Nat} {r : List Nat} : r ∈ hs top most n ↔ r.length = n ∧ r.sum ≤ most ∧ ∀ x ∈ r, x ≤ top := by
  induction n generalizing r with
  | zero =>
    constructor
    · intro h
      rw [List.mem_singleton.mp h]
      exact ⟨rfl, by simp, fun x hx => by simp at hx⟩
    · intro ⟨h, _, _⟩
      rw [List.eq_nil_of_length_eq_zero h]
      exact List.mem_singleton.mpr rfl
  | succ n ih =>
    constructor
    · intro h
      obtain ⟨p, hp, h⟩ := List.mem_flatMap.mp h
      obtain ⟨i, hi, rfl⟩ := List.mem_map.mp h
      obtain ⟨h1, h2, h3⟩ := ih.mp hp
      have hi' := List.mem_range.mp hi
      refine ⟨by simp [h1], by simp; omega, fun x hx => ?_⟩
      rcases List.mem_append.mp hx with h | h
      · exact h3 x h
      · rw [List.mem_singleton.mp h]; omega
    · intro ⟨h1, h2, h3⟩
      have hne : r ≠ [] := by
        intro z; rw [z] at h1; simp at h1
      have e := List.dropLast_concat_getLast hne
      refine List.mem_flatMap.mpr ⟨r.dropLast, ih.mpr ⟨by rw [List.length_dropLast]; omega, ?_, fun x hx => h3 x (List.dropLast_subset r hx)⟩, List.mem_map.mpr ⟨r.getLast hne, List.mem_range.mpr ?_, e⟩⟩
      · have := congrArg List.sum e
        rw [List.sum_append] at this
        simp at this
        omega
      · have := congrArg List.sum e
        rw [List.sum_append] at this
        simp at this
        have := h3 _ (List.getLast_mem hne)
        omega
theorem hs_nodup {top most n : Nat} : (hs top most n).Nodup := by
  induction n with
  | zero => exact List.nodup_cons.mpr ⟨List.not_mem_nil, .nil⟩
  | succ n ih =>
    have go : ∀ l : List (List Nat), l.Nodup → (∀ r ∈ l, r.length = n) → (l.flatMap fun r => (List.range (min top (most - r.sum) + 1)).map fun i => r ++ [i]).Nodup := by
      intro l
      induction l with
      | nil => intro _ _; exact .nil
      | cons a l ihl =>
        intro nd hl
        obtain ⟨n1, n2⟩ := List.nodup_cons.mp nd
        rw [List.flatMap_cons]
        refine List.nodup_append.mpr ⟨?_, ihl n2 fun r hr => hl r (List.mem_cons_of_mem _ hr), ?_⟩
        · refine List.Pairwise.map _ ?_ List.nodup_range
          intro x y hxy e
          have := List.append_cancel_left e
          exact hxy (List.cons.inj this).1
        · intro x hx y hy e
          subst e
          obtain ⟨i, _, rfl⟩ := List.mem_map.mp hx
          obtain ⟨r, hr, hy⟩ := List.mem_flatMap.mp hy
          obtain ⟨j, _, e⟩ := List.mem_map.mp hy
          have el := List.append_inj_left' e rfl
          exact n1 (el ▸ hr)
    exact go _ ih fun r hr => (hs_mem.mp hr).1
theorem hs_len {top most n : Nat} : 1 ≤ (hs top most n).length ∧ (hs top most n).length ≤ (hs top most (n + 1)).length := by
  have go : ∀ l : List (List Nat), l.length ≤ (l.flatMap fun r => (List.range (min top (most - r.sum) + 1)).map fun i => r ++ [i]).length := by
    intro l
    induction l with
    | nil => simp
    | cons a l ih => rw [List.flatMap_cons, List.length_append, List.length_map, List.length_range, List.length_cons]; omega
  refine ⟨?_, go _⟩
  induction n with
  | zero => exact Nat.le_refl _
  | succ n ih => exact Nat.le_trans ih (go _)
theorem hs_le {top most n m : Nat} (h : n ≤ m) : (hs top most n).length ≤ (hs top most m).length := by
  induction m with
  | zero => rw [Nat.le_zero.mp h]; exact Nat.le_refl _
  | succ m ih =>
    rcases Nat.lt_or_eq_of_le h with h | h
    · exact Nat.le_trans (ih (by omega)) hs_len.2
    · rw [h]; exact Nat.le_refl _
theorem hs_pow {top most n : Nat} : (hs top most n).length ≤ (top + 1) ^ n := by
  induction n with
  | zero => exact Nat.le_refl _
  | succ n ih =>
    have go : ∀ l : List (List Nat), (l.flatMap fun r => (List.range (min top (most - r.sum) + 1)).map fun i => r ++ [i]).length ≤ l.length * (top + 1) := by
      intro l
      induction l with
      | nil => simp
      | cons a l ih => rw [List.flatMap_cons, List.length_append, List.length_map, List.length_range, List.length_cons, Nat.succ_mul]; omega
    exact Nat.le_trans (go _) (Nat.mul_le_mul_right _ ih)
def natsL (r : List Nat) : List D := r.map fun (i : Nat) => PyData.int (i : Int)
def rowD (r : List Nat) : D := .tuple (natsL r)
def rowsD (H : List (List Nat)) : List D := H.map rowD
theorem natsL_sum (r : List Nat) : intsD (natsL r) = some (r.map fun (i : Nat) => (i : Int)) ∧ ((r.map fun (i : Nat) => (i : Int)).sum) = ((r.sum : Nat) : Int) := by
  induction r with
  | nil => exact ⟨rfl, rfl⟩
  | cons a r ih =>
    refine ⟨?_, ?_⟩
    · show (intsD (natsL r)).map _ = _
      rw [ih.1]; rfl
    · simp only [List.map_cons, List.sum_cons, ih.2]
      omega
theorem sum_row (r : List Nat) : sumD (rowD r) = some (.int ((r.sum : Nat) : Int)) := by
  unfold sumD rowD
  rw [items_t, Option.bind_some, (natsL_sum r).1, Option.map_some, (natsL_sum r).2]
theorem natsL_strT (r : List Nat) : StrT (natsL r) = false := by
  cases r <;> rfl
theorem natsL_app (r s : List Nat) : natsL (r ++ s) = natsL r ++ natsL s := by unfold natsL; rw [List.map_append]
theorem natsL_len (r : List Nat) : (natsL r).length = r.length := List.length_map _
/-! ### the program's -/
theorem filter_range {n k : Nat} : (List.range n).filter (fun i => decide (i ≤ k)) = List.range (min n (k + 1)) := by
  induction n with
  | zero => simp
  | succ n ih =>
    rw [List.range_succ, List.filter_append, ih]
    by_cases h : n ≤ k
    · rw [Nat.min_eq_left (by omega), Nat.min_eq_left (by omega), List.range_succ]
      simp [h]
    · rw [show min n (k + 1) = min (n + 1) (k + 1) by omega]
      simp [h]
theorem fm_filter {α β : Type} (p : α → Prop) [DecidablePred p] (g : α → β) (l : List α) : l.filterMap (fun j => if p j then some (g j) else none) = (l.filter fun j => decide (p j)).map g := by
  induction l with
  | nil => rfl
  | cons a l ih =>
    by_cases h : p a
    · simp [h, ih]
    · simp [h, ih]
def stepD (top most : Nat) (r : List Nat) : List D := ((List.range (min top (most - r.sum) + 1)).map fun i => rowD (r ++ [i]))
theorem rows_succ {top most n : Nat} : rowsD (hs top most (n + 1)) = (hs top most n).flatMap (stepD top most) := by
  show List.map rowD (List.flatMap _ _) = _
  rw [List.map_flatMap]
  congr 1
  funext r
  rw [List.map_map]; rfl
theorem rowsD_len (H : List (List Nat)) : (rowsD H).length = H.length := List.length_map _
def stepF (most : Nat) (r : List Nat) : D → Option D
  | .int j => if (r.sum : Int) + j ≤ most then some (.tuple (natsL r ++ [.int j])) else none
  | _ => none
theorem stepF_int {most : Nat} {r : List Nat} {j : Int} : stepF most r (.int j) = if (r.sum : Int) + j ≤ most then some (.tuple (natsL r ++ [.int j])) else none := rfl
/-- the histories that the program tells, or that they are too many -/
def tooMany (n : Int) : Exn := ⟨"TooMany", [("most", .int n)]⟩
theorem hist_ok {size top most : Nat} (hs1 : size ≤ 100) (ht : top ≤ 100) (hm : most ≤ 100) {G : Except Exn (Nat × D) → Env' → Prop}
    (k : (hs top most size).length ≤ 200 → G (.ok (0, .list (rowsD (hs top most size)))) [.fz (.int size), .fz (.int top), .fz (.int most)])
    (kx : 200 < (hs top most size).length → G (.error (tooMany 200)) [.fz (.int size), .fz (.int top), .fz (.int most)]) : W (F_histories [.fz (.int size), .fz (.int top), .fz (.int most)]) G := by
  refine W_fn rfl rfl ?_
  unfold b_histories
  walk_at "vc"
  refine ⟨rfl, ⟨by omega, by omega⟩, ?_⟩
  rw [Int.toNat_natCast]
  refine W_forR (fun i ρ => ∃ s3 x4, ρ = [.fz (.int size), .fz (.int top), .fz (.int most), s3, x4, .un, .un] ∧ Fz s3 (.list (rowsD (hs top most i))) ∧ Lo x4 ∧ (hs top most i).length ≤ 200) ⟨_, _, rfl, .ow, .un, by show 1 ≤ 200; omega⟩ (fun ρ h => ?_) fun i ρ hi h => ?_
  · obtain ⟨s3, x4, rfl, h3, h4, hl⟩ := h
    walk_at "vc"
    refine W_nm_fz h3 rfl ?_
    walk_at "vc"
    exact k hl
  · obtain ⟨s3, x4, rfl, h3, h4, hl⟩ := h
    refine W_asg_lo h4 (by simp) ?_
    walk_at "vc"
    refine W_nm_fz h3 rfl ?_
    walk_at "vc"
    refine W_lc2 (fun rest acc ρ => ∃ p q, clr [5, 6] ρ = [.fz (.int size), .fz (.int top), .fz (.int most), .fz (.list (rowsD (hs top most i))), .fz (.int i), .un, .un] ∧ hs top most i = p ++ q ∧ rest = rowsD q ∧ acc = p.flatMap (stepD top most)) ⟨[], _, rfl, rfl, rfl, rfl⟩ (fun d rest acc ρ h => ?_) fun ys ρ h => ?_
    · obtain ⟨p, q, e1, e2, e3, rfl⟩ := h
      rw [e1]
      cases q with
      | nil => cases e3
      | cons r q =>
        obtain ⟨rfl, rfl⟩ := List.cons.inj e3
        have hr : r ∈ hs top most i := by rw [e2]; simp
        obtain ⟨r1, r2, r3⟩ := hs_mem.mp hr
        walk_at "vc"
        refine ⟨⟨by omega, by omega⟩, ?_⟩
        rw [show ((top : Int) + 1).toNat = top + 1 by omega]
        refine W_mono (W_compD_fm (stepF most r) fun d hd => ?_) fun ro ρ2 z => ?_
        · unfold rangeL at hd
          obtain ⟨j, hj, rfl⟩ := List.mem_map.mp hd
          have hj' := List.mem_range.mp hj
          walk_at "vc"
          rw [sum_row, oW_some]
          walk_at "vc"
          rw [stepF_int]
          by_cases hle : (r.sum : Int) + (0 + (j : Int)) ≤ most
          · rw [if_pos hle, if_pos hle]
            walk_at "vc"
            unfold rowD
            walk_at "vc"
            refine ⟨by simp [natsL_len]; omega, ?_⟩
            rw [show natsL r ++ [PyData.int (0 + (j : Int))] = natsL (r ++ [j]) by rw [natsL_app, Int.zero_add]; rfl]
            exact natsL_strT _
          · rw [if_neg hle, if_neg hle]
            walk_at "vc"
        · obtain ⟨rfl, z2⟩ := z
          refine ⟨_, rfl, p ++ [r], q, ?_, by rw [e2]; simp, rfl, ?_⟩
          · have z3 : ρ2.set 6 .un = _ := z2
            rw [z3]; rfl
          · have e4 : (rangeL 0 (top + 1)).filterMap (stepF most r) = stepD top most r := by
              unfold rangeL stepD
              rw [List.filterMap_map]
              have e5 : (stepF most r ∘ fun (i : Nat) => PyData.int (0 + (i : Int))) = fun (j : Nat) => if r.sum + j ≤ most then some (rowD (r ++ [j])) else none := by
                funext j
                show (if (r.sum : Int) + (0 + (j : Int)) ≤ most then some (PyData.tuple (natsL r ++ [.int (0 + (j : Int))])) else none) = _
                rw [Int.zero_add]
                by_cases h : r.sum + j ≤ most
                · rw [if_pos h, if_pos (by omega)]
                  unfold rowD
                  rw [natsL_app]; rfl
                · rw [if_neg h, if_neg (by omega)]
              rw [e5, fm_filter]
              congr 1
              have : (fun (j : Nat) => decide (r.sum + j ≤ most)) = fun j => decide (j ≤ most - r.sum) := by
                funext j
                exact decide_eq_decide.mpr (by omega)
              rw [this, filter_range]
              congr 1
              omega
            rw [e4, List.flatMap_append]
            simp
    · obtain ⟨p, q, e1, e2, e3, rfl⟩ := h
      have hq : q = [] := List.map_eq_nil_iff.mp e3.symm
      subst hq
      rw [List.append_nil] at e2
      rw [rst_of_clr (e1.trans (by rfl)), ← e2, ← rows_succ]
      walk_at "vc"
      rw [rowsD_len]
      have hp : (hs top most (i + 1)).length ≤ (hs top most i).length * (top + 1) := by
        have go : ∀ l : List (List Nat), (l.flatMap fun r => (List.range (min top (most - r.sum) + 1)).map fun i => r ++ [i]).length ≤ l.length * (top + 1) := by
          intro l
          induction l with
          | nil => simp
          | cons a l ih => rw [List.flatMap_cons, List.length_append, List.length_map, List.length_range, List.length_cons, Nat.succ_mul]; omega
        exact go _
      have hp2 : (hs top most i).length * (top + 1) ≤ 200 * 101 := Nat.mul_le_mul hl (by omega)
      refine ⟨by omega, ?_⟩
      split
      · rename_i hgt
        walk_at "vc"
        have := hs_le (top := top) (most := most) (show i + 1 ≤ size by omega)
        exact kx (by omega)
      · walk_at "vc"
        exact ⟨_, _, rfl, .ow, .fz, by omega⟩

/-! ### promises, plain -/
theorem eqv_nats : ∀ a b : List Nat, PyData.eqvAll (natsL a) (natsL b) = decide (a = b)
  | [], [] => by rw [show natsL [] = [] from rfl, PyData.eqvAll]; rfl
  | [], y :: ys => by rw [show natsL [] = [] from rfl, show natsL (y :: ys) = .int y :: natsL ys from rfl, PyData.eqvAll]; rfl
  | x :: xs, [] => by rw [show natsL [] = [] from rfl, show natsL (x :: xs) = .int x :: natsL xs from rfl, PyData.eqvAll]; rfl
  | x :: xs, y :: ys => by
    rw [show natsL (x :: xs) = .int x :: natsL xs from rfl, show natsL (y :: ys) = .int y :: natsL ys from rfl, PyData.eqvAll, eqv_nats xs ys, eqv_ii]
    by_cases h1 : x = y
    · subst h1
      by_cases h2 : xs = ys
      · subst h2; simp
      · simp [h2]
    · have : ¬ ((x : Int) = (y : Int)) := by omega
      simp [h1, this]
theorem eqv_rows {a b : List Nat} : PyData.eqv (rowD a) (rowD b) = decide (a = b) := by
  unfold rowD
  rw [PyData.eqv, eqv_nats]
theorem Ly.row {r : List Nat} : Ly 1 (rowD r) := Ly.tup fun d hd => by
  obtain ⟨x, _, rfl⟩ := List.mem_map.mp hd
  exact .int
theorem Ly.rows {H : List (List Nat)} : Ly 2 (.list (rowsD H)) := Ly.lst fun d hd => by
  obtain ⟨x, _, rfl⟩ := List.mem_map.mp hd
  exact .row
theorem place_rows {t : List Nat} : ∀ (H : List (List Nat)) (k : Nat), t ∈ H → placeD (rowD t) (rowsD H) k = some (k + H.idxOf t)
  | [], _, h => by simp at h
  | a :: H, k, h => by
    show (if PyData.eqv (rowD a) (rowD t) = true then some k else placeD (rowD t) (rowsD H) (k + 1)) = _
    rw [eqv_rows]
    by_cases e : a = t
    · subst e
      simp
    · have hm : t ∈ H := by
        rcases List.mem_cons.mp h with z | z
        · exact absurd z.symm e
        · exact z
      rw [if_neg (by simp [e]), place_rows H (k + 1) hm, List.idxOf_cons]
      have : (a == t) = false := by simpa using e
      rw [this]
      show some _ = some (k + (H.idxOf t + 1))
      congr 1
      omega
theorem index_rows {H : List (List Nat)} {t : List Nat} (h : t ∈ H) : indexLD (.list (rowsD H)) (rowD t) = some (.int ((H.idxOf t : Nat) : Int)) := by
  show (if SeqAt.shaped (.list (rowsD H)) = true ∧ SeqAt.shaped (rowD t) = true then (placeD (rowD t) (rowsD H) 0).map fun j => PyData.int (j : Nat) else none) = _
  rw [if_pos ⟨Ly.rows.shaped (by omega), Ly.row.shaped (by omega)⟩, place_rows H 0 h, Nat.zero_add]; rfl
/-- the number v at a place, 0 elsewhere -/
def unitL (n place : Nat) (v : Int) : List D := (List.range n).map fun i => .int (if i = place then v else 0)
theorem unitL_len {n place : Nat} {v : Int} : (unitL n place v).length = n := by simp [unitL]
theorem unit_ok {row : List D} {place : Nat} {v : Int} (hl : row.length ≤ 1000) {G : Except Exn (Nat × D) → Env' → Prop} (k : G (.ok (0, .tuple (unitL row.length place v))) [.fz (.tuple row), .fz (.int place), .fz (.int v)]) :
    W (F_unit [.fz (.tuple row), .fz (.int place), .fz (.int v)]) G := by
  refine W_fn rfl rfl ?_
  unfold b_unit
  walk_at "vc"
  refine ⟨⟨by omega, by omega⟩, by rw [rangeL_length]; omega, ?_⟩
  refine W_lc_map (fun d => match d with | .int i => .int (if i = place then v else 0) | d => d) (fun d hd => ?_) ?_
  · unfold rangeL at hd
    obtain ⟨j, hj, rfl⟩ := List.mem_map.mp hd
    walk_at "vc"
    by_cases h : (0 + (j : Int)) = (place : Int)
    · rw [if_pos h]
      walk_at "vc"
      simp [h]
    · rw [if_neg h]
      walk_at "vc"
      simp
      omega
  · walk_at "vc"
    have e : (rangeL 0 ((row.length : Nat) : Int).toNat).map (fun d => match d with | .int i => PyData.int (if i = place then v else 0) | d => d) = unitL row.length place v := by
      unfold rangeL unitL
      rw [List.map_map, Int.toNat_natCast]
      refine List.map_congr_left fun i _ => ?_
      show PyData.int (if (0 + (i : Int)) = place then v else 0) = _
      by_cases h : i = place
      · rw [if_pos h, if_pos (by omega)]
      · rw [if_neg h, if_neg (by omega)]
    rw [e]
    exact k
theorem behind_ok {r : List Nat} {item : Nat} (hl : r.length ≤ 1000) {G : Except Exn (Nat × D) → Env' → Prop} (k : G (.ok (0, rowD (r ++ [item]).tail)) [.fz (rowD r), .fz (.int item)]) : W (F_behind [.fz (rowD r), .fz (.int item)]) G := by
  refine W_fn rfl rfl ?_
  unfold b_behind rowD
  walk_at "vc"
  refine ⟨⟨by simp [natsL_len]; omega, ?_⟩, ?_⟩
  · rw [show natsL r ++ [PyData.int (item : Int)] = natsL (r ++ [item]) by rw [natsL_app]; rfl]
    exact natsL_strT _
  · rw [show natsL r ++ [PyData.int (item : Int)] = natsL (r ++ [item]) by rw [natsL_app]; rfl, show (some 1 : Option Int) = some ((1 : Nat) : Int) from rfl, cut_lo]
    have e : (natsL (r ++ [item])).drop 1 = natsL (r ++ [item]).tail := by
      unfold natsL
      rw [← List.map_drop, List.drop_one]
    rw [e]
    exact k
theorem any_strs {x : Str} : ∀ xs : List Str, ((strsL xs).any fun z => PyData.eqv z (.str x)) = decide (x ∈ xs)
  | [] => rfl
  | y :: xs => by
    show (PyData.eqv (.str y) (.str x) || (strsL xs).any fun z => PyData.eqv z (.str x)) = _
    rw [any_strs xs, PyData.eqv]
    by_cases h : y = x
    · subst h; simp
    · have h2 : (y == x) = false := by simpa using h
      have h3 : x ≠ y := fun e => h e.symm
      rw [h2]
      simp [h3]
theorem Ly.strs {xs : List Str} (h : ∀ x ∈ xs, PyData.strOk x = true) : Ly 1 (.tuple (strsL xs)) := Ly.tup fun d hd => by
  obtain ⟨x, hx, rfl⟩ := List.mem_map.mp hd
  exact .str (h x hx)
theorem notIn_strs {x : Str} {xs : List Str} (hx : PyData.strOk x = true) (h : ∀ x ∈ xs, PyData.strOk x = true) : notInD (.str x) (.tuple (strsL xs)) = some (.bool (!decide (x ∈ xs))) := by
  show (if SeqAt.shaped (.str x) = true ∧ SeqAt.shaped (.tuple (strsL xs)) = true then some (PyData.bool (!(strsL xs).any fun z => PyData.eqv z (.str x))) else none) = _
  rw [if_pos ⟨(Ly.str hx).shaped (by omega), (Ly.strs h).shaped (by omega)⟩, any_strs]
theorem strsD_strs : ∀ xs : List Str, strsD (strsL xs) = some xs
  | [] => rfl
  | x :: xs => by
    show (strsD (strsL xs)).map (x :: ·) = _
    rw [strsD_strs xs]; rfl
theorem findS_at {x : Str} : ∀ (xs : List Str) (k : Nat), x ∈ xs → findS x xs k = some (k + xs.idxOf x)
  | [], _, h => by simp at h
  | y :: xs, k, h => by
    show (if y = x then some k else findS x xs (k + 1)) = _
    by_cases e : y = x
    · subst e; simp
    · have hm : x ∈ xs := by
        rcases List.mem_cons.mp h with z | z
        · exact absurd z.symm e
        · exact z
      rw [if_neg e, findS_at xs (k + 1) hm, List.idxOf_cons]
      have : (y == x) = false := by simpa using e
      rw [this]
      show some _ = some (k + (xs.idxOf x + 1))
      congr 1
      omega
theorem strT_strs {xs : List Str} (h : xs ≠ []) : StrT (strsL xs) = true := by
  cases xs with
  | nil => exact absurd rfl h
  | cons x xs =>
    have go : ∀ l : List Str, (strsL l).all isStrD = true := by
      intro l
      induction l with
      | nil => rfl
      | cons a l ih => show (true && (strsL l).all isStrD) = true; rw [ih]; rfl
    show (!(strsL (x :: xs)).isEmpty && (strsL (x :: xs)).all isStrD) = true
    rw [go]; rfl
def noName (d : D) : Exn := ⟨"NoName", [("name", d)]⟩
/-- any value that is no name of some names -/
def NotName (xs : List Str) (d : D) : Prop := match d with
  | .str x => PyData.strOk x = true ∧ x ∉ xs
  | _ => True
theorem place_in_ok {xs : List Str} {x : Str} (hm : ∀ y ∈ xs, y ∈ menu) (hx : x ∈ xs) {G : Except Exn (Nat × D) → Env' → Prop} (k : G (.ok (0, .int ((xs.idxOf x : Nat) : Int))) [.fz (.tuple (strsL xs)), .fz (.str x)]) : W (F_place_in [.fz (.tuple (strsL xs)), .fz (.str x)]) G := by
  refine W_fn rfl rfl ?_
  unfold b_place_in
  walk_at "vc"
  rw [show isStrM (.str x) = some (.bool true) from rfl, oW_some]
  walk_at "vc"
  rw [notIn_strs (menu_ok x (hm x hx)) (fun y hy => menu_ok y (hm y hy)), oW_some]
  walk_at "vc"
  have hne : xs ≠ [] := fun e => by rw [e] at hx; simp at hx
  rw [if_neg (by simpa using hx)]
  walk_at "vc"
  rw [show nmsT (.tuple (strsL xs)) = some () from if_pos (strT_strs hne), oW_some]
  walk_at "vc"
  rw [show indexTD (.tuple (strsL xs)) (.str x) = (strsD (strsL xs)).bind fun ys => (findS x ys 0).map fun j => PyData.int (j : Nat) from rfl, strsD_strs, Option.bind_some, findS_at xs 0 hx, Nat.zero_add]
  walk_at "vc"
  exact k
theorem place_in_no {xs : List Str} {d : D} (hm : ∀ y ∈ xs, y ∈ menu) (hd : NotName xs d) {G : Except Exn (Nat × D) → Env' → Prop} (k : G (.error (noName d)) [.fz (.tuple (strsL xs)), .fz d]) : W (F_place_in [.fz (.tuple (strsL xs)), .fz d]) G := by
  refine W_fn rfl rfl ?_
  unfold b_place_in
  walk_at "vc"
  cases d with
  | str x =>
    rw [show isStrM (.str x) = some (.bool true) from rfl, oW_some]
    walk_at "vc"
    rw [notIn_strs hd.1 (fun y hy => menu_ok y (hm y hy)), oW_some]
    walk_at "vc"
    rw [if_pos (by simpa using hd.2)]
    walk_at "vc"
    exact k
  | _ =>
    rw [show isStrM _ = some (PyData.bool false) from rfl, oW_some]
    walk_at "vc"
    exact k
theorem hand_place_ok {ks xs : List Str} {rs : D} {x : Str} (hm : ∀ y ∈ xs, y ∈ menu) (hx : x ∈ xs) {G : Except Exn (Nat × D) → Env' → Prop} (k : G (.ok (0, .int ((xs.idxOf x : Nat) : Int))) [.fz (.tuple [.tuple (strsL ks), .tuple (strsL xs), rs]), .fz (.str x)]) : W (F_hand_place [.fz (.tuple [.tuple (strsL ks), .tuple (strsL xs), rs]), .fz (.str x)]) G := by
  refine W_fn rfl rfl ?_
  unfold b_hand_place
  walk_at "vc"
  refine place_in_ok hm hx ?_
  walk_at "vc"
  exact k
theorem hand_place_no {ks xs : List Str} {rs d : D} (hm : ∀ y ∈ xs, y ∈ menu) (hd : NotName xs d) {G : Except Exn (Nat × D) → Env' → Prop} (k : G (.error (noName d)) [.fz (.tuple [.tuple (strsL ks), .tuple (strsL xs), rs]), .fz d]) : W (F_hand_place [.fz (.tuple [.tuple (strsL ks), .tuple (strsL xs), rs]), .fz d]) G := by
  refine W_fn rfl rfl ?_
  unfold b_hand_place
  walk_at "vc"
  refine place_in_no hm hd ?_
  walk_at "vc"
  exact k
theorem kind_place_ok {ks xs : List Str} {rs : D} {x : Str} (hm : ∀ y ∈ ks, y ∈ menu) (hx : x ∈ ks) {G : Except Exn (Nat × D) → Env' → Prop} (k : G (.ok (0, .int ((ks.idxOf x : Nat) : Int))) [.fz (.tuple [.tuple (strsL ks), .tuple (strsL xs), rs]), .fz (.str x)]) : W (F_kind_place [.fz (.tuple [.tuple (strsL ks), .tuple (strsL xs), rs]), .fz (.str x)]) G := by
  refine W_fn rfl rfl ?_
  unfold b_kind_place
  walk_at "vc"
  refine place_in_ok hm hx ?_
  walk_at "vc"
  exact k
theorem kind_place_no {ks xs : List Str} {rs d : D} (hm : ∀ y ∈ ks, y ∈ menu) (hd : NotName ks d) {G : Except Exn (Nat × D) → Env' → Prop} (k : G (.error (noName d)) [.fz (.tuple [.tuple (strsL ks), .tuple (strsL xs), rs]), .fz d]) : W (F_kind_place [.fz (.tuple [.tuple (strsL ks), .tuple (strsL xs), rs]), .fz d]) G := by
  refine W_fn rfl rfl ?_
  unfold b_kind_place
  walk_at "vc"
  refine place_in_no hm hd ?_
  walk_at "vc"
  exact k

/-! ### the senders -/
def arrD (H : List (List Nat)) (am cr : Nat → D) (k : Nat) (r : List Nat) (item : Nat) : D := .tuple [.int k, .int ((H.idxOf (r ++ [item]).tail : Nat) : Int), am item, cr item]
def arrL (H : List (List Nat)) (cnt : List Nat → Nat) (am cr : Nat → D) (p : List Nat × Nat) : List D := (List.range (cnt p.1)).map (arrD H am cr p.2 p.1)
def arrs (H : List (List Nat)) (cnt : List Nat → Nat) (am cr : Nat → D) (l : List (List Nat × Nat)) : List D := l.flatMap (arrL H cnt am cr)
def senderD (H : List (List Nat)) (cnt : List Nat → Nat) (am cr : Nat → D) : D := .tuple [.int ((H.length : Nat) : Int), .tuple (arrs H cnt am cr H.zipIdx)]
theorem enum_at {H : List (List Nat)} {i : Nat} {d : D} (h : (enumL (rowsD H))[i]? = some d) : ∃ r, H[i]? = some r ∧ d = .tuple [.int (i : Int), rowD r] := by
  unfold enumL pairsL at h
  rw [List.getElem?_map, Option.map_eq_some_iff] at h
  obtain ⟨⟨a, b⟩, h1, rfl⟩ := h
  rw [List.getElem?_zip_eq_some] at h1
  obtain ⟨h1, h2⟩ := h1
  unfold rowsD at h2
  rw [List.getElem?_map, Option.map_eq_some_iff] at h2
  obtain ⟨r, h2, rfl⟩ := h2
  rw [List.getElem?_map, Option.map_eq_some_iff] at h1
  obtain ⟨j, h1, rfl⟩ := h1
  obtain ⟨_, h3⟩ := List.getElem?_eq_some_iff.mp h1
  rw [List.getElem_range] at h3
  subst h3
  exact ⟨r, h2, rfl⟩
theorem enum_len {ds : List D} : (enumL ds).length = ds.length := by
  unfold enumL pairsL
  simp
theorem arrs_succ {H : List (List Nat)} {cnt : List Nat → Nat} {am cr : Nat → D} {i : Nat} {r : List Nat} (h : H[i]? = some r) : arrs H cnt am cr (H.zipIdx.take (i + 1)) = arrs H cnt am cr (H.zipIdx.take i) ++ arrL H cnt am cr (r, i) := by
  have e : H.zipIdx[i]? = some (r, i) := by rw [List.getElem?_zipIdx, h]; simp
  unfold arrs
  rw [List.take_succ, e, List.flatMap_append]
  simp
theorem arrs_len {H : List (List Nat)} {cnt : List Nat → Nat} {am cr : Nat → D} {m : Nat} (h : ∀ r ∈ H, cnt r ≤ m) (i : Nat) : (arrs H cnt am cr (H.zipIdx.take i)).length ≤ i * m := by
  induction i with
  | zero => simp [arrs]
  | succ i ih =>
    cases hr : H[i]? with
    | none =>
      have hl := List.getElem?_eq_none_iff.mp hr
      rw [List.take_of_length_le (by rw [List.length_zipIdx]; omega)] at ih ⊢
      rw [Nat.succ_mul]; omega
    | some r =>
      rw [arrs_succ hr, List.length_append, Nat.succ_mul]
      have : (arrL H cnt am cr (r, i)).length ≤ m := by
        unfold arrL
        rw [List.length_map, List.length_range]
        exact h r (List.mem_of_getElem? hr)
      omega
theorem tail_mem {top most n : Nat} {r : List Nat} {item : Nat} (h : r ∈ hs top most n) (h1 : item ≤ top) (h2 : r.sum + item ≤ most) : (r ++ [item]).tail ∈ hs top most n := by
  obtain ⟨l, s, m⟩ := hs_mem.mp h
  refine hs_mem.mpr ⟨by simp [l], ?_, fun x hx => ?_⟩
  · cases r with
    | nil => simp
    | cons a r => simp at s h2 ⊢; omega
  · have := List.mem_of_mem_tail hx
    rcases List.mem_append.mp this with z | z
    · exact m x z
    · rw [List.mem_singleton.mp z]; exact h1
def zerosD (n : Nat) : D := .tuple (List.replicate n (.int 0))
theorem zeros_rep {n : Nat} : PyData.tuple (rep (n : Int) [PyData.int 0]) = zerosD n := by rw [rep_one]; rfl
theorem zeros_strT {n : Nat} : StrT (rep (n : Int) [PyData.int 0]) = false := by
  rw [rep_one]; cases n <;> rfl
theorem broken_ok {ks xs : List Str} {rs : D} {x : Str} {broken w : Nat} (hk : ks.length ≤ 100) (hl : xs.length ≤ 100) (hm : ∀ y ∈ xs, y ∈ menu) (hx : x ∈ xs) (hb : broken ≤ 100) (hw : w ≤ 100) (h200 : (hs 1 broken w).length ≤ 200) {G : Except Exn (Nat × D) → Env' → Prop}
    (k : G (.ok (0, senderD (hs 1 broken w) (fun r => min 1 (broken - r.sum) + 1) (fun _ => zerosD ks.length) fun item => .tuple (unitL xs.length (xs.idxOf x) (1 - (item : Int))))) [.fz (.tuple [.tuple (strsL ks), .tuple (strsL xs), rs]), .fz (.str x), .fz (.int broken), .fz (.int ((w : Int) + 1))]) :
    W (F_at_most_broken [.fz (.tuple [.tuple (strsL ks), .tuple (strsL xs), rs]), .fz (.str x), .fz (.int broken), .fz (.int ((w : Int) + 1))]) G := by
  refine W_fn rfl rfl ?_
  unfold b_at_most_broken
  walk_at "vc"
  refine hand_place_ok hm hx ?_
  walk_at "vc"
  rw [show (w : Int) + 1 - 1 = (w : Int) by omega]
  refine hist_ok (top := 1) hw (by omega) hb (fun _ => ?_) (fun z => by omega)
  walk_at "vc"
  rw [strsL_length]
  refine ⟨rfl, ⟨by omega, by omega, by omega, zeros_strT⟩, ?_⟩
  rw [zeros_rep]
  have hcnt : ∀ r ∈ hs 1 broken w, min 1 (broken - r.sum) + 1 ≤ 2 := fun r _ => by omega
  generalize ham : (fun (_ : Nat) => zerosD ks.length) = am at k
  generalize hcr : (fun (item : Nat) => PyData.tuple (unitL xs.length (xs.idxOf x) (1 - (item : Int)))) = cr at k
  generalize hcn : (fun (r : List Nat) => min 1 (broken - r.sum) + 1) = cnt at k
  have hcn' : ∀ r : List Nat, cnt r = min 1 (broken - r.sum) + 1 := fun r => by rw [← hcn]
  refine W_forI (fun i ρ => ∃ x8 x9 x10 x11, ρ = [.fz (.tuple [.tuple (strsL ks), .tuple (strsL xs), rs]), .fz (.str x), .fz (.int broken), .fz (.int ((w : Int) + 1)), .fz (.int ((xs.idxOf x : Nat) : Int)), .fz (.list (rowsD (hs 1 broken w))), .fz (zerosD ks.length),
      .ow 1 (.list (arrs (hs 1 broken w) cnt am cr ((hs 1 broken w).zipIdx.take i))), x8, x9, x10, x11] ∧ Lo x8 ∧ Lo x9 ∧ Lo x10 ∧ Lo x11) ⟨_, _, _, _, rfl, .un, .un, .un, .un⟩ (fun ρ h => ?_) fun i d ρ hd h => ?_
  · obtain ⟨x8, x9, x10, x11, rfl, h8, h9, h10, h11⟩ := h
    walk_at "vc"
    rw [enum_len, rowsD_len, List.take_of_length_le (by rw [List.length_zipIdx]; omega)]
    refine ⟨rfl, ?_⟩
    exact k
  · obtain ⟨x8, x9, x10, x11, rfl, h8, h9, h10, h11⟩ := h
    obtain ⟨r, hr, rfl⟩ := enum_at hd
    have hrm := List.mem_of_getElem? hr
    have hi : i < 200 := by
      have := (List.getElem?_eq_some_iff.mp hr).1
      omega
    obtain ⟨r1, r2, r3⟩ := hs_mem.mp hrm
    refine W_asg2 h8 h9 (by omega) (by simp) (by simp) ?_
    walk_at "vc"
    rw [sum_row, oW_some]
    walk_at "vc"
    refine ⟨⟨by split <;> omega, by split <;> omega⟩, ?_⟩
    rw [show (1 + if (r.sum : Int) < (broken : Int) then (1 : Int) else 0).toNat = cnt r by
      rw [hcn' r]
      split <;> omega]
    refine W_forR (fun j ρ => ∃ x10 x11, ρ = [.fz (.tuple [.tuple (strsL ks), .tuple (strsL xs), rs]), .fz (.str x), .fz (.int broken), .fz (.int ((w : Int) + 1)), .fz (.int ((xs.idxOf x : Nat) : Int)), .fz (.list (rowsD (hs 1 broken w))), .fz (zerosD ks.length),
        .ow 1 (.list (arrs (hs 1 broken w) cnt am cr ((hs 1 broken w).zipIdx.take i) ++ (List.range j).map (arrD (hs 1 broken w) am cr i r))), .fz (.int i), .fz (rowD r), x10, x11] ∧ Lo x10 ∧ Lo x11) ⟨_, _, by rw [List.range_zero, List.map_nil, List.append_nil], h10, h11⟩ (fun ρ h => ?_) fun j ρ hj h => ?_
    · obtain ⟨x10, x11, rfl, h10, h11⟩ := h
      rw [arrs_succ hr]
      exact ⟨_, _, _, _, rfl, .fz, .fz, h10, h11⟩
    · obtain ⟨x10, x11, rfl, h10, h11⟩ := h
      have hj' : j < min 1 (broken - r.sum) + 1 := by rw [← hcn' r]; exact hj
      refine W_asg_lo h10 (by simp) ?_
      walk_at "vc"
      refine unit_ok (by rw [strsL_length]; omega) ?_
      walk_at "vc"
      rw [setW_Lo h11]
      walk_at "vc"
      refine behind_ok (by omega) ?_
      walk_at "vc"
      rw [index_rows (tail_mem hrm (by omega) (by omega)), oW_some]
      walk_at "vc"
      have e1 : PyData.tuple [PyData.int (i : Int), .int (((hs 1 broken w).idxOf (r ++ [j]).tail : Nat) : Int), zerosD ks.length, .tuple (unitL (strsL xs).length (xs.idxOf x) (1 - (j : Int)))] = arrD (hs 1 broken w) am cr i r j := by
        unfold arrD
        rw [← ham, ← hcr, strsL_length]
      rw [e1, show (List.range j).map (arrD (hs 1 broken w) am cr i r) ++ [arrD (hs 1 broken w) am cr i r j] = (List.range (j + 1)).map (arrD (hs 1 broken w) am cr i r) by rw [List.range_succ, List.map_append]; rfl]
      refine ⟨rfl, ?_, _, _, rfl, .fz, .fz⟩
      have := arrs_len (am := am) (cr := cr) (cnt := cnt) (H := hs 1 broken w) (m := 2) (fun r hr => by rw [hcn' r]; omega) i
      rw [List.length_append, List.length_map, List.length_range]
      omega
theorem come_ok {ks xs : List Str} {rs : D} {x : Str} {many w : Nat} (hk : ks.length ≤ 100) (hl : xs.length ≤ 100) (hm : ∀ y ∈ ks, y ∈ menu) (hx : x ∈ ks) (hb : many ≤ 100) (hw : w ≤ 100) {G : Except Exn (Nat × D) → Env' → Prop}
    (k : (hs many many w).length ≤ 200 → G (.ok (0, senderD (hs many many w) (fun r => min many (many - r.sum) + 1) (fun item => .tuple (unitL ks.length (ks.idxOf x) (item : Int))) fun _ => zerosD xs.length)) [.fz (.tuple [.tuple (strsL ks), .tuple (strsL xs), rs]), .fz (.str x), .fz (.int many), .fz (.int ((w : Int) + 1))])
    (kx : 200 < (hs many many w).length → G (.error (tooMany 200)) [.fz (.tuple [.tuple (strsL ks), .tuple (strsL xs), rs]), .fz (.str x), .fz (.int many), .fz (.int ((w : Int) + 1))]) :
    W (F_at_most_come [.fz (.tuple [.tuple (strsL ks), .tuple (strsL xs), rs]), .fz (.str x), .fz (.int many), .fz (.int ((w : Int) + 1))]) G := by
  refine W_fn rfl rfl ?_
  unfold b_at_most_come
  walk_at "vc"
  refine kind_place_ok hm hx ?_
  walk_at "vc"
  rw [show (w : Int) + 1 - 1 = (w : Int) by omega]
  refine hist_ok (top := many) hw hb hb (fun h200 => ?_) (fun z => ?_)
  rotate_left
  · walk_at "vc"
    exact kx z
  have k := k h200
  walk_at "vc"
  rw [strsL_length]
  refine ⟨rfl, ⟨by omega, by omega, by omega, zeros_strT⟩, ?_⟩
  rw [zeros_rep]
  generalize ham : (fun (_ : Nat) => zerosD xs.length) = cr at k
  generalize hcr : (fun (item : Nat) => PyData.tuple (unitL ks.length (ks.idxOf x) (item : Int))) = am at k
  generalize hcn : (fun (r : List Nat) => min many (many - r.sum) + 1) = cnt at k
  have hcn' : ∀ r : List Nat, cnt r = min many (many - r.sum) + 1 := fun r => by rw [← hcn]
  refine W_forI (fun i ρ => ∃ x8 x9 x10 x11, ρ = [.fz (.tuple [.tuple (strsL ks), .tuple (strsL xs), rs]), .fz (.str x), .fz (.int many), .fz (.int ((w : Int) + 1)), .fz (.int ((ks.idxOf x : Nat) : Int)), .fz (.list (rowsD (hs many many w))), .fz (zerosD xs.length),
      .ow 1 (.list (arrs (hs many many w) cnt am cr ((hs many many w).zipIdx.take i))), x8, x9, x10, x11] ∧ Lo x8 ∧ Lo x9 ∧ Lo x10 ∧ Lo x11) ⟨_, _, _, _, rfl, .un, .un, .un, .un⟩ (fun ρ h => ?_) fun i d ρ hd h => ?_
  · obtain ⟨x8, x9, x10, x11, rfl, h8, h9, h10, h11⟩ := h
    walk_at "vc"
    rw [enum_len, rowsD_len, List.take_of_length_le (by rw [List.length_zipIdx]; omega)]
    refine ⟨rfl, ?_⟩
    exact k
  · obtain ⟨x8, x9, x10, x11, rfl, h8, h9, h10, h11⟩ := h
    obtain ⟨r, hr, rfl⟩ := enum_at hd
    have hrm := List.mem_of_getElem? hr
    have hi : i < 200 := by
      have := (List.getElem?_eq_some_iff.mp hr).1
      omega
    obtain ⟨r1, r2, r3⟩ := hs_mem.mp hrm
    refine W_asg2 h8 h9 (by omega) (by simp) (by simp) ?_
    walk_at "vc"
    rw [sum_row, oW_some]
    walk_at "vc"
    refine ⟨⟨by omega, by omega⟩, ?_⟩
    rw [show ((many : Int) - ((r.sum : Nat) : Int) + 1).toNat = cnt r by
      rw [hcn' r]; omega]
    refine W_forR (fun j ρ => ∃ x10 x11, ρ = [.fz (.tuple [.tuple (strsL ks), .tuple (strsL xs), rs]), .fz (.str x), .fz (.int many), .fz (.int ((w : Int) + 1)), .fz (.int ((ks.idxOf x : Nat) : Int)), .fz (.list (rowsD (hs many many w))), .fz (zerosD xs.length),
        .ow 1 (.list (arrs (hs many many w) cnt am cr ((hs many many w).zipIdx.take i) ++ (List.range j).map (arrD (hs many many w) am cr i r))), .fz (.int i), .fz (rowD r), x10, x11] ∧ Lo x10 ∧ Lo x11) ⟨_, _, by rw [List.range_zero, List.map_nil, List.append_nil], h10, h11⟩ (fun ρ h => ?_) fun j ρ hj h => ?_
    · obtain ⟨x10, x11, rfl, h10, h11⟩ := h
      rw [arrs_succ hr]
      exact ⟨_, _, _, _, rfl, .fz, .fz, h10, h11⟩
    · obtain ⟨x10, x11, rfl, h10, h11⟩ := h
      have hj' : j < min many (many - r.sum) + 1 := by rw [← hcn' r]; exact hj
      refine W_asg_lo h10 (by simp) ?_
      walk_at "vc"
      refine unit_ok (by rw [strsL_length]; omega) ?_
      walk_at "vc"
      rw [setW_Lo h11]
      walk_at "vc"
      refine behind_ok (by omega) ?_
      walk_at "vc"
      rw [index_rows (tail_mem hrm (by omega) (by omega)), oW_some]
      walk_at "vc"
      have e1 : PyData.tuple [PyData.int (i : Int), .int (((hs many many w).idxOf (r ++ [j]).tail : Nat) : Int), .tuple (unitL (strsL ks).length (ks.idxOf x) (j : Int)), zerosD xs.length] = arrD (hs many many w) am cr i r j := by
        unfold arrD
        rw [← ham, ← hcr, strsL_length]
      rw [e1, show (List.range j).map (arrD (hs many many w) am cr i r) ++ [arrD (hs many many w) am cr i r j] = (List.range (j + 1)).map (arrD (hs many many w) am cr i r) by rw [List.range_succ, List.map_append]; rfl]
      refine ⟨rfl, ?_, _, _, rfl, .fz, .fz⟩
      have := arrs_len (am := am) (cr := cr) (cnt := cnt) (H := hs many many w) (m := 101) (fun r hr => by rw [hcn' r]; omega) i
      rw [List.length_append, List.length_map, List.length_range]
      omega
theorem broken_no {ks xs : List Str} {rs d : D} {n m : Int} (hm : ∀ y ∈ xs, y ∈ menu) (hd : NotName xs d) {G : Except Exn (Nat × D) → Env' → Prop} (k : G (.error (noName d)) [.fz (.tuple [.tuple (strsL ks), .tuple (strsL xs), rs]), .fz d, .fz (.int n), .fz (.int m)]) :
    W (F_at_most_broken [.fz (.tuple [.tuple (strsL ks), .tuple (strsL xs), rs]), .fz d, .fz (.int n), .fz (.int m)]) G := by
  refine W_fn rfl rfl ?_
  unfold b_at_most_broken
  walk_at "vc"
  refine hand_place_no hm hd ?_
  walk_at "vc"
  exact k
theorem come_no {ks xs : List Str} {rs d : D} {n m : Int} (hm : ∀ y ∈ ks, y ∈ menu) (hd : NotName ks d) {G : Except Exn (Nat × D) → Env' → Prop} (k : G (.error (noName d)) [.fz (.tuple [.tuple (strsL ks), .tuple (strsL xs), rs]), .fz d, .fz (.int n), .fz (.int m)]) :
    W (F_at_most_come [.fz (.tuple [.tuple (strsL ks), .tuple (strsL xs), rs]), .fz d, .fz (.int n), .fz (.int m)]) G := by
  refine W_fn rfl rfl ?_
  unfold b_at_most_come
  walk_at "vc"
  refine kind_place_no hm hd ?_
  walk_at "vc"
  exact k

/-! ### the law's own -/
theorem flat_ok {rows : List (List D)} (hl : rows.flatten.length ≤ 16777216) {G : Except Exn (Nat × D) → Env' → Prop} (k : G (.ok (1, .list rows.flatten)) [.fz (.list (rows.map PyData.list))]) : W (F_l_flat [.fz (.list (rows.map PyData.list))]) G := by
  refine W_fn rfl rfl ?_
  unfold b_l_flat
  walk_at "vc"
  refine W_forI (fun i ρ => ∃ x2, ρ = [.fz (.list (rows.map PyData.list)), .ow 1 (.list (rows.take i).flatten), x2] ∧ Lo x2) ⟨_, rfl, .un⟩ (fun ρ h => ?_) fun i d ρ hd h => ?_
  · obtain ⟨x2, rfl, h2⟩ := h
    walk_at "vc"
    rw [List.length_map, List.take_of_length_le (Nat.le_refl _)]
    exact k
  · obtain ⟨x2, rfl, h2⟩ := h
    rw [List.getElem?_map, Option.map_eq_some_iff] at hd
    obtain ⟨r, hr, rfl⟩ := hd
    refine W_asg_lo h2 (by simp) ?_
    walk_at "vc"
    have e : (rows.take (i + 1)).flatten = (rows.take i).flatten ++ r := by
      rw [List.take_succ, hr, List.flatten_append]
      simp
    rw [← e]
    refine ⟨?_, _, rfl, .fz⟩
    have : ((rows.take (i + 1)).flatten ++ (rows.drop (i + 1)).flatten).length = rows.flatten.length := by
      rw [← List.flatten_append, List.take_append_drop]
    rw [List.length_append] at this
    omega
theorem nothing_ok {ks : List Str} {r2 : List D} (hk : ks.length ≤ 100) {G : Except Exn (Nat × D) → Env' → Prop} (k : G (.ok (0, zerosD ks.length)) [.fz (.tuple (.tuple (strsL ks) :: r2))]) : W (F_l_nothing [.fz (.tuple (.tuple (strsL ks) :: r2))]) G := by
  refine W_fn rfl rfl ?_
  unfold b_l_nothing
  walk_at "vc"
  rw [strsL_length]
  refine ⟨rfl, ⟨by omega, by omega, by omega, zeros_strT⟩, ?_⟩
  rw [zeros_rep]
  exact k
theorem natsL_sumL {r : List Nat} : rowD r = .tuple (natsL r) := rfl
theorem lhist_ok {w top most : Nat} (hs1 : w ≤ 7) (ht : top ≤ 9) (hm : most ≤ 9) {G : Except Exn (Nat × D) → Env' → Prop} (k : G (.ok (0, .list (rowsD (hs top most w)))) [.fz (.int ((w : Int) + 1)), .fz (.int top), .fz (.int most)]) :
    W (F_l_histories [.fz (.int ((w : Int) + 1)), .fz (.int top), .fz (.int most)]) G := by
  refine W_fn rfl rfl ?_
  unfold b_l_histories
  walk_at "vc"
  refine ⟨rfl, ⟨by omega, by omega⟩, ?_⟩
  rw [show ((w : Int) + 1 - 1).toNat = w by omega]
  have big : ∀ i, i ≤ w → (hs top most i).length ≤ 10000000 := fun i hi => by
    refine Nat.le_trans (hs_pow) ?_
    refine Nat.le_trans (Nat.pow_le_pow_left (show top + 1 ≤ 10 by omega) i) ?_
    exact Nat.le_trans (Nat.pow_le_pow_right (by decide) (show i ≤ 7 by omega)) (by decide)
  refine W_forR (fun i ρ => ∃ s3 x4, ρ = [.fz (.int ((w : Int) + 1)), .fz (.int top), .fz (.int most), s3, x4, .un, .un] ∧ Fz s3 (.list (rowsD (hs top most i))) ∧ Lo x4) ⟨_, _, rfl, .ow, .un⟩ (fun ρ h => ?_) fun i ρ hi h => ?_
  · obtain ⟨s3, x4, rfl, h3, h4⟩ := h
    walk_at "vc"
    refine W_nm_fz h3 rfl ?_
    walk_at "vc"
    exact k
  · obtain ⟨s3, x4, rfl, h3, h4⟩ := h
    refine W_asg_lo h4 (by simp) ?_
    walk_at "vc"
    refine W_nm_fz h3 rfl ?_
    walk_at "vc"
    refine ⟨by rw [rowsD_len]; have := big i (by omega); omega, ?_⟩
    refine W_lc_of (hs top most i) rowD (fun r => .list (stepD top most r)) (fun r hr => ?_) ?_
    · obtain ⟨r1, r2, r3⟩ := hs_mem.mp hr
      walk_at "vc"
      rw [sum_row, oW_some]
      walk_at "vc"
      have em : (if (most : Int) - (r.sum : Nat) < (top : Int) then (most : Int) - (r.sum : Nat) else top) + 1 = ((min top (most - r.sum) + 1 : Nat) : Int) := by split <;> omega
      rw [em]
      refine ⟨⟨by omega, by omega⟩, ?_⟩
      rw [Int.toNat_natCast, rangeL_length]
      refine ⟨by omega, ?_⟩
      refine W_lc_of (List.range (min top (most - r.sum) + 1)) (fun i => PyData.int (0 + (i : Nat))) (fun i => rowD (r ++ [i])) (fun j hj => ?_) ?_
      · walk_at "vc"
        unfold rowD
        walk_at "vc"
        rw [show natsL r ++ [PyData.int (0 + (j : Int))] = natsL (r ++ [j]) by rw [natsL_app, Int.zero_add]; rfl]
        exact ⟨rfl, ⟨by rw [natsL_len]; omega, natsL_strT _⟩, rfl⟩
      · walk_at "vc"
        rfl
    · walk_at "vc"
      have e2 : (hs top most i).map (fun r => PyData.list (stepD top most r)) = ((hs top most i).map (stepD top most)).map PyData.list := by rw [List.map_map]; rfl
      have e3 : ((hs top most i).map (stepD top most)).flatten = rowsD (hs top most (i + 1)) := by
        rw [rows_succ, List.flatMap]
      rw [e2]
      refine flat_ok (by rw [e3, rowsD_len]; have := big (i + 1) (by omega); omega) ?_
      rw [e3]
      walk_at "vc"
      exact ⟨_, _, rfl, .ow, .fz⟩
/-! ### promise -/
def keyOfR (r : List Nat) : List Key := r.map fun (i : Nat) => Sum.inl (i : Int)
theorem keyOfR_inj : ∀ {a b : List Nat}, keyOfR a = keyOfR b → a = b
  | [], [], _ => rfl
  | [], _ :: _, h => by cases h
  | _ :: _, [], h => by cases h
  | x :: xs, y :: ys, h => by
    obtain ⟨h1, h2⟩ := List.cons.inj h
    have h3 : (x : Int) = (y : Int) := by injection h1
    rw [keyOfR_inj h2, show x = y by omega]
theorem keysK_row : ∀ r : List Nat, keysK (natsL r) = some (keyOfR r)
  | [] => rfl
  | x :: xs => by
    show (keysK (natsL xs)).map (fun ks => Sum.inl (x : Int) :: ks) = _
    rw [keysK_row xs]; rfl
theorem dkOf_row {r : List Nat} : dkOf (rowD r) = some (.inr (keyOfR r)) := by
  show (if StrT (natsL r) = true then none else (keysK (natsL r)).map Sum.inr) = _
  rw [natsL_strT, keysK_row]; rfl
def pairD (p : List Nat × Nat) : D := .tuple [rowD p.1, .int ((p.2 : Nat) : Int)]
theorem pairsKT_rows : ∀ l : List (List Nat × Nat), pairsKT (l.map pairD) = some (l.map fun p => (keyOfR p.1, PyData.int ((p.2 : Nat) : Int)))
  | [] => rfl
  | p :: l => by
    have e : pairKT (pairD p) = some (keyOfR p.1, PyData.int ((p.2 : Nat) : Int)) := by
      show (if StrT (natsL p.1) = true then none else (keysK (natsL p.1)).map fun k => (k, PyData.int ((p.2 : Nat) : Int))) = _
      rw [natsL_strT, keysK_row]; rfl
    show (pairKT (pairD p)).bind (fun q => (pairsKT (l.map pairD)).map fun r => q :: r) = _
    rw [e, pairsKT_rows l]; rfl
theorem putT_new {kvs : List (List Key × D)} {k : List Key} {v : D} (h : k ∉ kvs.map (·.1)) : putT kvs k v = kvs ++ [(k, v)] := by
  unfold putT
  rw [if_neg]
  intro z
  obtain ⟨kv, h1, h2⟩ := List.any_eq_true.mp z
  exact h (List.mem_map.mpr ⟨kv, h1, of_decide_eq_true h2⟩)
theorem foldl_putT : ∀ (l acc : List (List Key × D)), ((acc ++ l).map (·.1)).Nodup → l.foldl (fun acc kv => putT acc kv.1 kv.2) acc = acc ++ l
  | [], acc, _ => by simp
  | p :: l, acc, h => by
    have hn : p.1 ∉ acc.map (·.1) := by
      rw [List.map_append, List.nodup_append] at h
      intro z
      exact h.2.2 _ z _ (List.mem_map.mpr ⟨p, List.mem_cons_self, rfl⟩) rfl
    rw [List.foldl_cons, putT_new hn, foldl_putT l (acc ++ [p]) (by simpa using h)]
    simp
def numsD (H : List (List Nat)) : D := .dict (H.zipIdx.map fun p => (rowD p.1, PyData.int ((p.2 : Nat) : Int)))
theorem keyD_row (r : List Nat) : (keyOfR r).map keyD = natsL r := by
  unfold keyOfR natsL
  rw [List.map_map]; rfl
theorem dict_rows {H : List (List Nat)} (nd : H.Nodup) : dictPT (.list (H.zipIdx.map pairD)) = some (numsD H) := by
  show (pairsKT (H.zipIdx.map pairD)).map _ = _
  rw [pairsKT_rows, Option.map_some]
  have hk : ((H.zipIdx.map fun p => (keyOfR p.1, PyData.int ((p.2 : Nat) : Int))).map (·.1)).Nodup := by
    rw [List.map_map]
    have e : ((fun x : List Key × D => x.1) ∘ fun p : List Nat × Nat => (keyOfR p.1, PyData.int ((p.2 : Nat) : Int))) = keyOfR ∘ Prod.fst := rfl
    rw [e, ← List.map_map, List.zipIdx_map_fst]
    exact List.Pairwise.map _ (fun a b hab z => hab (keyOfR_inj z)) nd
  rw [foldl_putT _ [] (by simpa using hk), List.nil_append, List.map_map]
  congr 1
  show PyData.dict _ = PyData.dict _
  congr 1
  refine List.map_congr_left fun p _ => ?_
  show (PyData.tuple ((keyOfR p.1).map keyD), _) = _
  rw [keyD_row]; rfl
theorem find_rows {t : List Nat} : ∀ (H : List (List Nat)) (k : Nat), t ∈ H → findD (.inr (keyOfR t)) ((H.zipIdx k).map fun p => (rowD p.1, PyData.int ((p.2 : Nat) : Int))) = some (.int ((k + H.idxOf t : Nat) : Int))
  | [], _, h => by simp at h
  | a :: H, k, h => by
    rw [List.zipIdx_cons, List.map_cons]
    show (if dkOf (rowD a) = some (.inr (keyOfR t)) then some (PyData.int ((k : Nat) : Int)) else findD (.inr (keyOfR t)) ((H.zipIdx (k + 1)).map _)) = _
    rw [dkOf_row]
    by_cases e : a = t
    · subst e
      simp
    · have hm : t ∈ H := by
        rcases List.mem_cons.mp h with z | z
        · exact absurd z.symm e
        · exact z
      have ne : ¬ (some (Sum.inr (keyOfR a)) : Option (Key ⊕ List Key)) = some (.inr (keyOfR t)) := fun z => e (keyOfR_inj (by injection z with z; injection z))
      rw [if_neg ne, find_rows H (k + 1) hm, List.idxOf_cons]
      have : (a == t) = false := by simpa using e
      rw [this]
      show some (PyData.int ((k + 1 + H.idxOf t : Nat) : Int)) = some (PyData.int ((k + (H.idxOf t + 1) : Nat) : Int))
      congr 3
      omega
theorem dget_rows {H : List (List Nat)} {t : List Nat} (h : t ∈ H) : dgetD (numsD H) (rowD t) = some (.int ((H.idxOf t : Nat) : Int)) := by
  show (dkOf (rowD t)).bind (fun q => findD q _) = _
  rw [dkOf_row, Option.bind_some]
  have := find_rows H 0 h
  rw [Nat.zero_add] at this
  exact this

theorem unit_map {xs : List Str} {x : Str} {v : Int} (nd : xs.Nodup) (hx : x ∈ xs) : xs.map (fun h => PyData.int (if h = x then v else 0)) = unitL xs.length (xs.idxOf x) v := by
  unfold unitL
  refine List.ext_getElem (by simp) fun i h1 h2 => ?_
  rw [List.getElem_map, List.getElem_map, List.getElem_range]
  have hl : i < xs.length := by simpa using h1
  by_cases e : xs[i] = x
  · have : i = xs.idxOf x := by
      rw [← e]
      exact (nd.idxOf_getElem i hl).symm
    rw [if_pos e, if_pos this]
  · have : ¬ i = xs.idxOf x := fun z => e (by
      subst z
      exact List.getElem_idxOf hl)
    rw [if_neg e, if_neg this]
theorem zero_map {xs : List Str} {p : Str → Prop} [DecidablePred p] {v : Int} (hp : ∀ x ∈ xs, ¬ p x) : PyData.tuple (xs.map fun h => PyData.int (if p h then v else 0)) = zerosD xs.length := by
  unfold zerosD
  congr 1
  refine List.eq_replicate_iff.mpr ⟨List.length_map _, fun b hb => ?_⟩
  obtain ⟨x, hx, rfl⟩ := List.mem_map.mp hb
  rw [if_neg (hp x hx)]
def amD (ks : List Str) (x : Str) (top : Nat) (item : Nat) : D := .tuple (ks.map fun k => PyData.int (if 0 < top ∧ k = x then (item : Int) else 0))
def crD (xs : List Str) (x : Str) (top : Nat) (item : Nat) : D := .tuple (xs.map fun k => PyData.int (if top = 0 ∧ k = x then 1 - (item : Int) else 0))
def topU (top : Nat) : Nat := if top = 0 then 1 else top
theorem enumL_pairs {H : List (List Nat)} : enumL (rowsD H) = H.zipIdx.map fun p => PyData.tuple [.int ((p.2 : Nat) : Int), rowD p.1] := by
  refine List.ext_getElem? fun i => ?_
  rw [List.getElem?_map, List.getElem?_zipIdx]
  cases h : H[i]? with
  | none =>
    have hl := List.getElem?_eq_none_iff.mp h
    rw [List.getElem?_eq_none (by rw [enum_len, rowsD_len]; exact hl)]; rfl
  | some r =>
    have hl := (List.getElem?_eq_some_iff.mp h).1
    have h2 : i < (enumL (rowsD H)).length := by rw [enum_len, rowsD_len]; exact hl
    obtain ⟨r', e1, e2⟩ := enum_at (List.getElem?_eq_getElem h2)
    rw [h] at e1
    cases e1
    rw [List.getElem?_eq_getElem h2, e2]
    simp
theorem promise_ok {ks xs : List Str} {rs : D} {x : Str} {top most w : Nat} (hk : ks.length ≤ 100) (hl : xs.length ≤ 100) (ht : top ≤ 9) (hm : most ≤ 9) (hw : w ≤ 7) (h200 : (hs (topU top) most w).length ≤ 200) {G : Except Exn (Nat × D) → Env' → Prop}
    (k : G (.ok (0, senderD (hs (topU top) most w) (fun r => min (topU top) (most - r.sum) + 1) (amD ks x top) (crD xs x top))) [.fz (.tuple [.tuple (strsL ks), .tuple (strsL xs), rs]), .fz (.str x), .fz (.int ((w : Int) + 1)), .fz (.int top), .fz (.int most)]) :
    W (F_l_promise [.fz (.tuple [.tuple (strsL ks), .tuple (strsL xs), rs]), .fz (.str x), .fz (.int ((w : Int) + 1)), .fz (.int top), .fz (.int most)]) G := by
  refine W_fn rfl rfl ?_
  unfold b_l_promise
  have hU : topU top ≤ 9 := by unfold topU; split <;> omega
  generalize hE : ifE (tVal (bin (.sl 3) (.ex (lit (.int 0))) eqD')) (lit (.int 1)) (nm 3) = E
  have hW : ∀ (ρ : Env') (Q : Except Exn D → Env' → Prop), slot ρ 3 = .fz (.int top) → W (E ρ) Q = Q (.ok (.int ((topU top : Nat) : Int))) ρ := fun ρ Q h => by
    rw [← hE]
    simp only [W_ifE, W_tVal, W_binSE, h, chkW_fz, W_lit, Kn_ok, W_bnd, W_bn, bnW_fz, W_opt, eq_ii, oW_some, W_boolOf, W_ite, decide_eq_true_eq, W_nm, nmW_fz]
    unfold topU
    split
    · rw [if_pos (by omega)]; rfl
    · rw [if_neg (by omega)]
  walk_at "vc"
  rw [hW _ _ rfl]
  walk_at "vc"
  refine lhist_ok hw hU hm ?_
  walk_at "vc"
  rw [enum_len, rowsD_len]
  refine ⟨by omega, ?_⟩
  rw [enumL_pairs]
  refine W_lc_of (hs (topU top) most w).zipIdx (fun p => PyData.tuple [.int ((p.2 : Nat) : Int), rowD p.1]) pairD (fun p hp => ?_) ?_
  · walk_at "vc"
    exact ⟨rfl, rfl⟩
  walk_at "vc"
  rw [dict_rows hs_nodup, oW_some]
  walk_at "vc"
  generalize ham : amD ks x top = am at k
  generalize hcr : crD xs x top = cr at k
  generalize hcn : (fun (r : List Nat) => min (topU top) (most - r.sum) + 1) = cnt at k
  have hcn' : ∀ r : List Nat, cnt r = min (topU top) (most - r.sum) + 1 := fun r => by rw [← hcn]
  generalize hH : hs (topU top) most w = H at *
  have base : Env' := []
  refine W_forI (fun i ρ => ∃ x8 x9 x10 x11, ρ = [.fz (.tuple [.tuple (strsL ks), .tuple (strsL xs), rs]), .fz (.str x), .fz (.int ((w : Int) + 1)), .fz (.int top), .fz (.int most), .fz (.list (rowsD H)),
      .ow 1 (.list (arrs H cnt am cr (H.zipIdx.take i))), .fz (numsD H), x8, x9, x10, x11, .un, .un, .un] ∧ Lo x8 ∧ Lo x9 ∧ Lo x10 ∧ Lo x11) ⟨_, _, _, _, rfl, .un, .un, .un, .un⟩ (fun ρ h => ?_) fun i d ρ hd h => ?_
  · obtain ⟨x8, x9, x10, x11, rfl, h8, h9, h10, h11⟩ := h
    walk_at "vc"
    rw [rowsD_len, List.take_of_length_le (by rw [List.length_zipIdx]; omega)]
    exact ⟨rfl, k⟩
  · obtain ⟨x8, x9, x10, x11, rfl, h8, h9, h10, h11⟩ := h
    unfold rowsD at hd
    rw [List.getElem?_map, Option.map_eq_some_iff] at hd
    obtain ⟨r, hr, rfl⟩ := hd
    have hrm := List.mem_of_getElem? hr
    have hi : i < 200 := by
      have := (List.getElem?_eq_some_iff.mp hr).1
      omega
    have hrm' : r ∈ hs (topU top) most w := by rw [hH]; exact hrm
    obtain ⟨r1, r2, r3⟩ := hs_mem.mp hrm'
    refine W_asg_lo h8 (by simp) ?_
    walk_at "vc"
    rw [hW _ _ rfl]
    walk_at "vc"
    rw [sum_row, oW_some]
    walk_at "vc"
    refine ⟨⟨by split <;> omega, by split <;> omega⟩, ?_⟩
    rw [show ((if (most : Int) - ((r.sum : Nat) : Int) < ((topU top : Nat) : Int) then (most : Int) - ((r.sum : Nat) : Int) else ((topU top : Nat) : Int)) + 1).toNat = cnt r by
      rw [hcn' r]; split <;> omega]
    refine W_forR (fun j ρ => ∃ x9 x10 x11, ρ = [.fz (.tuple [.tuple (strsL ks), .tuple (strsL xs), rs]), .fz (.str x), .fz (.int ((w : Int) + 1)), .fz (.int top), .fz (.int most), .fz (.list (rowsD H)),
        .ow 1 (.list (arrs H cnt am cr (H.zipIdx.take i) ++ (List.range j).map (arrD H am cr i r))), .fz (numsD H), .fz (rowD r), x9, x10, x11, .un, .un, .un] ∧ Lo x9 ∧ Lo x10 ∧ Lo x11) ⟨_, _, _, by rw [List.range_zero, List.map_nil, List.append_nil], h9, h10, h11⟩ (fun ρ h => ?_) fun j ρ hj h => ?_
    · obtain ⟨x9, x10, x11, rfl, h9, h10, h11⟩ := h
      rw [arrs_succ hr]
      exact ⟨_, _, _, _, rfl, .fz, h9, h10, h11⟩
    · obtain ⟨x9, x10, x11, rfl, h9, h10, h11⟩ := h
      have hj' : j < min (topU top) (most - r.sum) + 1 := by rw [← hcn' r]; exact hj
      refine W_asg_lo h9 (by simp) ?_
      walk_at "vc"
      rw [strsL_length]
      refine ⟨by omega, ?_⟩
      refine W_lc_of ks PyData.str (fun kd => PyData.int (if 0 < top ∧ kd = x then (j : Int) else 0)) (fun kd hkd => ?_) ?_
      · walk_at "vc"
        by_cases h1 : 0 < top
        · rw [if_pos (by omega)]
          by_cases h2 : kd = x
          · rw [if_pos h2, if_pos ⟨h1, h2⟩]
          · rw [if_neg h2, if_neg (fun z => h2 z.2)]
        · rw [if_neg (by omega), if_neg (fun z => h1 z.1)]
      walk_at "vc"
      rw [setW_Lo h10]
      walk_at "vc"
      rw [strsL_length]
      refine ⟨by omega, ?_⟩
      refine W_lc_of xs PyData.str (fun kd => PyData.int (if top = 0 ∧ kd = x then 1 - (j : Int) else 0)) (fun kd hkd => ?_) ?_
      · walk_at "vc"
        by_cases h1 : top = 0
        · rw [if_pos (by omega)]
          by_cases h2 : kd = x
          · rw [if_pos h2, if_pos ⟨h1, h2⟩]
          · rw [if_neg h2, if_neg (fun z => h2 z.2)]
        · rw [if_neg (by omega), if_neg (fun z => h1 z.1)]
      walk_at "vc"
      rw [setW_Lo h11]
      walk_at "vc"
      rw [dget_rows hrm, oW_some]
      unfold rowD
      walk_at "vc"
      rw [show natsL r ++ [PyData.int (j : Int)] = natsL (r ++ [j]) by rw [natsL_app]; rfl]
      rw [show (some 1 : Option Int) = some ((1 : Nat) : Int) from rfl, cut_lo]
      have e : PyData.tuple ((natsL (r ++ [j])).drop 1) = rowD (r ++ [j]).tail := by
        unfold rowD natsL
        rw [← List.map_drop, List.drop_one]
      rw [e, dget_rows (by rw [← hH]; exact tail_mem hrm' (by omega) (by omega))]
      walk_at "vc"
      have hix : H.idxOf r = i := by
        obtain ⟨hl, e⟩ := List.getElem?_eq_some_iff.mp hr
        rw [← e]
        exact (hH ▸ hs_nodup : H.Nodup).idxOf_getElem i hl
      have e1 : PyData.tuple [PyData.int ((H.idxOf r : Nat) : Int), .int ((H.idxOf (r ++ [j]).tail : Nat) : Int), .tuple (ks.map fun kd => PyData.int (if 0 < top ∧ kd = x then (j : Int) else 0)), .tuple (xs.map fun kd => PyData.int (if top = 0 ∧ kd = x then 1 - (j : Int) else 0))] = arrD H am cr i r j := by
        unfold arrD
        rw [← ham, ← hcr, hix]; rfl
      rw [e1, show (List.range j).map (arrD H am cr i r) ++ [arrD H am cr i r j] = (List.range (j + 1)).map (arrD H am cr i r) by rw [List.range_succ, List.map_append]; rfl]
      refine ⟨rfl, ⟨by rw [natsL_len]; omega, natsL_strT _⟩, rfl, ?_, _, _, _, rfl, .fz, .fz, .fz⟩
      have := arrs_len (am := am) (cr := cr) (cnt := cnt) (H := H) (m := 101) (fun r hr => by rw [hcn' r]; omega) i
      rw [List.length_append, List.length_map, List.length_range]
      omega

theorem alike_ok {d : D} {n L : Nat} (hs : isSeq d = true) (h : Sz (n + 1) L d) (hn : n < 60) (hL : L ≤ 16777216) {G : Except Exn (Nat × D) → Env' → Prop} (k : G (.ok (0, .bool true)) [.fz d, .fz d]) : W (F_l_alike [.fz d, .fz d]) G := by
  refine W_fn rfl rfl ?_
  unfold b_l_alike
  walk_at "vc"
  rw [eq_same hs h (by omega), oW_some]
  walk_at "vc"
  rw [repr_same hs h (by omega) hL, oW_some]
  walk_at "vc"
  simp only [decide_true]
  exact k
theorem sz_unit {n place : Nat} {v : Int} (hn : n ≤ 8) (hv : v.natAbs < 10000) : Sz 1 59 (.tuple (unitL n place v)) := by
  refine Sz.tup' (n := 0) (L := 5) (m := 8) (fun d hd => ?_) (by rw [unitL_len]; exact hn) (by omega)
  obtain ⟨i, _, rfl⟩ := List.mem_map.mp hd
  refine Sz.int (k := 4) (by omega) (by omega) ?_
  split
  · exact hv
  · decide
theorem sz_zeros {n : Nat} (hn : n ≤ 8) : Sz 1 59 (zerosD n) := by
  refine Sz.tup' (n := 0) (L := 5) (m := 8) (fun d hd => ?_) (by rw [List.length_replicate]; exact hn) (by omega)
  rw [(List.mem_replicate.mp hd).2]
  exact Sz.int (k := 4) (by omega) (by omega) (by decide)
theorem sz_sender {H : List (List Nat)} {cnt : List Nat → Nat} {am cr : Nat → D} (hl : H.length ≤ 200) (hc : ∀ r ∈ H, cnt r ≤ 10) (ha : ∀ i, i < 10 → Sz 1 59 (am i)) (hr : ∀ i, i < 10 → Sz 1 59 (cr i)) : Sz 4 996013 (senderD H cnt am cr) := by
  have hi : ∀ n : Nat, n < 10000 → Sz 0 5 (.int (n : Int)) := fun n hn => Sz.int (k := 4) (by omega) (by omega) (by simpa using hn)
  have h1 : ∀ d ∈ arrs H cnt am cr H.zipIdx, Sz 2 247 d := fun d hd => by
    obtain ⟨p, hp, hd⟩ := List.mem_flatMap.mp hd
    obtain ⟨j, hj, rfl⟩ := List.mem_map.mp hd
    have hj' := List.mem_range.mp hj
    obtain ⟨i, hi2⟩ := List.mem_iff_getElem?.mp hp
    rw [List.getElem?_zipIdx, Option.map_eq_some_iff] at hi2
    obtain ⟨r, hr2, rfl⟩ := hi2
    have hm := List.mem_of_getElem? hr2
    have hc' := hc r hm
    have hil := (List.getElem?_eq_some_iff.mp hr2).1
    have hidx : H.idxOf (r ++ [j]).tail ≤ H.length := List.idxOf_le_length
    refine Sz.tup' (n := 1) (L := 59) (m := 4) (fun d hd => ?_) (by simp) (by omega)
    simp only [List.mem_cons, List.not_mem_nil, or_false] at hd
    have hjt : j < 10 := Nat.lt_of_lt_of_le hj' hc'
    rcases hd with rfl | rfl | rfl | rfl
    · exact (hi _ (by first | omega | (simp; omega))).up (by omega) (by omega)
    · exact (hi _ (by first | omega | (simp; omega))).up (by omega) (by omega)
    · exact ha j hjt
    · exact hr j hjt
  have hal := arrs_len (am := am) (cr := cr) hc H.length
  rw [List.take_of_length_le (by rw [List.length_zipIdx]; exact Nat.le_refl _)] at hal
  have h2 : Sz 3 498003 (.tuple (arrs H cnt am cr H.zipIdx)) := Sz.tup' (m := 2000) h1 (by omega) (by omega)
  refine Sz.tup' (n := 3) (L := 498003) (m := 2) (fun d hd => ?_) (by simp) (by omega)
  simp only [List.mem_cons, List.not_mem_nil, or_false] at hd
  rcases hd with rfl | rfl
  · exact (hi _ (by omega)).up (by omega) (by omega)
  · exact h2
theorem sz_told {d : D} (h : Sz 4 996013 d) : Sz 5 1992033 (.tuple [.str told, d]) := by
  refine Sz.tup' (n := 4) (L := 996013) (m := 2) (fun e he => ?_) (by simp) (by omega)
  simp only [List.mem_cons, List.not_mem_nil, or_false] at he
  rcases he with rfl | rfl
  · exact (Sz.str (L := 10) (by decide +kernel)).up (by omega) (by omega)
  · exact h
theorem broken_same {ks xs : List Str} {x : Str} {broken w : Nat} (nd : xs.Nodup) (hx : x ∈ xs) :
    senderD (hs (topU 0) broken w) (fun r => min (topU 0) (broken - r.sum) + 1) (amD ks x 0) (crD xs x 0) = senderD (hs 1 broken w) (fun r => min 1 (broken - r.sum) + 1) (fun _ => zerosD ks.length) fun item => .tuple (unitL xs.length (xs.idxOf x) (1 - (item : Int))) := by
  have e1 : amD ks x 0 = fun _ => zerosD ks.length := by
    funext i
    exact zero_map (p := fun k => 0 < 0 ∧ k = x) fun y _ z => by omega
  have e2 : crD xs x 0 = fun (item : Nat) => PyData.tuple (unitL xs.length (xs.idxOf x) (1 - (item : Int))) := by
    funext i
    unfold crD
    rw [← unit_map nd hx]
    congr 1
    refine List.map_congr_left fun y _ => ?_
    by_cases h : y = x
    · rw [if_pos ⟨rfl, h⟩, if_pos h]
    · rw [if_neg (fun z => h z.2), if_neg h]
  rw [e1, e2]; rfl
theorem come_same {ks xs : List Str} {x : Str} {many w : Nat} (hm : 0 < many) (nd : ks.Nodup) (hx : x ∈ ks) :
    senderD (hs (topU many) many w) (fun r => min (topU many) (many - r.sum) + 1) (amD ks x many) (crD xs x many) = senderD (hs many many w) (fun r => min many (many - r.sum) + 1) (fun item => .tuple (unitL ks.length (ks.idxOf x) (item : Int))) fun _ => zerosD xs.length := by
  have e0 : topU many = many := if_neg (by omega)
  have e1 : crD xs x many = fun _ => zerosD xs.length := by
    funext i
    exact zero_map (p := fun k => many = 0 ∧ k = x) fun y _ z => by omega
  have e2 : amD ks x many = fun (item : Nat) => PyData.tuple (unitL ks.length (ks.idxOf x) (item : Int)) := by
    funext i
    unfold amD
    rw [← unit_map nd hx]
    congr 1
    refine List.map_congr_left fun y _ => ?_
    by_cases h : y = x
    · rw [if_pos ⟨hm, h⟩, if_pos h]
    · rw [if_neg (fun z => h z.2), if_neg h]
  rw [e0, e1, e2]
theorem hs_zero (w : Nat) : hs 0 0 w = [List.replicate w 0] := by
  induction w with
  | zero => rfl
  | succ w ih =>
    show (hs 0 0 w).flatMap _ = _
    rw [ih]
    show (List.range (min 0 (0 - (List.replicate w 0).sum) + 1)).map (fun i => List.replicate w 0 ++ [i]) ++ [] = _
    rw [Nat.zero_min, List.append_nil]
    show [List.replicate w 0 ++ [0]] = _
    rw [List.replicate_succ']
theorem unit_zero {n place : Nat} : PyData.tuple (unitL n place 0) = zerosD n := by
  unfold unitL zerosD
  congr 1
  refine List.eq_replicate_iff.mpr ⟨by simp, fun b hb => ?_⟩
  obtain ⟨i, _, rfl⟩ := List.mem_map.mp hb
  split <;> rfl
theorem none_same {ks xs : List Str} {x : Str} {w : Nat} :
    senderD (hs 0 0 w) (fun r => min 0 (0 - r.sum) + 1) (fun item => .tuple (unitL ks.length (ks.idxOf x) (item : Int))) (fun _ => zerosD xs.length) = .tuple [.int 1, .tuple [.tuple [.int 0, .int 0, zerosD ks.length, zerosD xs.length]]] := by
  rw [hs_zero]
  unfold senderD arrs arrL arrD
  have e : (List.replicate w 0 ++ [0]).tail = List.replicate w 0 := by
    rw [← List.replicate_succ', List.replicate_succ, List.tail_cons]
  simp [e]
  exact unit_zero
theorem lcome_ok {ks xs : List Str} {rs : D} {x : Str} {many w : Nat} (hk : ks.length ≤ 8) (hl : xs.length ≤ 8) (nd : ks.Nodup) (hx : x ∈ ks) (ht : many ≤ 9) (hw : w ≤ 7) (h200 : (hs many many w).length ≤ 200) {G : Except Exn (Nat × D) → Env' → Prop}
    (k : ∀ k0, G (.ok (k0, senderD (hs many many w) (fun r => min many (many - r.sum) + 1) (fun item => .tuple (unitL ks.length (ks.idxOf x) (item : Int))) fun _ => zerosD xs.length)) [.fz (.tuple [.tuple (strsL ks), .tuple (strsL xs), rs]), .fz (.str x), .fz (.int ((w : Int) + 1)), .fz (.int many)]) :
    W (F_l_come [.fz (.tuple [.tuple (strsL ks), .tuple (strsL xs), rs]), .fz (.str x), .fz (.int ((w : Int) + 1)), .fz (.int many)]) G := by
  refine W_fn rfl rfl ?_
  unfold b_l_come
  walk_at "vc"
  by_cases h : 0 < many
  · rw [if_pos (by omega)]
    have e0 : topU many = many := if_neg (by omega)
    refine promise_ok (top := many) (most := many) (by omega) (by omega) ht ht hw (by rw [e0]; exact h200) ?_
    walk_at "vc"
    rw [come_same h nd hx]
    exact k _
  · have h0 : many = 0 := by omega
    subst h0
    rw [if_neg (by omega)]
    walk_at "vc"
    refine nothing_ok (by omega) ?_
    walk_at "vc"
    rw [strsL_length]
    refine ⟨rfl, ⟨by omega, by omega, by omega, zeros_strT⟩, ?_⟩
    rw [zeros_rep]
    have := k 0
    rw [none_same] at this
    exact ⟨rfl, rfl, rfl, this⟩

theorem nodup_parts {ks hs : List Str} (h : (ks ++ hs).Nodup) : ks.Nodup ∧ hs.Nodup ∧ ∀ x ∈ hs, x ∉ ks := by
  rw [List.nodup_append] at h
  exact ⟨h.1, h.2.1, fun x hx hk => h.2.2 x hk x hx rfl⟩
theorem hs1_le {broken w : Nat} (hw : w ≤ 7) : (hs 1 broken w).length ≤ 200 := by
  refine Nat.le_trans hs_pow ?_
  exact Nat.le_trans (Nat.pow_le_pow_right (by decide) hw) (by decide)
theorem many_size {many w : Nat} (hw : w ≤ 7) : (200 < (hs (max many 1) many w).length → 200 < (hs many many w).length) ∧ ((hs (max many 1) many w).length ≤ 200 → (hs many many w).length ≤ 200) := by
  by_cases h : many = 0
  · subst h
    refine ⟨fun z => ?_, fun _ => ?_⟩
    · have := hs1_le (broken := 0) hw
      rw [show max 0 1 = 1 from rfl] at z
      omega
    · rw [hs_zero]; simp
  · rw [show max many 1 = many by omega]
    exact ⟨id, id⟩
theorem many_alike {G : Except Exn (Nat × D) → Env' → Prop} {d : D} (h : d = .tuple [.str "many", .int 200]) (k : G (.ok (0, .bool true)) [.fz d, .fz d]) : W (F_l_alike [.fz d, .fz d]) G := by
  subst h
  refine alike_ok (n := 0) (L := 100) rfl ?_ (by omega) (by omega) k
  refine Sz.tup' (n := 0) (L := 10) (m := 2) (fun e he => ?_) (by simp) (by omega)
  simp only [List.mem_cons, List.not_mem_nil, or_false] at he
  rcases he with rfl | rfl
  · exact Sz.str (by decide +kernel)
  · exact (Sz.int (k := 4) (by omega) (by omega) (by decide)).up (by omega) (by omega)
theorem right_ok {b d : D} {w : Nat} (hb : BagOk b) (hd : WorksOk 3 2 2 d) (hw : w ≤ 7) {G : Except Exn (Nat × D) → Env' → Prop} (k : ∀ b', BagOk b' → G (.ok (0, .bool true)) [.rf 0 1 b', .fz d, .fz (.int ((w : Int) + 1))]) :
    W (F_l_are_promises_right [.rf 0 1 b, .fz d, .fz (.int ((w : Int) + 1))]) G := by
  obtain ⟨ks, xs, rs, rfl, k0, k1, x1, r1, nd, hm, hr⟩ := hd.ex
  obtain ⟨ndk, ndx, hdis⟩ := nodup_parts nd
  have hmk : ∀ y ∈ ks, y ∈ menu := fun y hy => hm y (List.mem_append_left _ hy)
  have hmx : ∀ y ∈ xs, y ∈ menu := fun y hy => hm y (List.mem_append_right _ hy)
  refine W_fn rfl rfl ?_
  unfold b_l_are_promises_right
  walk_at "vc"
  refine W_forI (fun i ρ => ∃ b' x3 x4 x5 x6, BagOk b' ∧ ρ = [.rf 0 1 b', .fz (.tuple [.tuple (strsL ks), .tuple (strsL xs), .tuple rs]), .fz (.int ((w : Int) + 1)), x3, x4, x5, x6, .un, .un] ∧ Lo x3 ∧ Lo x4 ∧ Lo x5 ∧ Lo x6) ⟨b, _, _, _, _, hb, rfl, .un, .un, .un, .un⟩ (fun ρ h => ?_) fun i dx ρ hdx h => ?_
  · obtain ⟨b', x3, x4, x5, x6, hb', rfl, h3, h4, h5, h6⟩ := h
    walk_at "vc"
    refine W_forI (fun i ρ => ∃ b' x3 x5 x7 x8, BagOk b' ∧ ρ = [.rf 0 1 b', .fz (.tuple [.tuple (strsL ks), .tuple (strsL xs), .tuple rs]), .fz (.int ((w : Int) + 1)), x3, x4, x5, x6, x7, x8] ∧ Lo x3 ∧ Lo x5 ∧ Lo x7 ∧ Lo x8) ⟨b', _, _, _, _, hb', rfl, h3, h5, .un, .un⟩ (fun ρ h => ?_) fun i dx ρ hdx h => ?_
    · obtain ⟨b2, x3, x5, x7, x8, hb2, rfl, h3, h5, h7, h8⟩ := h
      walk_at "vc"
      exact k _ hb2
    · obtain ⟨b2, x3, x5, x7, x8, hb2, rfl, h3, h5, h7, h8⟩ := h
      unfold strsL at hdx
      rw [List.getElem?_map, Option.map_eq_some_iff] at hdx
      obtain ⟨x, hx, rfl⟩ := hdx
      have hxm := List.mem_of_getElem? hx
      refine W_asg_lo h3 (by simp) ?_
      walk_at "vc"
      refine one_ok hb2 (by simp) (by simp) fun b3 d3 hb3 hd3 => ?_
      obtain ⟨many, rfl, hmany⟩ : ∃ n : Nat, d3 = .int n ∧ n ≤ 9 := by
        simp only [List.mem_cons, List.not_mem_nil, or_false] at hd3
        rcases hd3 with rfl | rfl | rfl | rfl | rfl | rfl | rfl
        · exact ⟨1, rfl, by omega⟩
        · exact ⟨2, rfl, by omega⟩
        · exact ⟨3, rfl, by omega⟩
        · exact ⟨4, rfl, by omega⟩
        · exact ⟨6, rfl, by omega⟩
        · exact ⟨9, rfl, by omega⟩
        · exact ⟨0, rfl, by omega⟩
      walk_at "vc"
      rw [setW_Lo h7]
      walk_at "vc"
      rw [show (if (1 : Int) > (many : Int) then (1 : Int) else (many : Int)) = ((max many 1 : Nat) : Int) by split <;> omega]
      refine lhist_ok hw (by omega) hmany ?_
      walk_at "vc"
      rw [rowsD_len, setW_Lo h8]
      walk_at "vc"
      split
      · rename_i hbig
        rw [setW_Lo h5]
        refine come_ok (by omega) (by omega) hmk hxm (by omega) (by omega) (fun z => ?_) fun z => ?_
        · have := (many_size (many := many) hw).1 (by omega)
          omega
        · walk_at "vc"
          rw [show tagOf tags (tooMany 200) = some (.tuple [.str "many", .int 200]) from rfl, oW_some]
          walk_at "vc"
          refine many_alike rfl ?_
          walk_at "vc"
          exact ⟨_, _, _, _, _, hb3, rfl, .fz, .fz, .fz, .fz⟩
      · rename_i hbig
        have h200 := (many_size (many := many) hw).2 (by omega)
        refine lcome_ok (by omega) (by omega) ndk hxm hmany hw h200 fun kk => ?_
        walk_at "vc"
        rw [setW_Lo h5]
        walk_at "vc"
        refine come_ok (by omega) (by omega) hmk hxm (by omega) (by omega) (fun _ => ?_) fun z => by omega
        walk_at "vc"
        refine alike_ok (n := 4) rfl (sz_told (sz_sender h200 (fun r _ => by omega) (fun i hi => sz_unit (by omega) (by simp; omega)) fun i _ => sz_zeros (by omega))) (by omega) (by omega) ?_
        walk_at "vc"
        exact ⟨_, _, _, _, _, hb3, rfl, .fz, .fz, .fz, .fz⟩
  · obtain ⟨b', x3, x4, x5, x6, hb', rfl, h3, h4, h5, h6⟩ := h
    unfold strsL at hdx
    rw [List.getElem?_map, Option.map_eq_some_iff] at hdx
    obtain ⟨x, hx, rfl⟩ := hdx
    have hxm := List.mem_of_getElem? hx
    refine W_asg_lo h3 (by simp) ?_
    walk_at "vc"
    refine take_ok hb' (by omega) (by omega) fun b2 br hb2 br0 br1 => ?_
    obtain ⟨broken, rfl⟩ : ∃ n : Nat, br = n := ⟨br.toNat, by omega⟩
    walk_at "vc"
    rw [setW_Lo h4]
    walk_at "vc"
    refine promise_ok (top := 0) (most := broken) (by omega) (by omega) (by omega) (by omega) hw (hs1_le hw) ?_
    rw [broken_same ndx hxm]
    obtain ⟨S, hS⟩ : ∃ S, S = senderD (hs 1 broken w) (fun r => min 1 (broken - r.sum) + 1) (fun _ => zerosD ks.length) fun item => .tuple (unitL xs.length (xs.idxOf x) (1 - (item : Int))) := ⟨_, rfl⟩
    rw [← hS]
    walk_at "vc"
    rw [setW_Lo h5]
    walk_at "vc"
    refine ⟨by decide, ?_⟩
    rw [show (2 : Int).toNat = 2 from rfl]
    refine W_forR (fun i ρ => ∃ x6, ρ = [.rf 0 1 b2, .fz (.tuple [.tuple (strsL ks), .tuple (strsL xs), .tuple rs]), .fz (.int ((w : Int) + 1)), .fz (.str x), .fz (.int broken), .fz (.tuple [.str "told", S]), x6, .un, .un] ∧ Lo x6) ⟨_, rfl, h6⟩ (fun ρ h => ?_) fun i ρ hi h => ?_
    · obtain ⟨x6, rfl, h6⟩ := h
      exact ⟨_, _, _, _, _, hb2, rfl, .fz, .fz, .fz, h6⟩
    · obtain ⟨x6, rfl, h6⟩ := h
      refine W_asg_lo h6 (by simp) ?_
      walk_at "vc"
      refine broken_ok (by omega) (by omega) hmx hxm (by omega) (by omega) (hs1_le hw) ?_
      rw [← hS]
      walk_at "vc"
      refine alike_ok (n := 4) rfl (sz_told (hS ▸ sz_sender (hs1_le hw) (fun r _ => by omega) (fun i _ => sz_zeros (by omega)) fun i hi => sz_unit (by omega) (by omega))) (by omega) (by omega) ?_
      walk_at "vc"
      exact ⟨_, rfl, .fz⟩

theorem menu_sz : ∀ x ∈ menu, (PyData.str x).shown.length ≤ 20 := by decide +kernel
theorem odd_names : ("" : Str) ∉ menu ∧ ("nobody" : Str) ∉ menu := by decide +kernel
theorem plain_law : PlainLaw F_law := by
  intro ns hl _
  suffices h : W (F_law [.ro 0 (.list (ns.map PyData.int))]) (fun r _ => ∃ k, r = .ok (k, .bool true)) by
    obtain ⟨r, outs, e, k, rfl⟩ := h
    exact ⟨k, outs, e⟩
  refine W_fn rfl rfl ?_
  unfold b_law
  walk_at "vc"
  refine bag_ok hl fun b hb => ?_
  walk_at "vc"
  refine ⟨by decide, ?_⟩
  generalize hsc : PyData.list (ns.map PyData.int) = sc
  refine W_forR (fun i ρ => ∃ b' x2 x3 x4 x6, BagOk b' ∧ ρ = [.ro 0 sc, .ow 1 b', x2, x3, x4, .un, x6, .un] ∧ Lo x2 ∧ Lo x3 ∧ Lo x4 ∧ Lo x6) ⟨b, _, _, _, _, hb, rfl, .un, .un, .un, .un⟩ (fun ρ h => ?_) fun i ρ hi h => ?_
  · obtain ⟨b', x2, x3, x4, x6, hb', rfl, h2, h3, h4, h6⟩ := h
    walk_at "vc"
    exact ⟨_, rfl⟩
  · obtain ⟨b', x2, x3, x4, x6, hb', rfl, h2, h3, h4, h6⟩ := h
    refine W_asg_lo h2 (by simp) ?_
    walk_at "vc"
    refine works_ok (kinds := 3) (hands := 2) (recs := 2) hb' (by omega) (by omega) (by omega) fun b2 d hb2 hd => ?_
    walk_at "vc"
    rw [setW_Lo h3]
    walk_at "vc"
    refine one_ok hb2 (by simp) (by simp) fun b3 d3 hb3 hd3 => ?_
    obtain ⟨w, rfl, hw⟩ : ∃ w : Nat, d3 = .int ((w : Int) + 1) ∧ w ≤ 7 := by
      simp only [List.mem_cons, List.not_mem_nil, or_false] at hd3
      rcases hd3 with rfl | rfl | rfl | rfl | rfl | rfl | rfl
      · exact ⟨1, rfl, by omega⟩
      · exact ⟨2, rfl, by omega⟩
      · exact ⟨0, rfl, by omega⟩
      · exact ⟨3, rfl, by omega⟩
      · exact ⟨4, rfl, by omega⟩
      · exact ⟨7, rfl, by omega⟩
      · exact ⟨5, rfl, by omega⟩
    walk_at "vc"
    refine right_ok hb3 hd hw fun b4 hb4 => ?_
    obtain ⟨ks, xs, rs, rfl, k0, k1, x1, r1, nd, hm, hr⟩ := hd.ex
    obtain ⟨ndk, ndx, hdis⟩ := nodup_parts nd
    have hmk : ∀ y ∈ ks, y ∈ menu := fun y hy => hm y (List.mem_append_left _ hy)
    have hmx : ∀ y ∈ xs, y ∈ menu := fun y hy => hm y (List.mem_append_right _ hy)
    walk_at "vc"
    cases ks with
    | nil => simp at k0
    | cons k0' kr =>
      rw [show strsL (k0' :: kr) = .str k0' :: strsL kr from rfl]
      walk_at "vc"
      rw [show (some 1 : Option Int) = some ((1 : Nat) : Int) from rfl, cut_hi]
      refine one_ok hb4 (by simp) (by simp) fun b5 odd hb5 hodd => ?_
      walk_at "vc"
      rw [setW_Lo h4]
      walk_at "vc"
      have t6 : tagged 105 x6 = false := tg_lo h6
      have hodd2 : (∀ zs : List Str, (∀ y ∈ zs, y ∈ menu) → NotName zs odd) ∧ Sz 1 40 odd := by
        have hk : k0' ∈ menu := hmk k0' List.mem_cons_self
        have sk : Sz 0 20 (.str k0') := Sz.str (menu_sz k0' hk)
        simp only [List.mem_cons, List.not_mem_nil, or_false] at hodd
        rcases hodd with rfl | rfl | rfl | rfl | rfl | rfl | rfl | rfl
        · exact ⟨fun _ _ => trivial, Sz.none.up (by omega) (by omega)⟩
        · exact ⟨fun zs hz => ⟨by decide +kernel, fun h => odd_names.1 (hz _ h)⟩, (Sz.str (L := 20) (by decide +kernel)).up (by omega) (by omega)⟩
        · exact ⟨fun zs hz => ⟨by decide +kernel, fun h => odd_names.2 (hz _ h)⟩, (Sz.str (L := 20) (by decide +kernel)).up (by omega) (by omega)⟩
        · exact ⟨fun _ _ => trivial, (Sz.int (k := 4) (by omega) (by omega) (by decide)).up (by omega) (by omega)⟩
        · refine ⟨fun _ _ => trivial, Sz.lst' (n := 0) (L := 20) (m := 1) (fun e he => ?_) (by simp) (by omega)⟩
          rw [List.mem_singleton.mp he]; exact sk
        · refine ⟨fun _ _ => trivial, Sz.tup' (n := 0) (L := 20) (m := 1) (fun e he => ?_) (by simp) (by omega)⟩
          have : e = .str k0' := by simpa using he
          rw [this]; exact sk
        · exact ⟨fun _ _ => trivial, Sz.dict.up (by omega) (by omega)⟩
        · exact ⟨fun _ _ => trivial, Sz.bool.up (by omega) (by omega)⟩
      obtain ⟨hno, hsz⟩ := hodd2
      refine W_sActs rfl (by simp [noTag_nil, noTag_cons, tg_un, tg_fz, tg_ow, tg_ro, t6]) (by simp) ?_
      walk_at "vc"
      rw [setW_Lo h6]
      walk_at "vc"
      refine broken_no (ks := k0' :: kr) hmx (hno xs hmx) ?_
      walk_at "vc"
      rw [show ∀ d, tagOf tags (noName d) = some (.tuple [.str "no name", d]) from fun _ => rfl, oW_some]
      walk_at "vc"
      refine come_no (ks := k0' :: kr) hmk (hno _ hmk) ?_
      walk_at "vc"
      rw [show ∀ d, tagOf tags (noName d) = some (.tuple [.str "no name", d]) from fun _ => rfl, oW_some]
      walk_at "vc"
      have hk0 : k0' ∉ xs := fun z => hdis k0' z List.mem_cons_self
      refine broken_no (ks := k0' :: kr) hmx (show NotName xs (.str k0') from ⟨menu_ok _ (hmk k0' List.mem_cons_self), hk0⟩) ?_
      walk_at "vc"
      rw [show ∀ d, tagOf tags (noName d) = some (.tuple [.str "no name", d]) from fun _ => rfl, oW_some]
      walk_at "vc"
      have sk : Sz 1 40 (.str k0') := (Sz.str (menu_sz k0' (hmk k0' List.mem_cons_self))).up (by omega) (by omega)
      have pr : ∀ d, Sz 1 40 d → Sz 2 87 (.tuple [.str "no name", d]) := fun d hd => Sz.tup' (n := 1) (L := 40) (m := 2) (fun e he => by
        simp only [List.mem_cons, List.not_mem_nil, or_false] at he
        rcases he with rfl | rfl
        · exact (Sz.str (L := 20) (by decide +kernel)).up (by omega) (by omega)
        · exact hd) (by simp) (by omega)
      refine alike_ok (n := 2) (L := 1000) rfl (Sz.lst' (n := 2) (L := 87) (m := 3) (fun e he => ?_) (by simp) (by omega)) (by omega) (by omega) ?_
      · simp only [List.mem_cons, List.not_mem_nil, or_false] at he
        rcases he with rfl | rfl | rfl
        · exact pr _ hsz
        · exact pr _ hsz
        · exact pr _ sk
      walk_at "vc"
      refine ⟨kn_kn, by simp [noTag_nil, noTag_cons, tg_un, tg_fz, tg_ow, tg_ro], b5, _, _, _, _, hb5, rfl, .fz, .fz, .fz, .fz⟩


set_option maxHeartbeats 0
end NH
open PySem PySem.W PySem.Calls PyProof.Rows
theorem PySem.Challenge.cw_neverheaps_k84_promises_as_senders_holds : PySem.Challenge.rw_neverheaps_k84_promises_as_senders.Holds := by
  w_on; o_law
  refine HandSHeadRun.head_any (r := OpenLaw.row PySem.Challenge.rw_neverheaps_k84_promises_as_senders) (q := view (OpenLaw.row PySem.Challenge.rw_neverheaps_k84_promises_as_senders).prog [32]) (H := NH.hk) (ob := NH.ob) (M := 4000) (loose := NH.loose) (d := HandSHeadRun.topDef (OpenLaw.row PySem.Challenge.rw_neverheaps_k84_promises_as_senders).prog 32) (kwd := []) NH.ob_eq
    (by kernel_rfl) (fun s => by kernel_rfl) NH.run (by kernel_rfl) (by kernel_rfl) (by kernel_rfl) (by rfl) (by first | assumption | decide +kernel) (by decide +kernel) ⟨rfl, rfl, rfl, rfl, rfl, by decide +kernel⟩ ?hw ?hc
  case hw => w_witness2
  case hc => exact NH.end_walk (l := PySem.Challenge.rw_neverheaps_k84_promises_as_senders) (k := 11) (x := "law") rfl (by kernel_rfl) (by kernel_rfl) ⟨rfl, by decide, by decide⟩ NH.plain_law fun w mg fa h K KX G c hmg => NH.facts KX G c
