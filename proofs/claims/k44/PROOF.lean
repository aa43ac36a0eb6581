import PyProof.Rows.All
import Wide.All
import OpenK.AllK
import Wide.FinOn
import HandS.ForMost
import HandS.ForExc
import HandS.CallSlots
import HandS.ExcInit
import HandS.TupAny
import HandS.TupLe
import HandS.TupMul
import HandS.Wide
import HandS.IsInst
import HandS.Conv
import HandS.Zip
import HandS.TryMany
import HandS.Flow
import HandS.Lambda
import HandS.EndTab
import KE.GoesEnum
import KE.GoesMore
import HandS.SortInts
import HandS.SetFor
import HandS.Style
import HandS.Deep
import HandS.Text
import HandS.ExcIs
import HandS.ExcField
import KE.KExcIs
import PyProof.ReprRoads
import PySem.Challenge.RW_cordshall_k44_whole_fractions_of_turns
set_option Elab.async false
set_option linter.all false
set_option maxRecDepth 100000
set_option maxHeartbeats 4000000
namespace Cs
open PySem L2

/-! ## data -/
/-- a value by its content -/
inductive D where
  | non | bl (b : Bool) | int (i : Int) | str (x : Str)
  | tup (xs : List D) | lst (xs : List D) | scr (xs : List D) | dic (kvs : List (D × D))
  | ins (c : Str) (fs : List (Str × D)) | fn (x : Str)

/-- the module's written part, its names -/
structure Mdl where
  K : PySem.W.Frag
  mg : Str → Option Value
  /-- tables of code objects -/
  T : List (Addr × Str) := []

def keyD : Key → D
  | .inl i => .int i
  | .inr x => .str x

mutual
/-- v stands for d; what it leans on lies in G (which never changes) -/
inductive Rep (M : Mdl) (G : Hp) : V → D → Prop
  | non : Rep M G .non .non
  | bl (b : Bool) : Rep M G (.bl b) (.bl b)
  | int (i : Int) : Rep M G (.int i) (.int i)
  | str (x : Str) : Rep M G (.str x) (.str x)
  | tup {a : Addr} {vs : List V} {ds : List D} : SqT M.K G a vs → Reps M G vs ds → Rep M G (.ref a) (.tup ds)
  | lst {a : Addr} {vs : List V} {ds : List D} : G a = some (.lst vs) → Reps M G vs ds → Rep M G (.ref a) (.lst ds)
  | scr {a : Addr} {vs : List V} {ds : List D} : SqL M.K G a vs → Reps M G vs ds → Rep M G (.ref a) (.scr ds)
  | dicK {a : Addr} {kvs : List (Key × V)} {ds : List D} : G a = some (.dK kvs) → Reps M G (kvs.map (·.2)) ds → Rep M G (.ref a) (.dic ((kvs.map fun p => keyD p.1).zip ds))
  | dicT {a : Addr} {kvs : List (List Key × V)} {ds : List D} : G a = some (.dT kvs) → Reps M G (kvs.map (·.2)) ds → Rep M G (.ref a) (.dic ((kvs.map fun p => D.tup (p.1.map keyD)).zip ds))
  | ins {a C dx : Addr} {c : Str} {fs : List (Str × V)} {ds : List D} : G a = some (.ins C dx fs) → M.mg c = some (.ref C) → Reps M G (fs.map (·.2)) ds → Rep M G (.ref a) (.ins c ((fs.map (·.1)).zip ds))
  | fn {f : Addr} {x : Str} : M.mg x = some (.ref f) → Rep M G (.ref f) (.fn x)
inductive Reps (M : Mdl) (G : Hp) : List V → List D → Prop
  | nil : Reps M G [] []
  | cons {v : V} {d : D} {vs : List V} {ds : List D} : Rep M G v d → Reps M G vs ds → Reps M G (v :: vs) (d :: ds)
end

def GE (G G' : Hp) : Prop := ∀ a o, G a = some o → G' a = some o
theorem GE.refl (G : Hp) : GE G G := fun _ _ h => h
theorem GE.trans {A B C : Hp} (x : GE A B) (y : GE B C) : GE A C := fun a o h => y a o (x a o h)
theorem GE.upd {G : Hp} {a : Addr} {o : HO} (h : G a = none) : GE G (upd G a o) := fun b u e => by
  rw [upd_ne (ne_of_none e h)]; exact e
theorem rd_ge {G G' : Hp} {a : Addr} {u : HO} (e : GE G G') (h : Rd G a u) : Rd G' a u := by
  rcases h with h | ⟨o, h⟩
  · exact .inl (e _ _ h)
  · exact .inr ⟨o, e _ _ h⟩
theorem sql_ge {K : PySem.W.Frag} {G G' : Hp} {a : Addr} {xs : List V} (e : GE G G') (h : SqL K G a xs) : SqL K G' a xs := by
  rcases h with h | h
  · exact .inl (rd_ge e h)
  · exact .inr h
theorem sqt_ge {K : PySem.W.Frag} {G G' : Hp} {a : Addr} {xs : List V} (e : GE G G') (h : SqT K G a xs) : SqT K G' a xs := by
  rcases h with h | h
  · exact .inl (rd_ge e h)
  · exact .inr h

mutual
theorem Rep.mono {M : Mdl} {G G' : Hp} (e : GE G G') : ∀ {v : V} {d : D}, Rep M G v d → Rep M G' v d
  | _, _, .non => .non
  | _, _, .bl b => .bl b
  | _, _, .int i => .int i
  | _, _, .str x => .str x
  | _, _, .tup h r => .tup (sqt_ge e h) (Reps.mono e r)
  | _, _, .lst h r => .lst (e _ _ h) (Reps.mono e r)
  | _, _, .scr h r => .scr (sql_ge e h) (Reps.mono e r)
  | _, _, .dicK h r => .dicK (e _ _ h) (Reps.mono e r)
  | _, _, .dicT h r => .dicT (e _ _ h) (Reps.mono e r)
  | _, _, .ins h m r => .ins (e _ _ h) m (Reps.mono e r)
  | _, _, .fn h => .fn h
theorem Reps.mono {M : Mdl} {G G' : Hp} (e : GE G G') : ∀ {vs : List V} {ds : List D}, Reps M G vs ds → Reps M G' vs ds
  | _, _, .nil => .nil
  | _, _, .cons h r => .cons (Rep.mono e h) (Reps.mono e r)
end
theorem Reps.length {M : Mdl} {G : Hp} : ∀ {vs : List V} {ds : List D}, Reps M G vs ds → vs.length = ds.length
  | _, _, .nil => rfl
  | _, _, .cons _ r => by rw [List.length_cons, List.length_cons, r.length]
theorem Reps.append {M : Mdl} {G : Hp} : ∀ {vs : List V} {ds : List D} {ws : List V} {es : List D}, Reps M G vs ds → Reps M G ws es → Reps M G (vs ++ ws) (ds ++ es)
  | _, _, _, _, .nil, s => s
  | _, _, _, _, .cons h r, s => .cons h (Reps.append r s)
theorem Reps.get {M : Mdl} {G : Hp} : ∀ {vs : List V} {ds : List D}, Reps M G vs ds → ∀ {i : Nat} {d : D}, ds[i]? = some d → ∃ v, vs[i]? = some v ∧ Rep M G v d
  | _, _, .nil, i, d, e => by simp at e
  | _, _, .cons h r, 0, d, e => ⟨_, rfl, by simp at e; exact e ▸ h⟩
  | _, _, .cons h r, i + 1, d, e => r.get (i := i) (by simpa using e)
theorem Reps.getV {M : Mdl} {G : Hp} : ∀ {vs : List V} {ds : List D}, Reps M G vs ds → ∀ {i : Nat} {v : V}, vs[i]? = some v → ∃ d, ds[i]? = some d ∧ Rep M G v d
  | _, _, .nil, i, d, e => by simp at e
  | _, _, .cons h r, 0, d, e => ⟨_, rfl, by simp at e; exact e ▸ h⟩
  | _, _, .cons h r, i + 1, d, e => r.getV (i := i) (by simpa using e)
theorem Reps.set {M : Mdl} {G : Hp} {x : V} {d : D} (h : Rep M G x d) : ∀ {vs : List V} {ds : List D}, Reps M G vs ds → ∀ (i : Nat), Reps M G (vs.set i x) (ds.set i d)
  | _, _, .nil, i => .nil
  | _, _, .cons a r, 0 => .cons h r
  | _, _, .cons a r, i + 1 => .cons a (Reps.set h r i)
theorem Reps.take {M : Mdl} {G : Hp} : ∀ {vs : List V} {ds : List D}, Reps M G vs ds → ∀ (i : Nat), Reps M G (vs.take i) (ds.take i)
  | _, _, .nil, i => by simp; exact .nil
  | _, _, .cons a r, 0 => .nil
  | _, _, .cons a r, i + 1 => .cons a (Reps.take r i)
theorem Reps.drop {M : Mdl} {G : Hp} : ∀ {vs : List V} {ds : List D}, Reps M G vs ds → ∀ (i : Nat), Reps M G (vs.drop i) (ds.drop i)
  | _, _, .nil, i => by simp; exact .nil
  | _, _, .cons a r, 0 => .cons a r
  | _, _, .cons a r, i + 1 => Reps.drop r i

/-! ## what a def's own objects are -/
inductive OO where
  | lst (xs : List D)
  | dicK (kvs : List (Key × D)) | dicT (kvs : List (List Key × D))
  | ins (c : Str) (fs : List (Str × D))
/-- a slot: a value; an object of one's own; one that the caller lent -/
inductive SV where
  | val (d : D) | own (o : OO) | bor (o : OO)
  /-- something that is only handed on (an error in hand, a lambda) -/
  | pin
abbrev Env := List (Option SV)

def OO.fr : OO → D
  | .lst xs => .lst xs
  | .dicK kvs => .dic (kvs.map fun p => (keyD p.1, p.2))
  | .dicT kvs => .dic (kvs.map fun p => (.tup (p.1.map keyD), p.2))
  | .ins c fs => .ins c fs

/-- the object o stands at v; fp: its addresses -/
def OwnAt (M : Mdl) (G H : Hp) : OO → V → List Addr → Prop
  | .lst ds, v, fp => ∃ a vs, v = .ref a ∧ fp = [a] ∧ H a = some (.lst vs) ∧ Reps M G vs ds
  | .dicK kds, v, fp => ∃ a vs, v = .ref a ∧ fp = [a] ∧ H a = some (.dK ((kds.map (·.1)).zip vs)) ∧ Reps M G vs (kds.map (·.2))
  | .dicT kds, v, fp => ∃ a vs, v = .ref a ∧ fp = [a] ∧ H a = some (.dT ((kds.map (·.1)).zip vs)) ∧ Reps M G vs (kds.map (·.2))
  | .ins c fds, v, fp => ∃ a C dx vs, v = .ref a ∧ fp = [a] ∧ M.mg c = some (.ref C) ∧ H a = some (.ins C dx ((fds.map (·.1)).zip vs)) ∧ Reps M G vs (fds.map (·.2))

theorem OwnAt.mono {M : Mdl} {G G' H H' : Hp} {o : OO} {v : V} {fp : List Addr} (x : OwnAt M G H o v fp) (e : GE G G') (k : ∀ a ∈ fp, H' a = H a) : OwnAt M G' H' o v fp := by
  cases o with
  | lst ds => obtain ⟨a, vs, rfl, rfl, h, r⟩ := x; exact ⟨a, vs, rfl, rfl, by rw [k a (by simp)]; exact h, r.mono e⟩
  | dicK ds => obtain ⟨a, vs, rfl, rfl, h, r⟩ := x; exact ⟨a, vs, rfl, rfl, by rw [k a (by simp)]; exact h, r.mono e⟩
  | dicT ds => obtain ⟨a, vs, rfl, rfl, h, r⟩ := x; exact ⟨a, vs, rfl, rfl, by rw [k a (by simp)]; exact h, r.mono e⟩
  | ins c ds => obtain ⟨a, C, dx, vs, rfl, rfl, m, h, r⟩ := x; exact ⟨a, C, dx, vs, rfl, rfl, m, by rw [k a (by simp)]; exact h, r.mono e⟩
theorem OwnAt.at {M : Mdl} {G H : Hp} {o : OO} {v : V} {fp : List Addr} (x : OwnAt M G H o v fp) : ∃ a, v = .ref a ∧ fp = [a] ∧ H a ≠ none := by
  cases o with
  | lst ds => obtain ⟨a, vs, rfl, rfl, h, r⟩ := x; exact ⟨a, rfl, rfl, by rw [h]; simp⟩
  | dicK ds => obtain ⟨a, vs, rfl, rfl, h, r⟩ := x; exact ⟨a, rfl, rfl, by rw [h]; simp⟩
  | dicT ds => obtain ⟨a, vs, rfl, rfl, h, r⟩ := x; exact ⟨a, rfl, rfl, by rw [h]; simp⟩
  | ins c ds => obtain ⟨a, C, dx, vs, rfl, rfl, m, h, r⟩ := x; exact ⟨a, rfl, rfl, by rw [h]; simp⟩

def SlotAt (M : Mdl) (G H : Hp) (s : Option SV) (v : Option V) (fp : List Addr) : Prop :=
  match s with
  | none => fp = []
  | some (.val d) => fp = [] ∧ ∃ u, v = some u ∧ Rep M G u d
  | some (.own o) => ∃ u, v = some u ∧ OwnAt M G H o u fp
  | some (.bor o) => ∃ u, v = some u ∧ OwnAt M G H o u fp
  | some .pin => fp = []
theorem SlotAt.mono {M : Mdl} {G G' H H' : Hp} {s : Option SV} {v : Option V} {fp : List Addr} (x : SlotAt M G H s v fp) (e : GE G G') (k : ∀ a ∈ fp, H' a = H a) : SlotAt M G' H' s v fp := by
  cases s with
  | none => exact x
  | some s =>
    cases s with
    | val d => obtain ⟨f, u, h, r⟩ := x; exact ⟨f, u, h, r.mono e⟩
    | own o => obtain ⟨u, h, r⟩ := x; exact ⟨u, h, r.mono e k⟩
    | bor o => obtain ⟨u, h, r⟩ := x; exact ⟨u, h, r.mono e k⟩
    | pin => exact x

/-- what is fixed while a body runs: the heap and its unchanging part at the entry; the lent objects' addresses, their places -/
structure Fm where
  H0 : Hp
  G0 : Hp
  io : List Addr
  bor : List (Nat × V)
  /-- other objects that stay as they are (a comprehension's list) -/
  pro : List (Addr × HO) := []
  /-- .. and may be leant on -/
  kep : List (Addr × HO) := []
  /-- slots that are only handed on -/
  pin : List (Nat × V) := []

/-- a slot of the lent kind -/
def IsBor : Option SV → Prop
  | some (.bor _) => True
  | some .pin => True
  | _ => False
/-- lent -/
def IsLent : Option SV → Prop
  | some (.bor _) => True
  | _ => False
theorem IsLent.bor {s : Option SV} (h : IsLent s) : IsBor s := by
  cases s with
  | none => exact h
  | some z => cases z <;> first | trivial | exact h
/-- a table of code objects -/
def ist : HO → Bool
  | .tbl _ => true
  | _ => false
/-- a heap without its tables -/
def nt (H : Hp) : Hp := fun a => match H a with
  | some o => if ist o = true then none else some o
  | none => none
theorem nt_some {H : Hp} {a : Addr} {o : HO} (h : nt H a = some o) : H a = some o ∧ ist o = false := by
  unfold nt at h
  split at h
  · rename_i o' q
    split at h
    · cases h
    · rename_i n; cases h; exact ⟨q, by simpa using n⟩
  · cases h
theorem nt_of {H : Hp} {a : Addr} {o : HO} (h : H a = some o) (n : ist o = false) : nt H a = some o := by
  unfold nt; rw [h]; dsimp only; rw [n]; rfl
theorem nt_none {H : Hp} {a : Addr} (h : H a = none) : nt H a = none := by
  unfold nt; rw [h]
theorem nt_ne {H : Hp} {a : Addr} (h : nt H a ≠ none) : ∃ o, H a = some o ∧ ist o = false := by
  cases q : nt H a with
  | none => exact absurd q h
  | some o => exact ⟨o, nt_some q⟩
theorem nt_up {H H' : Hp} {f : List Addr} (frm : ∀ a o, H a = some o → a ∉ f → H' a = some o) (hf : ∀ a ∈ f, ∃ o, H' a = some o ∧ ist o = false) : ∀ a, nt H a ≠ none → nt H' a ≠ none := fun a h => by
  by_cases m : a ∈ f
  · obtain ⟨o, q, n⟩ := hf a m
    rw [nt_of q n]; simp
  · obtain ⟨o, q, n⟩ := nt_ne h
    rw [nt_of (frm a o q m) n]; simp
theorem nt_upd {H : Hp} {a : Addr} {o : HO} (h : ist o = false) (b : Addr) (q : nt H b ≠ none) : nt (upd H a o) b ≠ none := by
  by_cases z : b = a
  · rw [z, nt_of upd_same h]; simp
  · obtain ⟨u, q, n⟩ := nt_ne q
    rw [nt_of (by rw [upd_ne z]; exact q) n]; simp
/-- what can be one's own -/
def ownk : HO → Bool
  | .lst _ => true
  | .dK _ => true
  | .dT _ => true
  | .ins _ _ _ => true
  | _ => false
theorem ownk_ist {o : HO} (h : ownk o = true) : ist o = false := by
  cases o <;> first | rfl | cases h
theorem ownk_ext {o : HO} (h : ownk o = true) (p : Heap → Prop) : o ≠ .ext p := fun z => by rw [z] at h; cases h
theorem ist_no {o : HO} (h : ∀ ps, o ≠ .tbl ps) : ist o = false := by
  cases o <;> first | rfl | exact absurd rfl (h _)
theorem no_ist {o : HO} (h : ist o = false) (ps : Array Value) : o ≠ .tbl ps := fun z => by rw [z] at h; cases h
/-- fp: the addresses of each slot's own objects -/
structure SimF (M : Mdl) (F : Fm) (G : Hp) (env : Env) (σ : St) (H : Hp) (fp : Nat → List Addr) : Prop where
  len : env.length = σ.length
  sub : GE G H
  low : GE F.G0 G
  hnt : ∀ a o, F.H0 a = some o → ist o = false
  frm : ∀ a o, F.H0 a = some o → a ∉ F.io → H a = some o
  gnt : ∀ a o, G a = some o → ist o = false
  tab : LamX.Tabs M.T H
  dom : ∀ a, F.H0 a ≠ none → nt H a ≠ none
  new : ∀ a, G a ≠ none → F.G0 a ≠ none ∨ F.H0 a = none
  at_ : ∀ i, SlotAt M G H (env.getD i none) (σ.getD i none) (fp i)
  dj : ∀ i j a, i ≠ j → a ∈ fp i → a ∉ fp j
  own : ∀ i a, a ∈ fp i → G a = none ∧ (F.H0 a = none ∨ (a ∈ F.io ∧ IsBor (env.getD i none)))
  bor : ∀ p ∈ F.bor, IsLent (env.getD p.1 none) ∧ σ.getD p.1 none = some p.2
  pin : ∀ p ∈ F.pin, env.getD p.1 none = some .pin ∧ σ.getD p.1 none = some p.2
  pro : ∀ p ∈ F.pro, H p.1 = some p.2 ∧ G p.1 = none ∧ ∀ i, p.1 ∉ fp i
  pnt : ∀ p ∈ F.pro, ist p.2 = false
  kep : ∀ p ∈ F.kep, H p.1 = some p.2 ∧ ist p.2 = false ∧ ownk p.2 = false
def Sim (M : Mdl) (F : Fm) (G : Hp) (env : Env) (σ : St) (H : Hp) : Prop := ∃ fp, SimF M F G env σ H fp

theorem getD_of {α : Type} {l : List (Option α)} {i : Nat} {a : Option α} (h : l[i]? = some a) : l.getD i none = a := by
  rw [List.getD_eq_getElem?_getD, h]; rfl
theorem getD_set_ne {α : Type} {l : List (Option α)} {i j : Nat} {a : Option α} (h : j ≠ i) : (l.set i a).getD j none = l.getD j none := by
  rw [List.getD_eq_getElem?_getD, List.getD_eq_getElem?_getD, List.getElem?_set_ne (Ne.symm h)]
theorem getD_set_eq {α : Type} {l : List (Option α)} {i : Nat} {a : Option α} (h : i < l.length) : (l.set i a).getD i none = a := by
  rw [List.getD_eq_getElem?_getD, List.getElem?_set_self h]; rfl
theorem lt_of_get {α : Type} {l : List α} {i : Nat} {a : α} (h : l[i]? = some a) : i < l.length := (List.getElem?_eq_some_iff.mp h).1
theorem get_of_getD {α : Type} {l : List (Option α)} {i : Nat} {a : α} (h : l.getD i none = some a) : l[i]? = some (some a) := by
  rw [List.getD_eq_getElem?_getD] at h
  cases q : l[i]? with
  | none => rw [q] at h; cases h
  | some z => rw [q] at h; exact congrArg some h

theorem SlotAt.there {M : Mdl} {G H : Hp} {s : Option SV} {v : Option V} {fp : List Addr} (x : SlotAt M G H s v fp) {a : Addr} (m : a ∈ fp) : H a ≠ none := by
  cases s with
  | none => rw [show fp = [] from x] at m; cases m
  | some z =>
    have key : ∀ o u, OwnAt M G H o u fp → H a ≠ none := fun o u ow => by
      obtain ⟨b, _, hf, hn⟩ := ow.at
      rw [hf] at m
      have : a = b := by simpa using m
      rw [this]; exact hn
    cases z with
    | val d => rw [x.1] at m; cases m
    | own o => obtain ⟨u, _, ow⟩ := x; exact key o u ow
    | bor o => obtain ⟨u, _, ow⟩ := x; exact key o u ow
    | pin => rw [show fp = [] from x] at m; cases m
theorem OwnAt.kind {M : Mdl} {G H : Hp} {o : OO} {v : V} {fp : List Addr} (x : OwnAt M G H o v fp) {a : Addr} (m : a ∈ fp) : ∃ u, H a = some u ∧ ownk u = true := by
  cases o with
  | lst ds => obtain ⟨b, vs, rfl, rfl, h, r⟩ := x; rw [List.mem_singleton.mp m]; exact ⟨_, h, rfl⟩
  | dicK ds => obtain ⟨b, vs, rfl, rfl, h, r⟩ := x; rw [List.mem_singleton.mp m]; exact ⟨_, h, rfl⟩
  | dicT ds => obtain ⟨b, vs, rfl, rfl, h, r⟩ := x; rw [List.mem_singleton.mp m]; exact ⟨_, h, rfl⟩
  | ins c ds => obtain ⟨b, C, dx, vs, rfl, rfl, m', h, r⟩ := x; rw [List.mem_singleton.mp m]; exact ⟨_, h, rfl⟩
theorem OwnAt.obk {M : Mdl} {G H : Hp} {o : OO} {p : Addr} {ob : HO} {fp : List Addr} (x : OwnAt M G (upd H p ob) o (.ref p) fp) (hp : p ∈ fp) : ist ob = false := by
  obtain ⟨u, q, n⟩ := x.kind hp
  rw [upd_same] at q; cases q; exact ownk_ist n
theorem SlotAt.kind {M : Mdl} {G H : Hp} {s : Option SV} {v : Option V} {fp : List Addr} (x : SlotAt M G H s v fp) {a : Addr} (m : a ∈ fp) : ∃ u, H a = some u ∧ ownk u = true := by
  cases s with
  | none => rw [show fp = [] from x] at m; cases m
  | some z =>
    cases z with
    | val d => rw [x.1] at m; cases m
    | own o => obtain ⟨u, _, ow⟩ := x; exact ow.kind m
    | bor o => obtain ⟨u, _, ow⟩ := x; exact ow.kind m
    | pin => rw [show fp = [] from x] at m; cases m
/-- tables and their code objects are no slot's own -/
theorem tabs_but {T : List (Addr × Str)} {H H' : Hp} (t : LamX.Tabs T H) {f : List Addr} (hk : ∀ a ∈ f, ∃ u, H a = some u ∧ ownk u = true) (k : ∀ a o, H a = some o → a ∉ f → H' a = some o) : LamX.Tabs T H' := by
  intro p hp
  obtain ⟨ps, h1, h2, h3⟩ := t p hp
  refine ⟨ps, k _ _ h1 fun m => ?_, h2, fun pos cv hc => ?_⟩
  · obtain ⟨u, hu, n⟩ := hk _ m
    rw [h1] at hu; cases hu; cases n
  · obtain ⟨c, e, hc'⟩ := h3 pos cv hc
    refine ⟨c, e, k _ _ hc' fun m => ?_⟩
    obtain ⟨u, hu, n⟩ := hk _ m
    rw [hc'] at hu; cases hu; exact ownk_ext n _ rfl

def fps (fp : Nat → List Addr) (i : Nat) (f : List Addr) : Nat → List Addr := fun j => if j = i then f else fp j
theorem fps_eq {fp : Nat → List Addr} {i : Nat} {f : List Addr} : fps fp i f i = f := if_pos rfl
theorem fps_ne {fp : Nat → List Addr} {i j : Nat} {f : List Addr} (h : j ≠ i) : fps fp i f j = fp j := if_neg h

/-- one slot changes, with it what it owns; new objects may be laid -/
theorem SimF.change {M : Mdl} {F : Fm} {G G' : Hp} {e : Env} {σ : St} {H H' : Hp} {fp : Nat → List Addr} (s : SimF M F G e σ H fp) {i : Nat} {sv : Option SV} {v : Option V} {f : List Addr} (hi : i < e.length)
    (ge : GE G G') (sub : GE G' H') (frm : ∀ a o, H a = some o → a ∉ fp i → H' a = some o) (dom : ∀ a, nt H a ≠ none → nt H' a ≠ none)
    (new : ∀ a, G' a ≠ none → G a ≠ none ∨ H a = none ∨ (a ∈ fp i ∧ ¬ IsBor (e.getD i none))) (at' : SlotAt M G' H' sv v f)
    (fr : ∀ a ∈ f, G' a = none ∧ (H a = none ∨ a ∈ fp i)) (hb : (¬ IsBor (e.getD i none) ∧ ¬ IsBor sv) ∨ (IsLent (e.getD i none) ∧ IsLent sv ∧ σ.getD i none = v)) (gnt : ∀ a o, G' a = some o → ist o = false) :
    SimF M F G' (e.set i sv) (σ.set i v) H' (fps fp i f) where
  len := by simpa using s.len
  sub := sub
  low := s.low.trans ge
  hnt := s.hnt
  frm := fun a o h n => by
    refine frm a o (s.frm a o h n) fun m => ?_
    rcases (s.own i a m).2 with z | ⟨z, _⟩
    · rw [z] at h; cases h
    · exact n z
  gnt := gnt
  tab := tabs_but s.tab (fun a m => (s.at_ i).kind m) frm
  dom := fun a h => dom a (s.dom a h)
  new := fun a h => by
    rcases new a h with z | z | ⟨z, nb⟩
    · exact s.new a z
    · refine .inr ?_
      cases q : F.H0 a with
      | none => rfl
      | some u => exact absurd (nt_none z) (s.dom a (by rw [q]; simp))
    · rcases (s.own i a z).2 with y | ⟨_, y⟩
      · exact .inr y
      · exact absurd y nb
  at_ := fun j => by
    by_cases z : j = i
    · subst z
      rw [getD_set_eq hi, getD_set_eq (by rw [← s.len]; exact hi), fps_eq]; exact at'
    · rw [getD_set_ne z, getD_set_ne z, fps_ne z]
      refine (s.at_ j).mono ge fun a m => ?_
      have hn := (s.at_ j).there m
      cases q : H a with
      | none => exact absurd q hn
      | some o => exact frm a o q (s.dj j i a z m)
  dj := fun j k a njk m => by
    by_cases zj : j = i
    · subst zj
      rw [fps_eq] at m
      rw [fps_ne (Ne.symm njk)]
      rcases (fr a m).2 with z | z
      · exact fun m' => (s.at_ k).there m' z
      · exact s.dj j k a njk z
    · rw [fps_ne zj] at m
      by_cases zk : k = i
      · subst zk
        rw [fps_eq]
        intro m'
        rcases (fr a m').2 with z | z
        · exact (s.at_ j).there m z
        · exact s.dj k j a (Ne.symm njk) z m
      · rw [fps_ne zk]; exact s.dj j k a njk m
  own := fun j a m => by
    by_cases z : j = i
    · subst z
      rw [fps_eq] at m
      rw [getD_set_eq hi]
      refine ⟨(fr a m).1, ?_⟩
      rcases (fr a m).2 with y | y
      · refine .inl ?_
        cases q : F.H0 a with
        | none => rfl
        | some u => exact absurd (nt_none y) (s.dom a (by rw [q]; simp))
      · rcases (s.own j a y).2 with x | ⟨x, w⟩
        · exact .inl x
        · rcases hb with ⟨p, _⟩ | ⟨_, p, _⟩
          · exact absurd w p
          · exact .inr ⟨x, p.bor⟩
    · rw [fps_ne z] at m
      rw [getD_set_ne z]
      refine ⟨?_, (s.own j a m).2⟩
      cases q : G' a with
      | none => rfl
      | some u =>
        rcases new a (by rw [q]; simp) with y | y | ⟨y, _⟩
        · exact absurd (s.own j a m).1 y
        · exact absurd y ((s.at_ j).there m)
        · exact absurd y (s.dj j i a z m)
  bor := fun p hp => by
    obtain ⟨a, b⟩ := s.bor p hp
    by_cases z : p.1 = i
    · rcases hb with ⟨q, _⟩ | ⟨_, q, r⟩
      · exact absurd (z ▸ a.bor) q
      · rw [z, getD_set_eq hi, getD_set_eq (by rw [← s.len]; exact hi)]
        rw [z] at b
        exact ⟨q, by rw [← r]; exact b⟩
    · rw [getD_set_ne z, getD_set_ne z]; exact ⟨a, b⟩
  pin := fun p hp => by
    obtain ⟨a, b⟩ := s.pin p hp
    have z : p.1 ≠ i := fun z => by
      rw [z] at a
      rcases hb with ⟨q, _⟩ | ⟨q, _⟩
      · rw [a] at q; exact q trivial
      · rw [a] at q; exact q
    rw [getD_set_ne z, getD_set_ne z]; exact ⟨a, b⟩
  pnt := s.pnt
  pro := fun p hp => by
    obtain ⟨a, b, c⟩ := s.pro p hp
    refine ⟨frm _ _ a (c i), ?_, fun j m => ?_⟩
    · cases q : G' p.1 with
      | none => rfl
      | some u =>
        rcases new p.1 (by rw [q]; simp) with y | y | ⟨y, _⟩
        · exact absurd b y
        · rw [a] at y; cases y
        · exact absurd y (c i)
    · by_cases z : j = i
      · subst z; rw [fps_eq] at m
        rcases (fr _ m).2 with y | y
        · rw [a] at y; cases y
        · exact c j y
      · rw [fps_ne z] at m; exact c j m
  kep := fun p hp => by
    obtain ⟨a, b, c⟩ := s.kep p hp
    refine ⟨frm _ _ a (fun m => ?_), b, c⟩
    obtain ⟨u, hu, n⟩ := (s.at_ i).kind m
    rw [a] at hu; cases hu; rw [c] at n; cases n
/-- nothing of the slots changes; new objects may be laid, tables written -/
theorem SimF.growN {M : Mdl} {F : Fm} {G G' : Hp} {e : Env} {σ : St} {H H' : Hp} {fp : Nat → List Addr} (s : SimF M F G e σ H fp)
    (ge : GE G G') (sub : GE G' H') (frm : ∀ a o, H a = some o → ist o = false → H' a = some o) (tab : LamX.Tabs M.T H') (gnt : ∀ a o, G' a = some o → ist o = false) (new : ∀ a, G' a ≠ none → G a ≠ none ∨ H a = none) : SimF M F G' e σ H' fp where
  len := s.len
  sub := sub
  low := s.low.trans ge
  hnt := s.hnt
  frm := fun a o h n => frm a o (s.frm a o h n) (s.hnt a o h)
  gnt := gnt
  tab := tab
  dom := fun a h => by
    obtain ⟨o, q, n⟩ := nt_ne (s.dom a h)
    rw [nt_of (frm a o q n) n]; simp
  new := fun a h => by
    rcases new a h with z | z
    · exact s.new a z
    · refine .inr ?_
      cases q : F.H0 a with
      | none => rfl
      | some u => exact absurd (nt_none z) (s.dom a (by rw [q]; simp))
  at_ := fun j => (s.at_ j).mono ge fun a m => by
    obtain ⟨u, q, n⟩ := (s.at_ j).kind m
    rw [q]; exact frm a u q (ownk_ist n)
  dj := s.dj
  own := fun j a m => ⟨by
    cases q : G' a with
    | none => rfl
    | some u =>
      rcases new a (by rw [q]; simp) with z | z
      · exact absurd (s.own j a m).1 z
      · exact absurd z ((s.at_ j).there m), (s.own j a m).2⟩
  bor := s.bor
  pin := s.pin
  pnt := s.pnt
  pro := fun p hp => by
    obtain ⟨a, b, c⟩ := s.pro p hp
    refine ⟨frm _ _ a (s.pnt p hp), ?_, c⟩
    cases q : G' p.1 with
    | none => rfl
    | some u =>
      rcases new p.1 (by rw [q]; simp) with y | y
      · exact absurd b y
      · rw [a] at y; cases y
  kep := fun p hp => by
    obtain ⟨a, b, c⟩ := s.kep p hp
    exact ⟨frm _ _ a b, b, c⟩
/-- nothing of the slots changes; new objects may be laid -/
theorem SimF.grow {M : Mdl} {F : Fm} {G G' : Hp} {e : Env} {σ : St} {H H' : Hp} {fp : Nat → List Addr} (s : SimF M F G e σ H fp)
    (ge : GE G G') (sub : GE G' H') (frm : ∀ a o, H a = some o → H' a = some o) (new : ∀ a, G' a ≠ none → G a ≠ none ∨ H a = none) (gnt : ∀ a o, G' a = some o → ist o = false) : SimF M F G' e σ H' fp where
  len := s.len
  sub := sub
  low := s.low.trans ge
  hnt := s.hnt
  frm := fun a o h n => frm a o (s.frm a o h n)
  gnt := gnt
  tab := s.tab.ext frm
  dom := fun a h => by
    obtain ⟨o, q, n⟩ := nt_ne (s.dom a h)
    rw [nt_of (frm a o q) n]; simp
  new := fun a h => by
    rcases new a h with z | z
    · exact s.new a z
    · refine .inr ?_
      cases q : F.H0 a with
      | none => rfl
      | some u => exact absurd (nt_none z) (s.dom a (by rw [q]; simp))
  at_ := fun j => (s.at_ j).mono ge fun a m => by
    cases q : H a with
    | none => exact absurd q ((s.at_ j).there m)
    | some u => exact frm a u q
  dj := s.dj
  own := fun j a m => ⟨by
    cases q : G' a with
    | none => rfl
    | some u =>
      rcases new a (by rw [q]; simp) with z | z
      · exact absurd (s.own j a m).1 z
      · exact absurd z ((s.at_ j).there m), (s.own j a m).2⟩
  bor := s.bor
  pin := s.pin
  pnt := s.pnt
  pro := fun p hp => by
    obtain ⟨a, b, c⟩ := s.pro p hp
    refine ⟨frm _ _ a, ?_, c⟩
    cases q : G' p.1 with
    | none => rfl
    | some u =>
      rcases new p.1 (by rw [q]; simp) with y | y
      · exact absurd b y
      · rw [a] at y; cases y
  kep := fun p hp => by
    obtain ⟨a, b, c⟩ := s.kep p hp
    exact ⟨frm _ _ a, b, c⟩

theorem gnt_upd {G : Hp} {a : Addr} {o : HO} (g : ∀ b u, G b = some u → ist u = false) (h : ist o = false) : ∀ b u, upd G a o b = some u → ist u = false := fun b u q => by
  by_cases z : b = a
  · rw [z, upd_same] at q; cases q; exact h
  · rw [upd_ne z] at q; exact g b u q
/-- an exception by its content -/
structure XV where
  cls : Str
  fs : List (Str × D)
inductive R (α : Type) where
  | ok (a : α) (e : Env)
  | exc (x : XV) (e : Env)
  | bad

def R.bind {α β : Type} (r : R α) (k : α → Env → R β) : R β :=
  match r with
  | .ok a e => k a e
  | .exc x e => .exc x e
  | .bad => .bad
/-- a computation over the slots -/
abbrev EM (α : Type) := Env → R α
def bnd {α β : Type} (f : EM α) (k : α → EM β) : EM β := fun e => (f e).bind k
def ret {α : Type} (a : α) : EM α := fun e => .ok a e
def fail {α : Type} : EM α := fun _ => .bad

end Cs

set_option maxRecDepth 100000
set_option maxHeartbeats 4000000
namespace Cs
open PySem L2

/-! ## where one stands -/
structure GC (N : List Str) (V : List Nat) (Gs : List Str) where
  X : Cx
  F : Fm
  W : WX
  lv : Nat
  hN : X.N = N
  nd : X.N.Nodup
  /-- names that may be read (1), stored too (2: a local; 3: a cell) -/
  vis : ∀ (i : Nat) (x : Str), N[i]? = some x → (V[i]? = some 1 ∨ V[i]? = some 2 ∨ V[i]? = some 3) → Vis X.env.scope x
  loc : ∀ (i : Nat) (x : Str), N[i]? = some x → V[i]? = some 2 → X.env.scope.names.lookup x = some .local
  cel : ∀ (i : Nat) (x : Str), N[i]? = some x → V[i]? = some 3 → X.env.scope.names.lookup x = some .cell ∧ X.fn x = true
  fre : ∀ (i : Nat) (x : Str), N[i]? = some x → V[i]? = some 1 → X.env.scope.names.lookup x = some .cell ∨ X.env.scope.names.lookup x = some .free
  fun_ : X.env.blockKind = .function
  gl : ∀ (j : Nat) (x : Str), Gs[j]? = some x → Gl X x
  tk : Takes X W
  po : PassesOwn (model X.prog X.w) X.A X.env X.xe
  hu : X.A.units + 64 < cLine
  /-- whether no repr is under way -/
  gb : Bool
  gd : gb = true → X.A.guards = some []
  /-- the tables of the code objects that hold a lambda -/
  T : List (Addr × Str)
  tu : ∀ p ∈ T, ∀ q ∈ T, p.1 = q.1 → p.2 = q.2
  lam : ∀ P, (P, X.env.qual ++ "<lambda>") ∈ T → ∃ c, X.env.code = .ref c ∧ LamX.TabB X.base X.mg c P

def GC.M {N : List Str} {V : List Nat} {Gs : List Str} (C : GC N V Gs) : Mdl := ⟨C.X.K, C.X.mg, C.T⟩

/-- an exception's content -/
def emp : Hp := fun _ => none
theorem GE.emp (G : Hp) : GE emp G := fun _ _ h => by cases h
def ExcAt (M : Mdl) (G H : Hp) (cls : Value) (d : Option Addr) (x : XV) : Prop :=
  ∃ C : Addr, cls = .ref C ∧ M.mg x.cls = some (.ref C) ∧ ((x.fs = [] ∧ d = none) ∨ ∃ (dx : Addr) (vs : List V), d = some dx ∧ H dx = some (.xd ((x.fs.map (·.1)).zip vs)) ∧ vs.length = x.fs.length ∧ Reps M emp vs (x.fs.map (·.2)))

section
variable {N : List Str} {V : List Nat} {Gs : List Str}

def Post {α β : Type} (rep : Hp → β → α → Prop) (C : GC N V Gs) (G : Hp) (r : R α) (σ : St) (Q : β → Hp → Prop) : Prop :=
  match r with
  | .ok a e => ∀ G' v H', GE G G' → Sim C.M C.F G' e σ H' → rep G' v a → Q v H'
  | .exc x e => ∀ G' H' cls d, GE G G' → Sim C.M C.F G' e σ H' → ExcAt C.M G' H' cls d x → C.W cls d σ H'
  | .bad => False
def Run {α β : Type} (rep : Hp → β → α → Prop) (C : GC N V Gs) (f : EM α) (G : Hp) (e : Env) (σ : St) (H : Hp) (Q : β → Hp → Prop) : Prop :=
  Sim C.M C.F G e σ H ∧ Post rep C G (f e) σ Q
def tOf {α β : Type} (rep : Hp → β → α → Prop) (C : GC N V Gs) (f : EM α) (σ : St) (H : Hp) (Q : β → Hp → Prop) : Prop :=
  ∃ G e, Run rep C f G e σ H Q

theorem Post.mono {α β : Type} {rep : Hp → β → α → Prop} {C : GC N V Gs} {G G' : Hp} {r : R α} {σ : St} {Q : β → Hp → Prop} (h : Post rep C G r σ Q) (g : GE G G') : Post rep C G' r σ Q := by
  cases r with
  | ok a e => exact fun G2 v H' g2 s p => h G2 v H' (g.trans g2) s p
  | exc x e => exact fun G2 H' c d g2 s p => h G2 H' c d (g.trans g2) s p
  | bad => exact h

/-- f, then k: f's reading from that of both -/
theorem Run.bind {α β γ δ : Type} {rep : Hp → β → α → Prop} {rep2 : Hp → δ → γ → Prop} {C : GC N V Gs} {f : EM α} {k : α → EM γ} {G : Hp} {e : Env} {σ : St} {H : Hp} {Q : δ → Hp → Prop}
    (h : Run rep2 C (bnd f k) G e σ H Q) : tOf rep C f σ H (fun x H1 => ∃ a G1 e1, GE G G1 ∧ rep G1 x a ∧ Run rep2 C (k a) G1 e1 σ H1 Q) := by
  obtain ⟨s, p⟩ := h
  refine ⟨G, e, s, ?_⟩
  unfold bnd at p
  cases q : f e with
  | ok a e1 =>
    rw [q] at p
    exact fun G' v H' g s' r => ⟨a, G', e1, g, r, s', p.mono g⟩
  | exc x e1 => rw [q] at p; exact p
  | bad => rw [q] at p; exact p
theorem Run.done {α β : Type} {rep : Hp → β → α → Prop} {C : GC N V Gs} {a : α} {v : β} {G : Hp} {e : Env} {σ : St} {H : Hp} {Q : β → Hp → Prop} (h : Run rep C (ret a) G e σ H Q) (r : rep G v a) : Q v H :=
  h.2 G v H (GE.refl G) h.1 r
/-- a step that only asks the slots -/
def ofO {α : Type} (o : Option α) : EM α := fun e => match o with
  | some a => .ok a e
  | none => .bad
theorem Run.ofO {α β : Type} {rep : Hp → β → α → Prop} {C : GC N V Gs} {o : Option α} {G : Hp} {e : Env} {σ : St} {H : Hp} {Q : β → Hp → Prop} (h : Run rep C (ofO o) G e σ H Q) : ∃ a, o = some a ∧ Sim C.M C.F G e σ H ∧ ∀ G' v H', GE G G' → Sim C.M C.F G' e σ H' → rep G' v a → Q v H' := by
  obtain ⟨s, p⟩ := h
  cases o with
  | none => exact p.elim
  | some a => exact ⟨a, rfl, s, p⟩

/-! ## the judgements -/
def SE (C : GC N V Gs) (e : Expr) (f : EM D) : Prop := PE C.X e (tOf (Rep C.M) C f)
def ST (C : GC N V Gs) (e : Expr) (f : EM Bool) : Prop := PT C.X e (tOf (fun _ b c => b = c) C f)
/-- an argument: a value; a slot that is lent -/
inductive Arg where
  | val (d : D) | slot (i : Nat)
theorem _root_.L2.PE.imp {X : Cx} {e : Expr} {t t' : TE} (h : PE X e t) (i : ∀ σ H Q, t' σ H Q → t σ H Q) : PE X e t' :=
  ⟨fun pins s σ H Q I q => h.run pins s σ H Q I (i σ H Q q)⟩
theorem _root_.L2.PT.imp {X : Cx} {e : Expr} {t t' : TT} (h : PT X e t) (i : ∀ σ H Q, t' σ H Q → t σ H Q) : PT X e t' :=
  ⟨fun pins s σ H Q I q => h.run pins s σ H Q I (i σ H Q q)⟩
theorem _root_.L2.PW.imp {X : Cx} {e : Expr} {t t' : TT} (h : PW X e t) (i : ∀ σ H Q, t' σ H Q → t σ H Q) : PW X e t' :=
  ⟨fun w pins s σ H Q I q => h.run w pins s σ H Q I (i σ H Q q)⟩
theorem _root_.L2.PA.imp {X : Cx} {e : List Expr} {t t' : TA} (h : PA X e t) (i : ∀ σ H Q, t' σ H Q → t σ H Q) : PA X e t' :=
  ⟨fun p pins s σ H Q I q => h.run p pins s σ H Q I (i σ H Q q)⟩
theorem _root_.L2.PS.imp {X : Cx} {e : Stmt} {t t' : TS} (h : PS X e t) (i : ∀ D σ H, t' D σ H → t D σ H) : PS X e t' :=
  ⟨fun pins s σ H D I q => h.run pins s σ H D I (i D σ H q)⟩
theorem _root_.L2.PSs.imp {X : Cx} {e : List Stmt} {t t' : TS} (h : PSs X e t) (i : ∀ D σ H, t' D σ H → t D σ H) : PSs X e t' :=
  ⟨fun pins s σ H D I q => h.run pins s σ H D I (i D σ H q)⟩

/-! ### names, constants -/
/-- a slot's value (an object of one's own is given out, and never changed again) -/
def eLoc (i : Nat) : EM D := fun e => match e[i]? with
  | some (some (.val d)) => .ok d e
  | some (some (.own o)) => .ok o.fr (e.set i (some (.val o.fr)))
  | _ => .bad
end

theorem zip_fst_map {α β γ : Type} (f : α → γ) : ∀ (l : List (α × β)) , (l.map fun p => (f p.1, p.2)) = ((l.map (·.1)).map f).zip (l.map (·.2))
  | [] => rfl
  | (a, b) :: r => by simp [zip_fst_map f r]

theorem zip_self {α β : Type} : ∀ (l : List (α × β)), (l.map (·.1)).zip (l.map (·.2)) = l
  | [] => rfl
  | (a, b) :: r => by simp [zip_self r]

/-- what an own object is, once it never changes again -/
theorem OwnAt.frozen {M : Mdl} {G H : Hp} {o : OO} {v : V} {fp : List Addr} (x : OwnAt M G H o v fp) (hfp : ∀ a ∈ fp, G a = none) : ∃ a ob, v = .ref a ∧ fp = [a] ∧ H a = some ob ∧ Rep M (upd G a ob) v o.fr := by
  cases o with
  | lst ds =>
    obtain ⟨a, vs, rfl, rfl, h, r⟩ := x
    exact ⟨a, _, rfl, rfl, h, .lst upd_same (r.mono (GE.upd (hfp a (by simp))))⟩
  | dicK kds =>
    obtain ⟨a, vs, rfl, rfl, h, r⟩ := x
    refine ⟨a, _, rfl, rfl, h, ?_⟩
    have hl : (kds.map (·.1)).length = vs.length := by rw [r.length]; simp
    have e1 : (((kds.map (·.1)).zip vs).map (·.2)) = vs := by rw [List.map_snd_zip]; omega
    have e2 : (((kds.map (·.1)).zip vs).map fun p => keyD p.1) = (kds.map (·.1)).map keyD := by
      rw [show (fun p : Key × V => keyD p.1) = keyD ∘ (·.1) from rfl, ← List.map_map, List.map_fst_zip]; omega
    have := Rep.dicK (M := M) (G := upd G a (.dK ((kds.map (·.1)).zip vs))) (a := a) (kvs := (kds.map (·.1)).zip vs) (ds := kds.map (·.2)) upd_same (by rw [e1]; exact r.mono (GE.upd (hfp a (by simp))))
    rw [e2] at this
    show Rep M _ _ (.dic (kds.map fun p => (keyD p.1, p.2)))
    rw [zip_fst_map keyD]
    exact this
  | dicT kds =>
    obtain ⟨a, vs, rfl, rfl, h, r⟩ := x
    refine ⟨a, _, rfl, rfl, h, ?_⟩
    have hl : (kds.map (·.1)).length = vs.length := by rw [r.length]; simp
    have e1 : (((kds.map (·.1)).zip vs).map (·.2)) = vs := by rw [List.map_snd_zip]; omega
    have e2 : (((kds.map (·.1)).zip vs).map fun p => D.tup (p.1.map keyD)) = (kds.map (·.1)).map fun k => D.tup (k.map keyD) := by
      rw [show (fun p : List Key × V => D.tup (p.1.map keyD)) = (fun k : List Key => D.tup (k.map keyD)) ∘ (·.1) from rfl, ← List.map_map, List.map_fst_zip]; omega
    have := Rep.dicT (M := M) (G := upd G a (.dT ((kds.map (·.1)).zip vs))) (a := a) (kvs := (kds.map (·.1)).zip vs) (ds := kds.map (·.2)) upd_same (by rw [e1]; exact r.mono (GE.upd (hfp a (by simp))))
    rw [e2] at this
    show Rep M _ _ (.dic (kds.map fun p => (.tup (p.1.map keyD), p.2)))
    rw [zip_fst_map fun k : List Key => D.tup (k.map keyD)]
    exact this
  | ins c fds =>
    obtain ⟨a, C, dx, vs, rfl, rfl, m, h, r⟩ := x
    refine ⟨a, _, rfl, rfl, h, ?_⟩
    have hl : (fds.map (·.1)).length = vs.length := by rw [r.length]; simp
    have e1 : (((fds.map (·.1)).zip vs).map (·.2)) = vs := by rw [List.map_snd_zip]; omega
    have e2 : (((fds.map (·.1)).zip vs).map (·.1)) = fds.map (·.1) := by rw [List.map_fst_zip]; omega
    have := Rep.ins (M := M) (G := upd G a (.ins C dx ((fds.map (·.1)).zip vs))) (a := a) (dx := dx) (c := c) (ds := fds.map (·.2)) upd_same m (by rw [e1]; exact r.mono (GE.upd (hfp a (by simp))))
    rw [e2] at this
    have e3 : (fds.map (·.1)).zip (fds.map (·.2)) = fds := by exact zip_self fds
    rw [e3] at this
    exact this
end Cs

set_option maxRecDepth 100000
set_option maxHeartbeats 4000000
namespace Cs
open PySem L2

theorem set_self {α : Type} : ∀ {l : List α} {i : Nat} {a : α}, l[i]? = some a → l.set i a = l
  | [], _, _, h => by simp at h
  | x :: r, 0, a, h => by simp at h; rw [h]; rfl
  | x :: r, i + 1, a, h => by
    rw [List.set_cons_succ, set_self (l := r) (i := i) (by simpa using h)]
section
variable {M : Mdl} {F : Fm} {G : Hp} {e : Env} {σ : St} {H : Hp}

theorem Sim.sub (s : Sim M F G e σ H) : GE G H := let ⟨_, s⟩ := s; s.sub
/-- a slot's object is given out: it never changes again -/
theorem Sim.freeze {i : Nat} {o : OO} (s : Sim M F G e σ H) (h : e[i]? = some (some (.own o))) :
    ∃ G' v, GE G G' ∧ Sim M F G' (e.set i (some (.val o.fr))) σ H ∧ σ[i]? = some (some v) ∧ Rep M G' v o.fr := by
  obtain ⟨fp, s⟩ := s
  have hi := s.at_ i
  rw [getD_of h] at hi
  have hi' := hi
  obtain ⟨v, hv, ow⟩ := hi'
  have hσ := get_of_getD hv
  obtain ⟨a, ob, rfl, hfa, ha, r⟩ := ow.frozen fun a m => (s.own i a m).1
  have ga : G a = none := (s.own i a (by rw [hfa]; simp)).1
  have nb : ¬ IsBor (e.getD i none) := by rw [getD_of h]; exact id
  refine ⟨upd G a ob, .ref a, GE.upd ga, ⟨fps fp i [], ?_⟩, hσ, r⟩
  have k := s.change (i := i) (sv := some (.val o.fr)) (v := some (.ref a)) (f := []) (G' := upd G a ob) (H' := H) (lt_of_get h) (GE.upd ga) ?_ (fun _ _ h _ => h) (fun _ h => h) ?_ ⟨rfl, _, rfl, r⟩ (fun a m => by cases m) (.inl ⟨nb, id⟩) (fun b u q => ?_)
  · have e1 : σ.set i (some (.ref a)) = σ := set_self hσ
    rw [e1] at k; exact k
  · intro b u q
    by_cases z : b = a
    · subst z; rw [upd_same] at q; cases q; exact ha
    · rw [upd_ne z] at q; exact s.sub b u q
  · intro b q
    by_cases z : b = a
    · subst z; exact .inr (.inr ⟨by rw [hfa]; simp, nb⟩)
    · rw [upd_ne z] at q; exact .inl q
  · by_cases z : b = a
    · obtain ⟨u', hu, n⟩ := hi.kind (a := a) (by rw [hfa]; simp)
      rw [z, upd_same] at q; cases q; rw [ha] at hu; cases hu; exact ownk_ist n
    · rw [upd_ne z] at q; exact s.gnt b u q
/-- a plain slot -/
theorem Sim.val {i : Nat} {d : D} (s : Sim M F G e σ H) (h : e[i]? = some (some (.val d))) : ∃ v, σ[i]? = some (some v) ∧ Rep M G v d := by
  obtain ⟨fp, s⟩ := s
  have hi := s.at_ i
  rw [getD_of h] at hi
  obtain ⟨_, v, hv, r⟩ := hi
  exact ⟨v, get_of_getD hv, r⟩
/-- an object of one's own, or lent -/
theorem SimF.obj {fp : Nat → List Addr} {i : Nat} {o : OO} (s : SimF M F G e σ H fp) (h : e[i]? = some (some (.own o)) ∨ e[i]? = some (some (.bor o))) : ∃ v, σ[i]? = some (some v) ∧ OwnAt M G H o v (fp i) := by
  have hi := s.at_ i
  rcases h with h | h <;> (rw [getD_of h] at hi; obtain ⟨v, hv, r⟩ := hi; exact ⟨v, get_of_getD hv, r⟩)
/-- a slot takes a value -/
theorem Sim.put {i : Nat} {d : D} {v : V} (s : Sim M F G e σ H) (hi : i < e.length) (nb : ¬ IsBor (e.getD i none)) (r : Rep M G v d) : Sim M F G (e.set i (some (.val d))) (σ.set i (some v)) H := by
  obtain ⟨fp, s⟩ := s
  exact ⟨_, s.change (f := []) hi (GE.refl G) s.sub (fun _ _ h _ => h) (fun _ h => h) (fun _ h => .inl h) ⟨rfl, _, rfl, r⟩ (fun a m => by cases m) (.inl ⟨nb, id⟩) s.gnt⟩
/-- a slot forgotten -/
theorem Sim.drop {i : Nat} {v : Option V} (s : Sim M F G e σ H) (hi : i < e.length) (nb : ¬ IsBor (e.getD i none)) : Sim M F G (e.set i none) (σ.set i v) H := by
  obtain ⟨fp, s⟩ := s
  exact ⟨_, s.change (f := []) hi (GE.refl G) s.sub (fun _ _ h _ => h) (fun _ h => h) (fun _ h => .inl h) rfl (fun a m => by cases m) (.inl ⟨nb, id⟩) s.gnt⟩
theorem free_of_ge (h : GE G H) {p : Addr} (hp : H p = none) : G p = none := by
  cases q : G p with
  | none => rfl
  | some u => have := h p u q; rw [hp] at this; cases this
/-- a new object that never changes -/
theorem Sim.laid {p : Addr} {ob : HO} (s : Sim M F G e σ H) (hp : H p = none) (ht : ist ob = false := by rfl) : GE G (upd G p ob) ∧ Sim M F (upd G p ob) e σ (upd H p ob) := by
  have gp := free_of_ge s.sub hp
  obtain ⟨fp, s⟩ := s
  refine ⟨GE.upd gp, fp, s.grow (GE.upd gp) ?_ (fun b u q => ?_) (fun b q => ?_) (gnt_upd s.gnt ht)⟩
  · intro b u q
    by_cases z : b = p
    · subst z; rw [upd_same] at q ⊢; exact q
    · rw [upd_ne z] at q ⊢; exact s.sub b u q
  · rw [upd_ne (ne_of_none q hp)]; exact q
  · by_cases z : b = p
    · subst z; exact .inr hp
    · rw [upd_ne z] at q; exact .inl q
/-- a new object for a slot -/
theorem Sim.newOwn {i : Nat} {p : Addr} {ob : HO} {o : OO} (s : Sim M F G e σ H) (hp : H p = none) (hi : i < e.length) (nb : ¬ IsBor (e.getD i none)) (ow : OwnAt M G (upd H p ob) o (.ref p) [p]) :
    Sim M F G (e.set i (some (.own o))) (σ.set i (some (.ref p))) (upd H p ob) := by
  have gp := free_of_ge s.sub hp
  obtain ⟨fp, s⟩ := s
  refine ⟨_, s.change (f := [p]) hi (GE.refl G) (fun b u q => ?_) (fun b u q _ => ?_) (fun b q => ?_) (fun _ h => .inl h) ⟨_, rfl, ow⟩ (fun a m => ?_) (.inl ⟨nb, id⟩) s.gnt⟩
  · rw [upd_ne (ne_of_none q gp)]; exact s.sub b u q
  · rw [upd_ne (ne_of_none q hp)]; exact q
  · exact nt_upd (ow.obk (by simp)) b q
  · have : a = p := by simpa using m
    subst this; exact ⟨gp, .inl hp⟩
/-- one's own object changes, or a lent one -/
theorem SimF.mutate {fp : Nat → List Addr} {i : Nat} {o o' : OO} {a : Addr} {ob : HO} {sv : SV} (s : SimF M F G e σ H fp) (h : (e[i]? = some (some (.own o)) ∧ sv = .own o') ∨ (e[i]? = some (some (.bor o)) ∧ sv = .bor o')) (ha : σ[i]? = some (some (.ref a)))
    (hf : fp i = [a]) (ow : OwnAt M G (upd H a ob) o' (.ref a) [a]) : SimF M F G (e.set i (some sv)) σ (upd H a ob) (fps fp i [a]) := by
  have ga : G a = none := (s.own i a (by rw [hf]; simp)).1
  have hH : H a ≠ none := (s.at_ i).there (by rw [hf]; simp)
  have hi : i < e.length := by rcases h with ⟨h, _⟩ | ⟨h, _⟩ <;> exact lt_of_get h
  have k := s.change (i := i) (sv := some sv) (v := some (.ref a)) (f := [a]) (G' := G) (H' := upd H a ob) hi (GE.refl G) (fun b u q => ?_) (fun b u q n => ?_) (fun b q => ?_) (fun _ h => .inl h) ?_ (fun b m => ?_) ?_ s.gnt
  · rw [set_self ha] at k; exact k
  · rw [upd_ne (ne_of_none q ga)]; exact s.sub b u q
  · have : b ≠ a := fun z => n (by rw [hf, z]; simp)
    rw [upd_ne this]; exact q
  · exact nt_upd (ow.obk (by simp)) b q
  · rcases h with ⟨_, rfl⟩ | ⟨_, rfl⟩ <;> exact ⟨_, rfl, ow⟩
  · have : b = a := by simpa using m
    subst this; exact ⟨ga, .inr (by rw [hf]; simp)⟩
  · rcases h with ⟨q, rfl⟩ | ⟨q, rfl⟩
    · exact .inl ⟨by rw [getD_of q]; exact id, id⟩
    · exact .inr ⟨by rw [getD_of q]; exact trivial, trivial, getD_of ha⟩
end

section
variable {N : List Str} {V : List Nat} {Gs : List Str} {C : GC N V Gs}

theorem tOf.imp {α β : Type} {rep : Hp → β → α → Prop} {f : EM α} {σ : St} {H : Hp} {Q Q' : β → Hp → Prop} (t : tOf rep C f σ H Q) (h : ∀ v H', Q v H' → Q' v H') : tOf rep C f σ H Q' := by
  obtain ⟨G, e, s, p⟩ := t
  refine ⟨G, e, s, ?_⟩
  revert p
  cases f e with
  | ok a e1 => exact fun p G' v H' g s' r => h _ _ (p G' v H' g s' r)
  | exc x e1 => exact id
  | bad => exact id

theorem d_loc (i : Nat) {x : Str} {pos : Pos} (hN : N[i]? = some x := by rfl) (hV : V[i]? = some 1 ∨ V[i]? = some 2 ∨ V[i]? = some 3 := by first | exact .inr (.inl rfl) | exact .inl rfl | exact .inr (.inr rfl))
    (hd : (x == ("__debug__" : Str)) = false := by decide +kernel) (hcd : (x == ("__classdict__" : Str)) = false := by decide +kernel) : SE C (.Name x pos) (eLoc i) := by
  refine (pe_var (i := i) (by rw [C.hN]; exact hN) (C.vis i x hN hV) hd hcd).imp fun σ H Q h => ?_
  obtain ⟨G, e, s, p⟩ := h
  unfold eLoc at p
  split at p
  · rename_i d q
    obtain ⟨v, hv, r⟩ := s.val q
    exact ⟨v, hv, p G v H (GE.refl G) s r⟩
  · rename_i o q
    obtain ⟨G', v, ge, s', hv, r⟩ := s.freeze q
    exact ⟨v, hv, p G' v H ge s' r⟩
  · exact p.elim
def eC (d : D) : EM D := ret d
theorem d_int {i j pos} : SE C (.Constant (.int i) j pos) (eC (.int i)) := pe_int.imp fun _ _ _ ⟨_, _, h⟩ => h.done (.int i)
theorem d_bl {b j pos} : SE C (.Constant (.bool b) j pos) (eC (.bl b)) := pe_bl.imp fun _ _ _ ⟨_, _, h⟩ => h.done (.bl b)
theorem d_non {j pos} : SE C (.Constant .none j pos) (eC .non) := pe_non.imp fun _ _ _ ⟨_, _, h⟩ => h.done .non
theorem d_str {x j pos} : SE C (.Constant (.str x) j pos) (eC (.str x)) := pe_str.imp fun _ _ _ ⟨_, _, h⟩ => h.done (.str x)

/-! ### operators -/
/-- an operator by values: f tells what comes -/
def OpD (C : GC N V Gs) (r : R2) (f : D → D → Option D) : Prop :=
  ∀ (a b d : D) (x y : L2.V) (G : Hp) (e : Env) (σ : St) (H : Hp) (Q : VK), f a b = some d → Rep C.M G x a → Rep C.M G y b → Sim C.M C.F G e σ H →
    (∀ G' v H', GE G G' → Sim C.M C.F G' e σ H' → Rep C.M G' v d → Q v H') → r x y H Q
def e2 (f : D → D → Option D) (fa fb : EM D) : EM D := bnd fa fun a => bnd fb fun b => ofO (f a b)
theorem tOp_run {op : R2} {f : D → D → Option D} {fa fb : EM D} (h : OpD C op f) (σ : St) (H : Hp) (Q : VK) (t : tOf (Rep C.M) C (e2 f fa fb) σ H Q) : tOp op (tOf (Rep C.M) C fa) (tOf (Rep C.M) C fb) σ H Q := by
  obtain ⟨G, e, t⟩ := t
  refine (Run.bind t).imp fun x H1 ⟨a, G1, e1, g1, r1, t1⟩ => ?_
  refine (Run.bind t1).imp fun y H2 ⟨b, G2, e2', g2, r2, t2⟩ => ?_
  obtain ⟨d, q, s, k⟩ := t2.ofO
  exact h a b d x y G2 e2' σ H2 Q q (r1.mono g2) r2 s k
theorem d_op {a b : Expr} {op : Operator} {pos : Pos} {r : R2} {f : D → D → Option D} {fa fb : EM D} (ho : OpR C.X (binaryOp op) r) (hf : OpD C r f) (ha : SE C a fa) (hb : SE C b fb) : SE C (.BinOp a op b pos) (e2 f fa fb) :=
  (pe_op ho ha hb).imp fun σ H Q t => tOp_run hf σ H Q t
theorem d_cmp {a b : Expr} {op : CmpOp} {pos : Pos} {r : R2} {f : D → D → Option D} {fa fb : EM D} (ho : OpR C.X (compareOp op) r) (hf : OpD C r f) (ha : SE C a fa) (hb : SE C b fb) (hm : behindInMarks op b = false) : SE C (.Compare a [op] [b] pos) (e2 f fa fb) :=
  (pe_cmpR ho ha hb hm).imp fun σ H Q t => tOp_run hf σ H Q t
theorem OpR.or {X : Cx} {op : Value → Value → Sem Value} {r r' : R2} (h : OpR X op r) (h' : OpR X op r') : OpR X op fun x y H Q => r x y H Q ∨ r' x y H Q := by
  intro pins s σ H x y v u Q I rx ry q
  rcases q with q | q
  · exact h pins s σ H x y v u Q I rx ry q
  · exact h' pins s σ H x y v u Q I rx ry q
end
end Cs

set_option maxRecDepth 100000
set_option maxHeartbeats 4000000
namespace Cs
open PySem L2

abbrev sz : Nat := 16777216
theorem sz_le {n : Nat} (h : n ≤ sz) : n ≤ sizeLine := by rw [sizeLine_eq]; exact h
theorem sz_lt {n : Nat} (h : n < sz) : n < sizeLine := by rw [sizeLine_eq]; exact h

section
variable {N : List Str} {V : List Nat} {Gs : List Str} {C : GC N V Gs}

theorem Rep.tupV {M : Mdl} {G : Hp} {v : L2.V} {ds : List D} (h : Rep M G v (.tup ds)) : ∃ a vs, v = .ref a ∧ SqT M.K G a vs ∧ Reps M G vs ds := by
  cases h with | tup a b => exact ⟨_, _, rfl, a, b⟩
theorem Rep.lstV {M : Mdl} {G : Hp} {v : L2.V} {ds : List D} (h : Rep M G v (.lst ds)) : ∃ a vs, v = .ref a ∧ G a = some (.lst vs) ∧ Reps M G vs ds := by
  cases h with | lst a b => exact ⟨_, _, rfl, a, b⟩
theorem Rep.scrV {M : Mdl} {G : Hp} {v : L2.V} {ds : List D} (h : Rep M G v (.scr ds)) : ∃ a vs, v = .ref a ∧ SqL M.K G a vs ∧ Reps M G vs ds := by
  cases h with | scr a b => exact ⟨_, _, rfl, a, b⟩
theorem Rep.intV {M : Mdl} {G : Hp} {v : L2.V} {i : Int} (h : Rep M G v (.int i)) : v = .int i := by cases h; rfl
theorem Rep.blV {M : Mdl} {G : Hp} {v : L2.V} {i : Bool} (h : Rep M G v (.bl i)) : v = .bl i := by cases h; rfl
theorem Rep.strV {M : Mdl} {G : Hp} {v : L2.V} {i : Str} (h : Rep M G v (.str i)) : v = .str i := by cases h; rfl
theorem Rep.nonV {M : Mdl} {G : Hp} {v : L2.V} (h : Rep M G v .non) : v = .non := by cases h; rfl

theorem Reps.nil_of {M : Mdl} {G : Hp} {vs : List L2.V} {ds : List D} (h : Reps M G vs ds) : vs = [] ↔ ds = [] := by
  cases h <;> simp
theorem sqt_upd {K : PySem.W.Frag} {G : Hp} {p : Addr} {vs : List L2.V} : SqT K (upd G p (.tup vs)) p vs := .inl (.inl upd_same)

/-- a new tuple, a new list that never changes -/
theorem Sim.newTup {M : Mdl} {F : Fm} {G : Hp} {e : Env} {σ : St} {H : Hp} {p : Addr} {vs : List L2.V} {ds : List D} (s : Sim M F G e σ H) (hp : H p = none) (r : Reps M G vs ds) :
    GE G (upd G p (.tup vs)) ∧ Sim M F (upd G p (.tup vs)) e σ (upd H p (.tup vs)) ∧ Rep M (upd G p (.tup vs)) (.ref p) (.tup ds) := by
  obtain ⟨g, s'⟩ := s.laid (ob := .tup vs) hp
  exact ⟨g, s', .tup sqt_upd (r.mono g)⟩
theorem Sim.newLst {M : Mdl} {F : Fm} {G : Hp} {e : Env} {σ : St} {H : Hp} {p : Addr} {vs : List L2.V} {ds : List D} (s : Sim M F G e σ H) (hp : H p = none) (r : Reps M G vs ds) :
    GE G (upd G p (.lst vs)) ∧ Sim M F (upd G p (.lst vs)) e σ (upd H p (.lst vs)) ∧ Rep M (upd G p (.lst vs)) (.ref p) (.lst ds) := by
  obtain ⟨g, s'⟩ := s.laid (ob := .lst vs) hp
  exact ⟨g, s', .lst upd_same (r.mono g)⟩

def addD : D → D → Option D
  | .int a, .int b => some (.int (a + b))
  | .tup a, .tup b => if a.length + b.length ≤ sz then some (.tup (a ++ b)) else none
  | .lst a, .lst b => if a.length + b.length ≤ sz then some (.lst (a ++ b)) else none
  | .str a, .str b => if a.length + b.length ≤ sz then some (.str (a ++ b)) else none
  | _, _ => none
def rAdd (K : PySem.W.Frag) : R2 := fun x y H Q => ((rI0 fun i j => L2.V.int (i + j)) x y H Q ∨ rCatA K x y H Q) ∨ rCat x y H Q ∨ (∃ i j, x = .str i ∧ y = .str j ∧ i.length + j.length ≤ sizeLine ∧ Q (.str (i ++ j)) H)
theorem op_addD {X : Cx} : OpR X (binaryOp .Add) (rAdd X.K) := OpR.or (OpR.or op_add op_catA) (OpR.or op_cat op_add_str)
theorem od_add : OpD C (rAdd C.X.K) addD := by
  intro a b d x y G e σ H Q h ra rb s k
  unfold addD at h
  split at h
  · cases h
    rw [ra.intV, rb.intV]
    exact .inl (.inl ⟨_, _, rfl, rfl, k G _ H (GE.refl G) s (.int _)⟩)
  · split at h
    · rename_i hz
      cases h
      obtain ⟨p, us, rfl, h1, r1⟩ := ra.tupV
      obtain ⟨q, ws, rfl, h2, r2⟩ := rb.tupV
      refine .inl (.inr ⟨p, q, us, ws, rfl, rfl, sqt_ge s.sub h1, sqt_ge s.sub h2, sz_le (by rw [r1.length, r2.length]; exact hz), fun z => ?_, fun _ z => ?_, fun _ _ l hl => ?_⟩)
      · exact k G _ H (GE.refl G) s (by rw [r1.nil_of.mp z]; exact rb)
      · exact k G _ H (GE.refl G) s (by rw [r2.nil_of.mp z, List.append_nil]; exact ra)
      · obtain ⟨g, s', r⟩ := s.newTup hl (r1.append r2)
        exact k _ _ _ g s' r
    · cases h
  · split at h
    · rename_i hz
      cases h
      obtain ⟨p, us, rfl, h1, r1⟩ := ra.lstV
      obtain ⟨q, ws, rfl, h2, r2⟩ := rb.lstV
      refine .inr (.inl ⟨p, q, us, ws, rfl, rfl, s.sub _ _ h1, s.sub _ _ h2, sz_le (by rw [r1.length, r2.length]; exact hz), fun l hl => ?_⟩)
      obtain ⟨g, s', r⟩ := s.newLst hl (r1.append r2)
      exact k _ _ _ g s' r
    · cases h
  · split at h
    · rename_i hz
      cases h
      rw [ra.strV, rb.strV]
      exact .inr (.inr ⟨_, _, rfl, rfl, sz_le hz, k G _ H (GE.refl G) s (.str _)⟩)
    · cases h
  · cases h
theorem d_add {a b : Expr} {pos : Pos} {fa fb : EM D} (ha : SE C a fa) (hb : SE C b fb) : SE C (.BinOp a .Add b pos) (e2 addD fa fb) := d_op op_addD od_add ha hb

def subD : D → D → Option D
  | .int a, .int b => some (.int (a - b))
  | _, _ => none
theorem d_sub {a b : Expr} {pos : Pos} {fa fb : EM D} (ha : SE C a fa) (hb : SE C b fb) : SE C (.BinOp a .Sub b pos) (e2 subD fa fb) := d_op op_sub (by
  intro a b d x y G e σ H Q h ra rb s k
  unfold subD at h
  split at h
  · cases h
    rw [ra.intV, rb.intV]
    exact ⟨_, _, rfl, rfl, k G _ H (GE.refl G) s (.int _)⟩
  · cases h) ha hb

def mulD : D → D → Option D
  | .int a, .int b => if a.natAbs < 2 ^ 64 ∨ b.natAbs < 2 ^ 64 ∨ a.natAbs.log2 + b.natAbs.log2 < 1000000 then some (.int (a * b)) else none
  | .tup a, .int b => if a ≠ [] ∧ 2 ≤ b ∧ b ≤ 1000 ∧ a.length ≤ 1000 then some (.tup (List.replicate b.toNat a).flatten) else none
  | .lst a, .int b => if -(2 ^ 63) ≤ b ∧ b < 2 ^ 63 ∧ a.length * b.toNat ≤ sz then some (.lst (List.replicate b.toNat a).flatten) else none
  | _, _ => none
theorem Reps.rep {M : Mdl} {G : Hp} {vs : List L2.V} {ds : List D} (r : Reps M G vs ds) : ∀ n : Nat, Reps M G (List.replicate n vs).flatten (List.replicate n ds).flatten
  | 0 => .nil
  | n + 1 => by
    rw [List.replicate_succ, List.replicate_succ, List.flatten_cons, List.flatten_cons]
    exact r.append (r.rep n)

def rMul (K : PySem.W.Frag) : R2 := fun x y H Q => ((rI CMul fun i j => L2.V.int (i * j)) x y H Q ∨ (rI CMulW fun i j => L2.V.int (i * j)) x y H Q) ∨ rRepT K x y H Q ∨ rRep x y H Q
theorem d_mul {a b : Expr} {pos : Pos} {fa fb : EM D} (ha : SE C a fa) (hb : SE C b fb) : SE C (.BinOp a .Mult b pos) (e2 mulD fa fb) :=
  d_op (r := rMul C.X.K) (OpR.or (OpR.or op_mul op_mulW) (OpR.or op_repT op_rep)) (by
    intro a b d x y G e σ H Q h ra rb s k
    unfold mulD at h
    split at h
    · split at h
      · rename_i hz
        cases h
        have kk := k G _ H (GE.refl G) s (.int _)
        rcases hz with hz | hz | hz
        · exact .inl (.inl ⟨_, _, ra.intV, rb.intV, .inl ⟨by omega, by omega⟩, kk⟩)
        · exact .inl (.inl ⟨_, _, ra.intV, rb.intV, .inr ⟨by omega, by omega⟩, kk⟩)
        · exact .inl (.inr ⟨_, _, ra.intV, rb.intV, hz, kk⟩)
      · cases h
    · split at h
      · rename_i hz
        cases h
        obtain ⟨p, us, rfl, h1, r1⟩ := ra.tupV
        refine .inr (.inl ⟨p, _, us, rfl, rb.intV, sqt_ge s.sub h1, fun z => hz.1 (r1.nil_of.mp z), hz.2.1, hz.2.2.1, by rw [r1.length]; exact hz.2.2.2, fun l hl => ?_⟩)
        obtain ⟨g, s', r⟩ := s.newTup hl (r1.rep _)
        exact k _ _ _ g s' r
      · cases h
    · split at h
      · rename_i hz
        cases h
        obtain ⟨p, us, rfl, h1, r1⟩ := ra.lstV
        refine .inr (.inr ⟨p, _, us, rfl, rb.intV, s.sub _ _ h1, hz.1, hz.2.1, sz_le (by rw [r1.length]; exact hz.2.2), fun l hl => ?_⟩)
        obtain ⟨g, s', r⟩ := s.newLst hl (r1.rep _)
        exact k _ _ _ g s' r
      · cases h
    · cases h) ha hb

def fdivD : D → D → Option D
  | .int a, .int b => if b ≠ 0 ∧ b.natAbs < 1073741824 then some (.int (a.fdiv b)) else if 0 < b ∧ b.natAbs.log2 < 9000 then some (.int (a / b)) else none
  | _, _ => none
theorem d_fdiv {a b : Expr} {pos : Pos} {fa fb : EM D} (ha : SE C a fa) (hb : SE C b fb) : SE C (.BinOp a .FloorDiv b pos) (e2 fdivD fa fb) :=
  d_op (OpR.or op_fdivN op_fdivW) (by
    intro a b d x y G e σ H Q h ra rb s k
    unfold fdivD at h
    split at h
    · split at h
      · rename_i hz; cases h
        exact .inl ⟨_, _, ra.intV, rb.intV, hz, k G _ H (GE.refl G) s (.int _)⟩
      · split at h
        · rename_i hz; cases h
          exact .inr ⟨_, _, ra.intV, rb.intV, hz, k G _ H (GE.refl G) s (.int _)⟩
        · cases h
    · cases h) ha hb
def modD : D → D → Option D
  | .int a, .int b => if b ≠ 0 then some (.int (a.fmod b)) else none
  | _, _ => none
theorem d_mod {a b : Expr} {pos : Pos} {fa fb : EM D} (ha : SE C a fa) (hb : SE C b fb) : SE C (.BinOp a .Mod b pos) (e2 modD fa fb) :=
  d_op op_modN (by
    intro a b d x y G e σ H Q h ra rb s k
    unfold modD at h
    split at h
    · split at h
      · rename_i hz; cases h
        exact ⟨_, _, ra.intV, rb.intV, hz, k G _ H (GE.refl G) s (.int _)⟩
      · cases h
    · cases h) ha hb
def powD : D → D → Option D
  | .int a, .int b => if 0 ≤ b ∧ b ≤ 1000000 ∧ a.natAbs < 2 ^ 64 then some (.int (a ^ b.toNat)) else none
  | _, _ => none
theorem d_pow {a b : Expr} {pos : Pos} {fa fb : EM D} (ha : SE C a fa) (hb : SE C b fb) : SE C (.BinOp a .Pow b pos) (e2 powD fa fb) :=
  d_op op_pow (by
    intro a b d x y G e σ H Q h ra rb s k
    unfold powD at h
    split at h
    · split at h
      · rename_i hz; cases h
        exact ⟨_, _, ra.intV, rb.intV, hz, k G _ H (GE.refl G) s (.int _)⟩
      · cases h
    · cases h) ha hb

/-! ### comparisons -/
def ltD : D → D → Option D
  | .int a, .int b => some (.bl (decide (a < b)))
  | _, _ => none
def leD : D → D → Option D
  | .int a, .int b => some (.bl (decide (a ≤ b)))
  | _, _ => none
def gtD : D → D → Option D
  | .int a, .int b => some (.bl (decide (b < a)))
  | _, _ => none
def geD : D → D → Option D
  | .int a, .int b => some (.bl (decide (b ≤ a)))
  | _, _ => none
theorem od_int {g : Int → Int → Bool} {f : D → D → Option D} (hf : ∀ a b d, f a b = some d → ∃ i j, a = .int i ∧ b = .int j ∧ d = .bl (g i j)) : OpD C (rI0 fun i j => L2.V.bl (g i j)) f := by
  intro a b d x y G e σ H Q h ra rb s k
  obtain ⟨i, j, rfl, rfl, rfl⟩ := hf a b d h
  exact ⟨_, _, ra.intV, rb.intV, k G _ H (GE.refl G) s (.bl _)⟩
theorem od_lt : OpD C (rI0 fun i j => L2.V.bl (decide (i < j))) ltD := od_int fun a b d h => by
  unfold ltD at h; split at h
  · cases h; exact ⟨_, _, rfl, rfl, rfl⟩
  · cases h
theorem od_le : OpD C (rI0 fun i j => L2.V.bl (decide (i ≤ j))) leD := od_int fun a b d h => by
  unfold leD at h; split at h
  · cases h; exact ⟨_, _, rfl, rfl, rfl⟩
  · cases h
theorem od_gt : OpD C (rI0 fun i j => L2.V.bl (decide (j < i))) gtD := od_int fun a b d h => by
  unfold gtD at h; split at h
  · cases h; exact ⟨_, _, rfl, rfl, rfl⟩
  · cases h
theorem od_ge : OpD C (rI0 fun i j => L2.V.bl (decide (j ≤ i))) geD := od_int fun a b d h => by
  unfold geD at h; split at h
  · cases h; exact ⟨_, _, rfl, rfl, rfl⟩
  · cases h

/-! data compared -/
mutual
def D.pd : D → Option PyData
  | .non => some .none
  | .bl b => some (.bool b)
  | .int i => some (.int i)
  | .str x => some (.str x)
  | .tup xs => (D.pds xs).map .tuple
  | .lst xs => (D.pds xs).map .list
  | _ => none
def D.pds : List D → Option (List PyData)
  | [] => some []
  | x :: r => match D.pd x, D.pds r with
    | some a, some b => some (a :: b)
    | _, _ => none
end
mutual
theorem Rep.dp {M : Mdl} {G H : Hp} (s : GE G H) : ∀ {v : L2.V} {d : D} {p : PyData}, Rep M G v d → d.pd = some p → Dp M.K H v p
  | _, _, _, .non, h => by cases h; exact .non
  | _, _, _, .bl b, h => by cases h; exact .bl b
  | _, _, _, .int i, h => by cases h; exact .int i
  | _, _, _, .str x, h => by cases h; exact .str x
  | _, .tup ds, _, .tup h1 r, h => by
    unfold D.pd at h
    cases q : D.pds ds with
    | none => rw [q] at h; cases h
    | some ps => rw [q] at h; cases h; exact .tup (sqt_ge s h1) (Reps.dp s r q)
  | _, .lst ds, _, .lst h1 r, h => by
    unfold D.pd at h
    cases q : D.pds ds with
    | none => rw [q] at h; cases h
    | some ps => rw [q] at h; cases h; exact .lst (.inl (.inl (s _ _ h1))) (Reps.dp s r q)
  | _, _, _, .scr h1 r, h => by cases h
  | _, _, _, .dicK h1 r, h => by cases h
  | _, _, _, .dicT h1 r, h => by cases h
  | _, _, _, .ins h1 m r, h => by cases h
  | _, _, _, .fn h1, h => by cases h
theorem Reps.dp {M : Mdl} {G H : Hp} (s : GE G H) : ∀ {vs : List L2.V} {ds : List D} {ps : List PyData}, Reps M G vs ds → D.pds ds = some ps → DpAll M.K H vs ps
  | _, _, _, .nil, h => by cases h; exact .nil
  | _, d :: ds, _, .cons a r, h => by
    unfold D.pds at h
    cases q1 : d.pd with
    | none => rw [q1] at h; cases h
    | some p =>
      cases q2 : D.pds ds with
      | none => rw [q1, q2] at h; cases h
      | some ps => rw [q1, q2] at h; cases h; exact .cons (Rep.dp s a q1) (Reps.dp s r q2)
end
def eqP (a b : D) : Option D := match a.pd, b.pd with
  | some p, some q => if SeqAt.shaped p && SeqAt.shaped q then some (.bl (PyData.eqv p q)) else none
  | _, _ => none
def neP (a b : D) : Option D := match a.pd, b.pd with
  | some p, some q => if SeqAt.shaped p && SeqAt.shaped q then some (.bl (!PyData.eqv p q)) else none
  | _, _ => none
def eqD : D → D → Option D
  | .str x, .str y => some (.bl (x == y))
  | a, b => eqP a b
def neD : D → D → Option D
  | .str x, .str y => some (.bl (!(x == y)))
  | a, b => neP a b
def rEqX (K : PySem.W.Frag) : R2 := fun x y H Q => rEqD K x y H Q ∨ rEq x y H Q
def rNeX (K : PySem.W.Frag) : R2 := fun x y H Q => rNeD K x y H Q ∨ rNe x y H Q
theorem op_eqX {X : Cx} (hu : X.A.units + 64 < cLine) : OpR X (compareOp .Eq) (rEqX X.K) := fun pins s σ H x y v u Q I rx ry h => h.elim (op_eqD hu pins s σ H x y v u Q I rx ry) (op_eq pins s σ H x y v u Q I rx ry)
theorem op_neX {X : Cx} (hu : X.A.units + 64 < cLine) : OpR X (compareOp .NotEq) (rNeX X.K) := fun pins s σ H x y v u Q I rx ry h => h.elim (op_neD hu pins s σ H x y v u Q I rx ry) (op_ne pins s σ H x y v u Q I rx ry)
theorem od_eqP : OpD C (rEqD C.X.K) eqP := by
  intro a b d x y G e σ H Q h ra rb s k
  unfold eqP at h
  split at h
  · rename_i p q e1 e2
    split at h
    · rename_i hz
      rw [Bool.and_eq_true] at hz
      cases h
      exact ⟨p, q, ra.dp s.sub e1, rb.dp s.sub e2, hz.1, hz.2, k G _ H (GE.refl G) s (.bl _)⟩
    · cases h
  · cases h
theorem od_neP : OpD C (rNeD C.X.K) neP := by
  intro a b d x y G e σ H Q h ra rb s k
  unfold neP at h
  split at h
  · rename_i p q e1 e2
    split at h
    · rename_i hz
      rw [Bool.and_eq_true] at hz
      cases h
      exact ⟨p, q, ra.dp s.sub e1, rb.dp s.sub e2, hz.1, hz.2, k G _ H (GE.refl G) s (.bl _)⟩
    · cases h
  · cases h
theorem od_eq : OpD C (rEqX C.X.K) eqD := by
  intro a b d x y G e σ H Q h ra rb s k
  unfold eqD at h
  split at h
  · cases h
    rw [ra.strV, rb.strV]
    exact .inr ⟨rfl, by rw [dec_str]; exact k G _ H (GE.refl G) s (.bl _)⟩
  · exact .inl (od_eqP a b d x y G e σ H Q h ra rb s k)
theorem od_ne : OpD C (rNeX C.X.K) neD := by
  intro a b d x y G e σ H Q h ra rb s k
  unfold neD at h
  split at h
  · cases h
    rw [ra.strV, rb.strV]
    exact .inr ⟨rfl, by rw [dec_str]; exact k G _ H (GE.refl G) s (.bl _)⟩
  · exact .inl (od_neP a b d x y G e σ H Q h ra rb s k)
section
variable {a b : Expr} {pos : Pos} {fa fb : EM D} (ha : SE C a fa) (hb : SE C b fb)
include ha hb
theorem d_lt (hm : behindInMarks .Lt b = false := by rfl) : SE C (.Compare a [.Lt] [b] pos) (e2 ltD fa fb) := d_cmp op_lt od_lt ha hb hm
theorem d_le (hm : behindInMarks .LtE b = false := by rfl) : SE C (.Compare a [.LtE] [b] pos) (e2 leD fa fb) := d_cmp op_le od_le ha hb hm
theorem d_gt (hm : behindInMarks .Gt b = false := by rfl) : SE C (.Compare a [.Gt] [b] pos) (e2 gtD fa fb) := d_cmp op_gt od_gt ha hb hm
theorem d_ge (hm : behindInMarks .GtE b = false := by rfl) : SE C (.Compare a [.GtE] [b] pos) (e2 geD fa fb) := d_cmp op_ge od_ge ha hb hm
theorem d_eq (hm : behindInMarks .Eq b = false := by rfl) : SE C (.Compare a [.Eq] [b] pos) (e2 eqD fa fb) := d_cmp (op_eqX C.hu) od_eq ha hb hm
theorem d_ne (hm : behindInMarks .NotEq b = false := by rfl) : SE C (.Compare a [.NotEq] [b] pos) (e2 neD fa fb) := d_cmp (op_neX C.hu) od_ne ha hb hm
end
end
end Cs

set_option maxRecDepth 100000
set_option maxHeartbeats 4000000
namespace Cs
open PySem L2
section
variable {N : List Str} {V : List Nat} {Gs : List Str} {C : GC N V Gs}

/-! ### is -/
def D.isNon : D → Bool
  | .non => true
  | _ => false
def isD : D → D → Option D
  | a, .non => some (.bl a.isNon)
  | .bl a, .bl b => some (.bl (decide (a = b)))
  | _, _ => none
def isnotD : D → D → Option D
  | a, .non => some (.bl (!a.isNon))
  | .bl a, .bl b => some (.bl (!decide (a = b)))
  | _, _ => none
theorem Rep.isNon {M : Mdl} {G : Hp} {v : L2.V} {d : D} (h : Rep M G v d) : decide (v = .non) = d.isNon := by
  cases h <;> first | rfl | (refine decide_eq_false ?_; intro z; cases z)
def rIs : R2 := fun x y H Q => (y = .non ∧ Q (.bl (decide (x = .non))) H) ∨ ∃ a b, x = .bl a ∧ y = .bl b ∧ Q (.bl (decide (a = b))) H
def rIsnot : R2 := fun x y H Q => (y = .non ∧ Q (.bl (!decide (x = .non))) H) ∨ ∃ a b, x = .bl a ∧ y = .bl b ∧ Q (.bl (!decide (a = b))) H
theorem d_is {a b : Expr} {pos : Pos} {fa fb : EM D} (ha : SE C a fa) (hb : SE C b fb) (hm : behindInMarks .Is b = false := by rfl) : SE C (.Compare a [.Is] [b] pos) (e2 isD fa fb) := d_cmp (r := rIs) (OpR.or op_isN op_is_bl) (by
  intro a b d x y G e σ H Q h ra rb s k
  unfold isD at h
  split at h
  · cases h; exact .inl ⟨rb.nonV, by rw [ra.isNon]; exact k G _ H (GE.refl G) s (.bl _)⟩
  · cases h; exact .inr ⟨_, _, ra.blV, rb.blV, k G _ H (GE.refl G) s (.bl _)⟩
  · cases h) ha hb hm
theorem d_isnot {a b : Expr} {pos : Pos} {fa fb : EM D} (ha : SE C a fa) (hb : SE C b fb) (hm : behindInMarks .IsNot b = false := by rfl) : SE C (.Compare a [.IsNot] [b] pos) (e2 isnotD fa fb) := d_cmp (r := rIsnot) (OpR.or op_notN op_isnot_bl) (by
  intro a b d x y G e σ H Q h ra rb s k
  unfold isnotD at h
  split at h
  · cases h; exact .inl ⟨rb.nonV, by rw [ra.isNon]; exact k G _ H (GE.refl G) s (.bl _)⟩
  · cases h; exact .inr ⟨_, _, ra.blV, rb.blV, k G _ H (GE.refl G) s (.bl _)⟩
  · cases h) ha hb hm

/-! ### chains of comparisons -/
def eChain (f g : D → D → Option D) (fa fb fc : EM D) : EM D := bnd fa fun a => bnd fb fun b => bnd (ofO (f a b)) fun z => match z with
  | .bl true => bnd fc fun c => ofO (g b c)
  | .bl false => ret (.bl false)
  | _ => fail
theorem d_chain {a b c : Expr} {op op' : CmpOp} {pos : Pos} {r r' : R2} {f g : D → D → Option D} {fa fb fc : EM D} (ho : OpR C.X (compareOp op) r) (hf : OpD C r f) (ho' : OpR C.X (compareOp op') r') (hg : OpD C r' g)
    (ha : SE C a fa) (hb : SE C b fb) (hc : SE C c fc) (hm : lastMarks [op, op'] [b, c] = false := by with_unfolding_all rfl) : SE C (.Compare a [op, op'] [b, c] pos) (eChain f g fa fb fc) :=
  (pe_chain ho ho' ha hb hc hm).imp fun σ H Q ⟨G, e, t⟩ => by
    refine (Run.bind t).imp fun x H1 ⟨a, G1, e1, g1, r1, t1⟩ => ?_
    refine (Run.bind t1).imp fun y H2 ⟨b, G2, e2', g2, r2, t2⟩ => ?_
    obtain ⟨s2, p2⟩ := t2
    unfold bnd at p2
    cases q : f a b with
    | none => rw [q] at p2; exact p2.elim
    | some z =>
      rw [q] at p2
      refine hf a b z x y G2 e2' σ H2 _ q (r1.mono g2) r2 s2 fun G3 v H3 g3 s3 r3 => ?_
      have p2 : Post (Rep C.M) C G2 ((match z with
        | .bl true => bnd fc fun c => ofO (g b c)
        | .bl false => ret (.bl false)
        | _ => fail) e2') σ Q := p2
      split at p2
      · refine ⟨true, r3.blV, ?_⟩
        rw [if_pos rfl]
        refine (Run.bind (G := G3) ⟨s3, p2.mono g3⟩).imp fun w H4 ⟨c, G4, e4, g4, r4, t4⟩ => ?_
        obtain ⟨d, q', s, k⟩ := t4.ofO
        exact hg b c d y w G4 e4 σ H4 Q q' (r2.mono (g3.trans g4)) r4 s k
      · refine ⟨false, r3.blV, ?_⟩
        rw [if_neg Bool.false_ne_true]
        exact p2 G3 _ H3 g3 s3 (.bl false)
      · exact p2.elim

/-! ### tests -/
def D.asBl : D → Option Bool
  | .bl b => some b
  | _ => none
def tv (f : EM D) : EM Bool := bnd f fun d => ofO d.asBl
theorem asBl_some {d : D} {b : Bool} (h : d.asBl = some b) : d = .bl b := by
  unfold D.asBl at h; split at h
  · cases h; rfl
  · cases h
/-- a value that is True or False, as a test -/
theorem t_val {e : Expr} {f : EM D} (h : SE C e f) (hi : ∀ (whole : Sem Value), isTrue e C.X.env whole = (do let v ← whole; standAt e.pos; holding [v] (truthy v)) := by intro _; rfl) : ST C e (tv f) :=
  (pt_val h hi).imp fun σ H Q ⟨G, e, t⟩ => (Run.bind t).imp fun x H1 ⟨a, G1, e1, g1, r1, t1⟩ => by
    obtain ⟨b, q, s, k⟩ := t1.ofO
    rw [asBl_some q] at r1
    exact ⟨b, r1.blV, k G1 b H1 (GE.refl _) s rfl⟩
theorem t_cmp {a b : Expr} {op : CmpOp} {pos : Pos} {r : R2} {f : D → D → Option D} {fa fb : EM D} (ho : OpR C.X (compareOp op) r) (hf : OpD C r f) (ha : SE C a fa) (hb : SE C b fb) (hm : behindInMarks op b = false) : ST C (.Compare a [op] [b] pos) (tv (e2 f fa fb)) :=
  (pt_cmpR ho ha hb hm).imp fun σ H Q ⟨G, e, t⟩ => by
    show tOp r (tOf (Rep C.M) C fa) (tOf (Rep C.M) C fb) σ H (fun x H' => ∃ k, x = .bl k ∧ Q k H')
    refine tOp_run hf σ H _ ((Run.bind t).imp fun x H1 ⟨a, G1, e1, g1, r1, t1⟩ => ?_)
    obtain ⟨b, q, s, k⟩ := t1.ofO
    rw [asBl_some q] at r1
    exact ⟨b, r1.blV, k G1 b H1 (GE.refl _) s rfl⟩
theorem t_chain {a b c : Expr} {op op' : CmpOp} {pos : Pos} {r r' : R2} {f g : D → D → Option D} {fa fb fc : EM D} (ho : OpR C.X (compareOp op) r) (hf : OpD C r f) (ho' : OpR C.X (compareOp op') r') (hg : OpD C r' g)
    (ha : SE C a fa) (hb : SE C b fb) (hc : SE C c fc) (hm : lastMarks [op, op'] [b, c] = false := by with_unfolding_all rfl) : ST C (.Compare a [op, op'] [b, c] pos) (tv (eChain f g fa fb fc)) :=
  (pt_chain ho ho' ha hb hc hm).imp fun σ H Q ⟨G, e, t⟩ => by
    show tChain r r' (tOf (Rep C.M) C fa) (tOf (Rep C.M) C fb) (tOf (Rep C.M) C fc) σ H (fun x H' => ∃ k, x = .bl k ∧ Q k H')
    have t' : tOf (Rep C.M) C (eChain f g fa fb fc) σ H (fun x H' => ∃ k, x = .bl k ∧ Q k H') := (Run.bind t).imp fun x H1 ⟨a, G1, e1, g1, r1, t1⟩ => by
      obtain ⟨b, q, s, k⟩ := t1.ofO
      rw [asBl_some q] at r1
      exact ⟨b, r1.blV, k G1 b H1 (GE.refl _) s rfl⟩
    obtain ⟨G, e, t⟩ := t'
    refine (Run.bind t).imp fun x H1 ⟨a, G1, e1, g1, r1, t1⟩ => ?_
    refine (Run.bind t1).imp fun y H2 ⟨b, G2, e2', g2, r2, t2⟩ => ?_
    obtain ⟨s2, p2⟩ := t2
    unfold bnd at p2
    cases q : f a b with
    | none => rw [q] at p2; exact p2.elim
    | some z =>
      rw [q] at p2
      refine hf a b z x y G2 e2' σ H2 _ q (r1.mono g2) r2 s2 fun G3 v H3 g3 s3 r3 => ?_
      have p2 : Post (Rep C.M) C G2 ((match z with
        | .bl true => bnd fc fun c => ofO (g b c)
        | .bl false => ret (.bl false)
        | _ => fail) e2') σ (fun x H' => ∃ k, x = .bl k ∧ Q k H') := p2
      split at p2
      · refine ⟨true, r3.blV, ?_⟩
        rw [if_pos rfl]
        refine (Run.bind (G := G3) ⟨s3, p2.mono g3⟩).imp fun w H4 ⟨c, G4, e4, g4, r4, t4⟩ => ?_
        obtain ⟨d, q', s, k⟩ := t4.ofO
        exact hg b c d y w G4 e4 σ H4 _ q' (r2.mono (g3.trans g4)) r4 s k
      · refine ⟨false, r3.blV, ?_⟩
        rw [if_neg Bool.false_ne_true]
        exact p2 G3 _ H3 g3 s3 (.bl false)
      · exact p2.elim

def tAndF (f g : EM Bool) : EM Bool := bnd f fun b => if b = true then g else ret false
def tOrF (f g : EM Bool) : EM Bool := bnd f fun b => if b = true then ret true else g
def tNotF (f : EM Bool) : EM Bool := bnd f fun b => ret (!b)
/-- a chain of and, or -/
def SW (C : GC N V Gs) (e : Expr) (f : EM Bool) : Prop := PW C.X e (tOf (fun _ b c => b = c) C f)
theorem SW.pt {e : Expr} {f : EM Bool} (h : SW C e f) : ST C e f := PW.pt h
theorem w_and1 {a : Expr} {pos : Pos} {f : EM Bool} (h : ST C a f) : SW C (.BoolOp .And [a] pos) f := pw_and1 h
theorem w_or1 {a : Expr} {pos : Pos} {f : EM Bool} (h : ST C a f) : SW C (.BoolOp .Or [a] pos) f := pw_or1 h
theorem w_and {a b : Expr} {rest : List Expr} {pos : Pos} {f g : EM Bool} (h : ST C a f) (h' : SW C (.BoolOp .And (b :: rest) pos) g) : SW C (.BoolOp .And (a :: b :: rest) pos) (tAndF f g) :=
  (pw_and h h').imp fun σ H Q ⟨G, e, t⟩ => (Run.bind t).imp fun x H1 ⟨b, G1, e1, g1, r1, t1⟩ => by
    subst r1
    cases x with
    | true => rw [if_pos rfl] at t1 ⊢; exact ⟨_, _, t1⟩
    | false => rw [if_neg Bool.false_ne_true] at t1 ⊢; exact t1.done rfl
theorem w_or {a b : Expr} {rest : List Expr} {pos : Pos} {f g : EM Bool} (h : ST C a f) (h' : SW C (.BoolOp .Or (b :: rest) pos) g) : SW C (.BoolOp .Or (a :: b :: rest) pos) (tOrF f g) :=
  (pw_or h h').imp fun σ H Q ⟨G, e, t⟩ => (Run.bind t).imp fun x H1 ⟨b, G1, e1, g1, r1, t1⟩ => by
    subst r1
    cases x with
    | true => rw [if_pos rfl] at t1 ⊢; exact t1.done rfl
    | false => rw [if_neg Bool.false_ne_true] at t1 ⊢; exact ⟨_, _, t1⟩
theorem t_not {a : Expr} {pos : Pos} {f : EM Bool} (h : ST C a f) : ST C (.UnaryOp .Not a pos) (tNotF f) :=
  (pt_not h).imp fun σ H Q ⟨G, e, t⟩ => (Run.bind t).imp fun x H1 ⟨b, G1, e1, g1, r1, t1⟩ => by
    subst r1; exact t1.done rfl
/-- a test by truth -/
def D.tru : D → Option Bool
  | .non => some false
  | .bl b => some b
  | .int i => some (i != 0)
  | .str x => if x.length ≤ sz then some ((x.length : Int) != 0) else none
  | .tup xs => some (!xs.isEmpty)
  | .lst xs => some (!xs.isEmpty)
  | _ => none
theorem Rep.tru {M : Mdl} {G H : Hp} {v : L2.V} {d : D} {b : Bool} (h : Rep M G v d) (s : GE G H) (q : d.tru = some b) : TruV M.K v H b := by
  cases h with
  | non => cases q; rfl
  | bl => cases q; rfl
  | int => cases q; rfl
  | str x =>
    have q : (if x.length ≤ sz then some ((x.length : Int) != 0) else none) = some b := q
    split at q
    · rename_i hz; cases q; exact ⟨sz_le hz, rfl⟩
    · cases q
  | tup h r => cases q; exact .inr (.inl ⟨_, sqt_ge s h, by have := r.nil_of; cases r <;> rfl⟩)
  | lst h r => cases q; exact .inl ⟨_, .inl (.inl (s _ _ h)), by cases r <;> rfl⟩
  | scr h r => cases q
  | dicK h r => cases q
  | dicT h r => cases q
  | ins h m r => cases q
  | fn h => cases q
def tt (f : EM D) : EM Bool := bnd f fun d => ofO d.tru
theorem t_truth {e : Expr} {f : EM D} (h : SE C e f) (hi : ∀ (whole : Sem Value), isTrue e C.X.env whole = (do let v ← whole; standAt e.pos; holding [v] (truthy v)) := by intro _; rfl) : ST C e (tt f) :=
  (pt_truth h hi).imp fun σ H Q ⟨G, e, t⟩ => (Run.bind t).imp fun x H1 ⟨a, G1, e1, g1, r1, t1⟩ => by
    obtain ⟨b, q, s, k⟩ := t1.ofO
    exact ⟨b, r1.tru s.sub q, k G1 b H1 (GE.refl _) s rfl⟩

/-! ### not, and, or as values; a if c else b -/
def eNot (f : EM D) : EM D := bnd f fun d => match d with
  | .bl b => ret (.bl (!b))
  | _ => fail
theorem d_not {a : Expr} {pos : Pos} {f : EM D} (h : SE C a f) : SE C (.UnaryOp .Not a pos) (eNot f) :=
  (pe_not h).imp fun σ H Q ⟨G, e, t⟩ => (Run.bind t).imp fun x H1 ⟨d, G1, e1, g1, r1, t1⟩ => by
    cases d with
    | bl b => exact ⟨b, r1.blV, t1.done (.bl _)⟩
    | _ => exact t1.2.elim
def eAnd (f g : EM D) : EM D := bnd f fun d => match d with
  | .bl true => g
  | .bl false => ret (.bl false)
  | _ => fail
def eOr (f g : EM D) : EM D := bnd f fun d => match d with
  | .bl true => ret (.bl true)
  | .bl false => g
  | _ => fail
theorem d_one {a : Expr} {op : BoolOp} {pos : Pos} {f : EM D} (h : SE C a f) : SE C (.BoolOp op [a] pos) f := pe_one h
theorem d_and {a b : Expr} {rest : List Expr} {pos : Pos} {f g : EM D} (h : SE C a f) (h' : SE C (.BoolOp .And (b :: rest) pos) g) : SE C (.BoolOp .And (a :: b :: rest) pos) (eAnd f g) :=
  (pe_and h h').imp fun σ H Q ⟨G, e, t⟩ => (Run.bind t).imp fun x H1 ⟨d, G1, e1, g1, r1, t1⟩ => by
    cases d with
    | bl b =>
      refine ⟨b, r1.blV, ?_⟩
      cases b with
      | true => rw [if_pos rfl]; exact ⟨_, _, t1⟩
      | false => rw [if_neg Bool.false_ne_true]; exact t1.done (.bl _)
    | _ => exact t1.2.elim
theorem d_or {a b : Expr} {rest : List Expr} {pos : Pos} {f g : EM D} (h : SE C a f) (h' : SE C (.BoolOp .Or (b :: rest) pos) g) : SE C (.BoolOp .Or (a :: b :: rest) pos) (eOr f g) :=
  (pe_or h h').imp fun σ H Q ⟨G, e, t⟩ => (Run.bind t).imp fun x H1 ⟨d, G1, e1, g1, r1, t1⟩ => by
    cases d with
    | bl b =>
      refine ⟨b, r1.blV, ?_⟩
      cases b with
      | true => rw [if_pos rfl]; exact t1.done (.bl _)
      | false => rw [if_neg Bool.false_ne_true]; exact ⟨_, _, t1⟩
    | _ => exact t1.2.elim
def eIf (c : EM Bool) (f g : EM D) : EM D := bnd c fun b => if b = true then f else g
theorem d_if {c a b : Expr} {pos : Pos} {t : EM Bool} {f g : EM D} (hc : ST C c t) (ha : SE C a f) (hb : SE C b g) : SE C (.IfExp c a b pos) (eIf t f g) :=
  (pe_ifExp hc ha hb).imp fun σ H Q ⟨G, e, t⟩ => (Run.bind t).imp fun x H1 ⟨d, G1, e1, g1, r1, t1⟩ => by
    subst r1
    cases x with
    | true => rw [if_pos rfl] at t1 ⊢; exact ⟨_, _, t1⟩
    | false => rw [if_neg Bool.false_ne_true] at t1 ⊢; exact ⟨_, _, t1⟩

/-! ### unary -/
def negD : D → Option D
  | .int a => some (.int (-a))
  | _ => none
def e1 (f : D → Option D) (fa : EM D) : EM D := bnd fa fun a => ofO (f a)
theorem d_neg {a : Expr} {pos : Pos} {f : EM D} (h : SE C a f) : SE C (.UnaryOp .USub a pos) (e1 negD f) :=
  (pe_un un_neg h).imp fun σ H Q ⟨G, e, t⟩ => (Run.bind t).imp fun x H1 ⟨d, G1, e1, g1, r1, t1⟩ => by
    obtain ⟨b, q, s, k⟩ := t1.ofO
    unfold negD at q
    split at q
    · cases q; rw [r1.intV]; exact ⟨_, rfl, k _ _ _ (GE.refl _) s (.int _)⟩
    · cases q

/-! ### argument lists, displays -/
def SA (C : GC N V Gs) (es : List Expr) (f : EM (List D)) : Prop := PA C.X es (tOf (Reps C.M) C f)
def aNil : EM (List D) := ret []
def aCons (f : EM D) (g : EM (List D)) : EM (List D) := bnd f fun d => bnd g fun ds => ret (d :: ds)
theorem a_nil : SA C [] aNil := pa_nil.imp fun σ H Q ⟨G, e, t⟩ => t.done .nil
theorem a_cons {a : Expr} {es : List Expr} {f : EM D} {g : EM (List D)} (h : SE C a f) (h' : SA C es g) (hs : starEach (a :: es) C.X.env = (false, eval a C.X.env) :: starEach es C.X.env := by rfl) : SA C (a :: es) (aCons f g) :=
  (pa_cons h h' hs).imp fun σ H Q ⟨G, e, t⟩ => by
    refine (Run.bind t).imp fun x H1 ⟨d, G1, e1, g1, r1, t1⟩ => ?_
    refine (Run.bind t1).imp fun xs H2 ⟨ds, G2, e2, g2, r2, t2⟩ => ?_
    exact t2.done (.cons (r1.mono g2) r2)
def eTup (f : EM (List D)) : EM D := bnd f fun ds => if ds.length ≤ sz then ret (.tup ds) else fail
def eLst (f : EM (List D)) : EM D := bnd f fun ds => if ds.length ≤ sz then ret (.lst ds) else fail
theorem d_tup {es : List Expr} {j} {pos : Pos} {f : EM (List D)} (h : SA C es f) : SE C (.Tuple es j pos) (eTup f) :=
  (pe_tup h).imp fun σ H Q ⟨G, e, t⟩ => (Run.bind t).imp fun x H1 ⟨d, G1, e1, g1, r1, t1⟩ => by
    obtain ⟨s, p⟩ := t1
    split at p
    · rename_i hz
      refine ⟨sz_le (by rw [r1.length]; exact hz), fun l hl => ?_⟩
      obtain ⟨g, s', r⟩ := s.newTup hl r1
      exact p _ _ _ g s' r
    · exact p.elim
theorem d_lst {es : List Expr} {pos : Pos} {f : EM (List D)} (h : SA C es f) : SE C (.List es pos) (eLst f) :=
  (pe_lst h).imp fun σ H Q ⟨G, e, t⟩ => (Run.bind t).imp fun x H1 ⟨d, G1, e1, g1, r1, t1⟩ => by
    obtain ⟨s, p⟩ := t1
    split at p
    · rename_i hz
      refine ⟨sz_le (by rw [r1.length]; exact hz), fun l hl => ?_⟩
      obtain ⟨g, s', r⟩ := s.newLst hl r1
      exact p _ _ _ g s' r
    · exact p.elim
end
end Cs

set_option maxRecDepth 100000
set_option maxHeartbeats 4000000
namespace Cs
open PySem L2

/-! ## statements -/
/-- an object of one's own that no slot holds yet -/
def SimO (M : Mdl) (F : Fm) (G : Hp) (e : Env) (σ : St) (H : Hp) (o : OO) (v : V) : Prop :=
  ∃ fp f, SimF M F G e σ H fp ∧ OwnAt M G H o v f ∧ ∀ a ∈ f, G a = none ∧ F.H0 a = none ∧ (∀ j, a ∉ fp j) ∧ ∀ p ∈ F.pro, p.1 ≠ a

inductive SR where
  | next (e : Env) | ret (d : D) (e : Env) | retO (o : OO) (e : Env) | exc (x : XV) (e : Env) | bad

section
variable {N : List Str} {V : List Nat} {Gs : List Str} {C : GC N V Gs}

def PostS (C : GC N V Gs) (G : Hp) (r : SR) (D : Ends) : Prop :=
  match r with
  | .next e => ∀ G' σ' H', GE G G' → Sim C.M C.F G' e σ' H' → D.nx σ' H'
  | .ret d e => ∀ G' σ' v H', GE G G' → Sim C.M C.F G' e σ' H' → Rep C.M G' v d → D.rt v H'
  | .retO o e => ∀ G' σ' v H', GE G G' → SimO C.M C.F G' e σ' H' o v → D.rt v H'
  | .exc x e => ∀ G' σ' H' cls d, GE G G' → Sim C.M C.F G' e σ' H' → ExcAt C.M G' H' cls d x → C.W cls d σ' H'
  | .bad => False
theorem PostS.mono {G G' : Hp} {r : SR} {D : Ends} (h : PostS C G r D) (g : GE G G') : PostS C G' r D := by
  cases r with
  | next e => exact fun G2 σ' H' g2 s => h G2 σ' H' (g.trans g2) s
  | ret d e => exact fun G2 σ' v H' g2 s p => h G2 σ' v H' (g.trans g2) s p
  | retO d e => exact fun G2 σ' v H' g2 s => h G2 σ' v H' (g.trans g2) s
  | exc x e => exact fun G2 σ' H' c d g2 s p => h G2 σ' H' c d (g.trans g2) s p
  | bad => exact h
abbrev ES := Env → SR
def tOfS (C : GC N V Gs) (f : ES) : TS := fun D σ H => ∃ G e, Sim C.M C.F G e σ H ∧ PostS C G (f e) D
def SS (C : GC N V Gs) (st : Stmt) (f : ES) : Prop := PS C.X st (tOfS C f)
def SSs (C : GC N V Gs) (st : List Stmt) (f : ES) : Prop := PSs C.X st (tOfS C f)

def SR.then (r : SR) (g : ES) : SR := match r with
  | .next e => g e
  | r => r
def sNil : ES := .next
def sq (f g : ES) : ES := fun e => (f e).then g
/-- f's ends, where g comes behind -/
theorem PostS.then {G : Hp} {r : SR} {g : ES} {D : Ends} {nx : St → Hp → Prop} (h : PostS C G (r.then g) D) (hn : ∀ G' e σ' H', GE G G' → Sim C.M C.F G' e σ' H' → PostS C G' (g e) D → nx σ' H') : PostS C G r { D with nx := nx } := by
  cases r with
  | next e => exact fun G' σ' H' ge s => hn G' e σ' H' ge s (h.mono ge)
  | ret d e => exact h
  | retO d e => exact h
  | exc x e => exact h
  | bad => exact h
theorem ss_nil : SSs C [] sNil := pss_nil.imp fun D σ H ⟨G, e, s, p⟩ => p G σ H (GE.refl G) s
theorem ss_cons {st : Stmt} {rest : List Stmt} {f g : ES} (h : SS C st f) (h' : SSs C rest g) : SSs C (st :: rest) (sq f g) :=
  (pss_cons h h').imp fun D σ H ⟨G, e, s, p⟩ => ⟨G, e, s, PostS.then p fun G' e' σ' H' _ s' q => ⟨G', e', s', q⟩⟩
theorem ss_one {st : Stmt} {f : ES} (h : SS C st f) : SSs C [st] f := pss_one h
theorem s_pass {pos : Pos} : SS C (.Pass pos) sNil := ps_pass.imp fun D σ H ⟨G, e, s, p⟩ => p G σ H (GE.refl G) s

/-- behind an expression -/
def R.s {α : Type} (r : R α) (k : α → ES) : SR := match r with
  | .ok a e => k a e
  | .exc x e => .exc x e
  | .bad => .bad
def sB {α : Type} (f : EM α) (k : α → ES) : ES := fun e => (f e).s k
theorem Run.sB {α β : Type} {rep : Hp → β → α → Prop} {f : EM α} {k : α → ES} {G : Hp} {e : Env} {σ : St} {H : Hp} {D : Ends} (s : Sim C.M C.F G e σ H) (p : PostS C G (sB f k e) D) : tOf rep C f σ H (fun x H1 => ∃ a G1 e1, GE G G1 ∧ rep G1 x a ∧ Sim C.M C.F G1 e1 σ H1 ∧ PostS C G1 (k a e1) D) := by
  refine ⟨G, e, s, ?_⟩
  unfold Cs.sB at p
  cases q : f e with
  | ok a e1 => rw [q] at p; exact fun G' v H' g s' r => ⟨a, G', e1, g, r, s', PostS.mono p g⟩
  | exc x e1 => rw [q] at p; exact fun G' H' cls d g s' r => p G' σ H' cls d g s' r
  | bad => rw [q] at p; exact p.elim

def sExpr (f : EM D) : ES := sB f fun _ e => .next e
theorem s_expr {e : Expr} {pos : Pos} {f : EM D} (h : SE C e f) (hs : swapsWith e none pos.line C.X.env = pure false := by rfl) : SS C (.Expr e pos) (sExpr f) :=
  (ps_expr h hs).imp fun D σ H ⟨G, e, s, p⟩ => (Run.sB (rep := Rep C.M) s p).imp fun x H1 ⟨a, G1, e1, g, r, s1, p1⟩ => p1 G1 σ H1 (GE.refl _) s1
def sRet (f : EM D) : ES := sB f fun d e => .ret d e
theorem s_ret {e : Expr} {pos : Pos} {f : EM D} (h : SE C e f) : SS C (.Return (some e) pos) (sRet f) :=
  (ps_ret h).imp fun D σ H ⟨G, e, s, p⟩ => (Run.sB (rep := Rep C.M) s p).imp fun x H1 ⟨a, G1, e1, g, r, s1, p1⟩ => p1 G1 σ x H1 (GE.refl _) s1 r
def sRetN : ES := fun e => .ret .non e
theorem s_retN {pos : Pos} : SS C (.Return none pos) sRetN := ps_retN.imp fun D σ H ⟨G, e, s, p⟩ => p G σ _ H (GE.refl _) s .non
def sIf (c : EM Bool) (f g : ES) : ES := sB c fun b e => if b = true then f e else g e
theorem s_if {c : Expr} {a b : List Stmt} {pos : Pos} {t : EM Bool} {f g : ES} (hc : ST C c t) (ha : SSs C a f) (hb : SSs C b g) : SS C (.If c a b pos) (sIf t f g) :=
  (ps_if hc ha hb).imp fun D σ H ⟨G, e, s, p⟩ => (Run.sB s p).imp fun x H1 ⟨a, G1, e1, g, r, s1, p1⟩ => by
    subst r
    cases x with
    | true => rw [if_pos rfl] at p1 ⊢; exact ⟨_, _, s1, p1⟩
    | false => rw [if_neg Bool.false_ne_true] at p1 ⊢; exact ⟨_, _, s1, p1⟩

/-! ### targets -/
def PostT (C : GC N V Gs) (G : Hp) (r : R Unit) (Q : St → Hp → Prop) : Prop :=
  match r with
  | .ok _ e => ∀ G' σ' H', GE G G' → Sim C.M C.F G' e σ' H' → Q σ' H'
  | .exc x e => ∀ G' σ' H' cls d, GE G G' → Sim C.M C.F G' e σ' H' → ExcAt C.M G' H' cls d x → C.W cls d σ' H'
  | .bad => False
theorem PostT.mono {G G' : Hp} {r : R Unit} {Q : St → Hp → Prop} (h : PostT C G r Q) (g : GE G G') : PostT C G' r Q := by
  cases r with
  | ok _ e => exact fun G2 σ' H' g2 s => h G2 σ' H' (g.trans g2) s
  | exc x e => exact fun G2 σ' H' c d g2 s p => h G2 σ' H' c d (g.trans g2) s p
  | bad => exact h
theorem PostT.imp {G : Hp} {r : R Unit} {Q Q' : St → Hp → Prop} (h : PostT C G r Q) (i : ∀ σ H, Q σ H → Q' σ H) : PostT C G r Q' := by
  cases r with
  | ok _ e => exact fun G2 σ' H' g2 s => i _ _ (h G2 σ' H' g2 s)
  | exc x e => exact h
  | bad => exact h
theorem PostT.bind {G : Hp} {r : R Unit} {k : EM Unit} {Q : St → Hp → Prop} (h : PostT C G (r.bind fun _ => k) Q) : PostT C G r (fun σ' H' => ∃ G' e, GE G G' ∧ Sim C.M C.F G' e σ' H' ∧ PostT C G' (k e) Q) := by
  cases r with
  | ok _ e => exact fun G' σ' H' g s => ⟨G', e, g, s, PostT.mono h g⟩
  | exc x e => exact h
  | bad => exact h
/-- a slot takes a value -/
def putV (i : Nat) (d : D) : EM Unit := fun e => match e[i]? with
  | none => .bad
  | some (some (.bor _)) => .bad
  | some (some .pin) => .bad
  | some _ => .ok () (e.set i (some (.val d)))
theorem putV_ok {G : Hp} {i : Nat} {d : D} {v : L2.V} {e : Env} {σ : St} {H : Hp} {Q : St → Hp → Prop} (r : Rep C.M G v d) (s : Sim C.M C.F G e σ H) (p : PostT C G (putV i d e) Q) : Q (σ.set i (some v)) H := by
  unfold putV at p
  split at p
  · exact p.elim
  · exact p.elim
  · exact p.elim
  · rename_i sv hn hn2 q
    refine p G _ H (GE.refl _) (s.put (lt_of_get q) (fun z => ?_) r)
    rw [getD_of q] at z
    cases sv with
    | none => exact z
    | some w => cases w with
                | val _ => exact z
                | own _ => exact z
                | bor o => exact hn o rfl
                | pin => exact hn2 rfl
def tOfG (C : GC N V Gs) (g : D → EM Unit) : TG := fun v σ H Q => ∃ G e d, Rep C.M G v d ∧ Sim C.M C.F G e σ H ∧ PostT C G (g d e) Q
def SG (C : GC N V Gs) (tg : Expr) (g : D → EM Unit) : Prop := PG C.X tg (tOfG C g)
def tOfGs (C : GC N V Gs) (g : List D → EM Unit) : TGs := fun v σ H Q => ∃ G e d, Reps C.M G v d ∧ Sim C.M C.F G e σ H ∧ PostT C G (g d e) Q
def SGs (C : GC N V Gs) (tg : List Expr) (g : List D → EM Unit) : Prop := PGs C.X tg (tOfGs C g)
theorem _root_.L2.PG.imp {X : Cx} {tg : Expr} {t t' : TG} (h : PG X tg t) (i : ∀ v σ H Q, t' v σ H Q → t v σ H Q) : PG X tg t' := ⟨fun pins s σ H v u Q I r q => h.run pins s σ H v u Q I r (i v σ H Q q)⟩
theorem _root_.L2.PGs.imp {X : Cx} {tg : List Expr} {t t' : TGs} (h : PGs X tg t) (i : ∀ v σ H Q, t' v σ H Q → t v σ H Q) : PGs X tg t' := ⟨fun pins s σ H v u Q I r q => h.run pins s σ H v u Q I r (i v σ H Q q)⟩
theorem GC.stoLoc {i : Nat} {x : Str} (hN : N[i]? = some x) (hV : V[i]? = some 2 ∨ V[i]? = some 3) : Loc C.X.env.scope x ∧ (C.X.fn x = true ∨ C.X.env.scope.names.lookup x = some .local) := by
  rcases hV with h | h
  · exact ⟨.inl (C.loc i x hN h), .inr (C.loc i x hN h)⟩
  · exact ⟨.inr (C.cel i x hN h).1, .inl (C.cel i x hN h).2⟩
theorem g_name (i : Nat) {x : Str} {pos : Pos} (hN : N[i]? = some x := by rfl) (hV : V[i]? = some 2 ∨ V[i]? = some 3 := by first | exact .inl rfl | exact .inr rfl) : SG C (.Name x pos) (putV i) :=
  (pg_name (i := i) C.nd (by rw [C.hN]; exact hN) (GC.stoLoc hN hV).1 (GC.stoLoc hN hV).2).imp fun v σ H Q ⟨G, e, d, r, s, p⟩ => putV_ok r s p
def gNilF : List D → EM Unit := fun ds => match ds with
  | [] => ret ()
  | _ => fail
def gConsF (f : D → EM Unit) (g : List D → EM Unit) : List D → EM Unit := fun ds => match ds with
  | d :: r => bnd (f d) fun _ => g r
  | [] => fail
theorem gs_nil : SGs C [] gNilF := pgs_nil.imp fun vs σ H Q ⟨G, e, ds, r, s, p⟩ => by
  cases r with
  | nil => exact ⟨rfl, p G σ H (GE.refl _) s⟩
  | cons _ _ => exact p.elim
theorem gs_cons {a : Expr} {es : List Expr} {f : D → EM Unit} {g : List D → EM Unit} (h : SG C a f) (h' : SGs C es g)
    (hs : (assignEach (a :: es) C.X.env).map (·.2) = assign a C.X.env :: (assignEach es C.X.env).map (·.2) := by rfl) : SGs C (a :: es) (gConsF f g) :=
  (pgs_cons h h' hs).imp fun vs σ H Q ⟨G, e, ds, r, s, p⟩ => by
    cases r with
    | nil => exact p.elim
    | cons r1 r2 => exact ⟨_, _, rfl, G, e, _, r1, s, (PostT.bind p).imp fun σ' H' ⟨G', e', ge, s', q⟩ => ⟨G', e', _, r2.mono ge, s', q⟩⟩
def gTupF (n : Nat) (g : List D → EM Unit) : D → EM Unit := fun d => match d with
  | .tup ds => if ds.length = n then g ds else fail
  | _ => fail
theorem g_tup {es : List Expr} {k : Nat} {pos : Pos} {g : List D → EM Unit} {n : Nat} (hc : C.X.calm = true) (h : SGs C es g) (hn : (assignEach es C.X.env).length = n := by rfl) (hst : (assignEach es C.X.env).findIdx? (·.1) = none := by rfl) : SG C (.Tuple es k pos) (gTupF n g) :=
  (pg_tup hc h hn hst).imp fun v σ H Q ⟨G, e, d, r, s, p⟩ => by
    unfold gTupF at p
    split at p
    · split at p
      · rename_i hl
        obtain ⟨a, vs, rfl, hq, rr⟩ := r.tupV
        exact ⟨a, vs, rfl, sqt_ge s.sub hq, by rw [rr.length]; exact hl, G, e, _, rr, s, p⟩
      · exact p.elim
    · exact p.elim

/-! ### assignments -/
def sAsg (f : EM D) (g : D → EM Unit) : ES := sB f fun d => sB (g d) fun _ e => .next e
theorem PostS.ofT {G : Hp} {r : R Unit} {k : ES} {D : Ends} (p : PostS C G (r.s fun _ => k) D) : PostT C G r (fun σ H => ∃ G' e, GE G G' ∧ Sim C.M C.F G' e σ H ∧ PostS C G' (k e) D) := by
  cases r with
  | ok _ e => exact fun G' σ' H' g s => ⟨G', e, g, s, PostS.mono p g⟩
  | exc x e => exact p
  | bad => exact p
theorem s_asg {tg e : Expr} {pos : Pos} {f : EM D} {g : D → EM Unit} (he : SE C e f) (hg : SG C tg g) (hs : swapsWithSole [tg] e pos.line C.X.env = pure false := by rfl) (hw : swappedStores [tg] e C.X.env = pure none := by rfl)
    (h1 : (assignEach [tg] C.X.env).map (·.2) = [assign tg C.X.env] := by rfl) : SS C (.Assign [tg] e pos) (sAsg f g) :=
  (ps_asg he hg hs hw h1).imp fun D σ H ⟨G, e, s, p⟩ => (Run.sB (rep := Rep C.M) s p).imp fun x H1 ⟨a, G1, e1, ge, r, s1, p1⟩ =>
    ⟨G1, e1, a, r, s1, (PostS.ofT p1).imp fun σ' H' ⟨G2, e2, g2, s2, p2⟩ => p2 G2 σ' H' (GE.refl _) s2⟩
/-- x = e -/
theorem s_set (i : Nat) {x : Str} {e : Expr} {pos pos' : Pos} {f : EM D} (he : SE C e f) (hN : N[i]? = some x := by rfl) (hV : V[i]? = some 2 ∨ V[i]? = some 3 := by first | exact .inl rfl | exact .inr rfl)
    (hs : swapsWith e (some (.Name x pos')) pos.line C.X.env = pure false := by rfl) : SS C (.Assign [.Name x pos'] e pos) (sAsg f (putV i)) :=
  (ps_set (i := i) C.nd (by rw [C.hN]; exact hN) (GC.stoLoc hN hV).1 he hs (GC.stoLoc hN hV).2).imp fun D σ H ⟨G, e, s, p⟩ => (Run.sB (rep := Rep C.M) s p).imp fun x H1 ⟨a, G1, e1, ge, r, s1, p1⟩ => by
    have q := (PostS.ofT p1).imp fun σ' H' ⟨G2, e2, g2, s2, p2⟩ => p2 G2 σ' H' (GE.refl _) s2
    exact putV_ok r s1 q

/-! ### loops -/
/-- what is walked, by content -/
structure ItOk (M : Mdl) (G : Hp) (J : It) (ds : List D) : Prop where
  go : ∀ i H, GE G H → i < ds.length → J.go i H
  stop : ∀ i H, GE G H → ds.length ≤ i → J.stop i H
  yld : ∀ (F : Fm) i d x G1 e σ H H', ds[i]? = some d → GE G G1 → Sim M F G1 e σ H → J.yld i H x H' → ∃ G2, GE G1 G2 ∧ Sim M F G2 e σ H' ∧ Rep M G2 x d
def tOfI (C : GC N V Gs) (f : EM (List D)) : TI := fun σ H Q => ∃ G e, Sim C.M C.F G e σ H ∧ match f e with
  | .ok ds e' => ∀ G' H' J, GE G G' → Sim C.M C.F G' e' σ H' → ItOk C.M G' J ds → Q J H'
  | .exc x e' => ∀ G' H' cls d, GE G G' → Sim C.M C.F G' e' σ H' → ExcAt C.M G' H' cls d x → C.W cls d σ H'
  | .bad => False
def SI (C : GC N V Gs) (tg iter : Expr) (f : EM (List D)) : Prop := PI C.X tg iter (tOfI C f)
def forL (g : D → EM Unit) (body : ES) : List D → ES
  | [] => .next
  | d :: ds => sq (sB (g d) fun _ => body) (forL g body ds)
def sFor (f : EM (List D)) (g : D → EM Unit) (body : ES) : ES := sB f (forL g body)
theorem s_for {tg iter : Expr} {body : List Stmt} {pos : Pos} {f : EM (List D)} {g : D → EM Unit} {b : ES} (hc : C.X.calm = true) (hi : SI C tg iter f) (hg : SG C tg g) (hb : SSs C body b)
    (hf : ∀ x, foldedSetIterable iter C.X.env x = pure x := by intro _; rfl) : SS C (.For tg iter body [] pos) (sFor f g b) :=
  (ps_for C.po hc hi hg hb hf).imp fun D σ H ⟨G, e, s, p⟩ => by
    refine ⟨G, e, s, ?_⟩
    unfold sFor sB at p
    revert p
    cases q : f e with
    | bad => exact id
    | exc x e1 => exact fun p G' H' cls d g s' r => p G' σ H' cls d g s' r
    | ok ds e1 =>
      intro p G' H' J ge s' it
      refine ⟨fun i m σ H => m = ds.length - i ∧ ∃ G2 e2, GE G' G2 ∧ Sim C.M C.F G2 e2 σ H ∧ PostS C G2 (forL g b (ds.drop i) e2) D, ⟨_, rfl, G', e1, GE.refl _, s', PostS.mono p ge⟩, ?_⟩
      rintro i m σ H ⟨rfl, G2, e2, g2, s2, p2⟩
      by_cases hlt : i < ds.length
      · refine .inr ⟨it.go i H (g2.trans s2.sub) hlt, fun σ' H' => ∃ G3 e3, GE G' G3 ∧ Sim C.M C.F G3 e3 σ' H' ∧ PostS C G3 (forL g b (ds.drop (i + 1)) e3) D, fun σ' H' z => ⟨ds.length - (i + 1), by omega, rfl, z⟩, fun x H' hy => ?_⟩
        have hd : ds[i]? = some ds[i] := List.getElem?_eq_getElem hlt
        obtain ⟨G3, g3, s3, r3⟩ := it.yld _ i _ x G2 e2 σ H H' hd g2 s2 hy
        rw [List.drop_eq_getElem_cons hlt] at p2
        have p3 := PostS.mono (PostS.then (nx := fun σ' H' => ∃ G3 e3, GE G' G3 ∧ Sim C.M C.F G3 e3 σ' H' ∧ PostS C G3 (forL g b (ds.drop (i + 1)) e3) D) p2 fun G4 e4 σ' H' ge4 s4 p4 => ⟨G4, e4, g2.trans ge4, s4, p4⟩) g3
        refine ⟨G3, e2, _, r3, s3, (PostS.ofT p3).imp fun σ' H4 ⟨G4, e4, g4, s4, p4⟩ => ⟨G4, e4, s4, ?_⟩⟩
        revert p4
        cases b e4 with
        | next e => exact id
        | ret d e => exact id
        | retO d e => exact id
        | exc x e => exact id
        | bad => exact id
      · refine .inl ⟨it.stop i H (g2.trans s2.sub) (by omega), ?_⟩
        rw [List.drop_eq_nil_of_le (by omega)] at p2
        exact p2 G2 σ H (GE.refl _) s2
/-- a while: k turns at most -/
def whileN (c : EM Bool) (body : ES) : Nat → ES
  | 0 => fun _ => .bad
  | n + 1 => sB c fun b => if b = true then sq body (whileN c body n) else .next
theorem s_while (n : Nat) {c : Expr} {body : List Stmt} {pos : Pos} {t : EM Bool} {b : ES} (hc : ST C c t) (hb : SSs C body b) : SS C (.While c body [] pos) (whileN t b n) :=
  (ps_while C.po hc hb).imp fun D σ H ⟨G, e, s, p⟩ => by
    refine ⟨fun m σ H => ∃ G e, Sim C.M C.F G e σ H ∧ PostS C G (whileN t b m e) D, ⟨n, G, e, s, p⟩, ?_⟩
    rintro m σ H ⟨G, e, s, p⟩
    cases m with
    | zero => exact p.elim
    | succ m =>
      refine (Run.sB s p).imp fun x H1 ⟨a, G1, e1, g1, r, s1, p1⟩ => ?_
      subst r
      cases x with
      | false => rw [if_neg Bool.false_ne_true] at p1 ⊢; exact p1 G1 σ H1 (GE.refl _) s1
      | true =>
        rw [if_pos rfl] at p1 ⊢
        refine ⟨fun σ' H' => ∃ G e, Sim C.M C.F G e σ' H' ∧ PostS C G (whileN t b m e) D, fun σ' H' z => ⟨m, Nat.lt_succ_self m, z⟩, G1, e1, s1, ?_⟩
        have p2 := PostS.then (nx := fun σ' H' => ∃ G e, Sim C.M C.F G e σ' H' ∧ PostS C G (whileN t b m e) D) p1 fun G4 e4 σ' H' ge4 s4 p4 => ⟨G4, e4, s4, p4⟩
        revert p2
        cases b e1 with
        | next e => exact id
        | ret d e => exact id
        | retO d e => exact id
        | exc x e => exact id
        | bad => exact id
end
end Cs

set_option maxRecDepth 100000
set_option maxHeartbeats 4000000
/-! enumerate(tuple) -/
namespace PySem
open Sem (wp)
theorem meets_enumerate_new1B {v : Value} {o : Obj} {H : Heap → Prop} (B : Begins v o H) :
    Meets (Builtin.«enumerate.__new__» ⟨[.type "enumerate", v], []⟩) (fun _ R s => H s.heap ∧
      R (.ok (.ret (.ref (s.heap.push o).objs.size))) { s with heap := (s.heap.push o).push { cls := .type "enumerate", data := .fields #[.none, .bool false, .ref s.heap.objs.size, rawInt 0, .none, .none] } }) :=
  .of_wp fun prog w A R s h => by
    obtain ⟨hp, g, d, tk, os⟩ := s; obtain ⟨h1, h⟩ := h
    have hsub := sub_enumerate
    have q1 : ∀ {A' : Around} {E : Value → Shared → Prop} {Q : Value → Shared → Prop}, Q (.ref hp.objs.size) ⟨hp.push o, g, d, tk, os⟩ → wpAny (model prog w) A' (pyIter v) Q E ⟨hp, g, d, tk, os⟩ :=
      fun q => B.iter prog w _ _ ⟨hp, g, d, tk, os⟩ _ h1 q
    wp_walk using q1
    refine wpAny_stack_any fun st => wpAny_pure ?_
    split
    · rename_i c _ _ _ _ _
      cases (c == Value.type "enumerate")
      · wp_walk using q1
        exact ⟨_, rfl, h⟩
      · wp_walk using q1
        exact ⟨_, rfl, h⟩
    · wp_walk using q1
      exact ⟨_, rfl, h⟩
theorem enum_begins1 {prog : Program} {w : World} {A : Around} {E : Value → Shared → Prop} {s : Shared} {v : Value} {o : Obj} {H : Heap → Prop} {Q : Value → Shared → Prop} (B : Begins v o H) (h1 : H s.heap)
    (h : ∀ h', IsEnum h' (s.heap.objs.size + 1) s.heap.objs.size 0 .none → h'.get? s.heap.objs.size = some o → h'.objs.size = s.heap.objs.size + 2 →
      (∀ b o, s.heap.get? b = some o → h'.get? b = some o) → Q (.ref (s.heap.objs.size + 1)) { s with heap := h' }) :
    wpAny (model prog w) A (call (.type "enumerate") [v]) Q E s := by
  refine callType_new F.called_enumerate (by decide) (F.typeCall_enumerate_1 _) (F.newCall_enumerate_1 _) (fun obj => F.args_object_init_2 obj _) F.entry_enumerate_new
    (meets_enumerate_new1B B) ⟨h1, ?_⟩
  have hz : (s.heap.push o).objs.size = s.heap.objs.size + 1 := Heap.size_push ..
  show _ ∧ _
  rw [hz]
  have he : IsEnum ((s.heap.push o).push { cls := .type "enumerate", data := .fields #[.none, .bool false, .ref s.heap.objs.size, rawInt 0, .none, .none] }) (s.heap.objs.size + 1) s.heap.objs.size 0 .none := by
    have := Heap.get?_push_size (s.heap.push o) (o := { cls := .type "enumerate", data := .fields #[.none, .bool false, .ref s.heap.objs.size, rawInt 0, .none, .none] }) rfl
    rw [hz] at this; exact this
  refine ⟨⟨_, he, rfl⟩, h _ he (Heap.get?_push_of_some _ (Heap.get?_push_size _ B.free)) (by rw [Heap.size_push, hz]) fun b o x => Heap.get?_push_of_some _ (Heap.get?_push_of_some _ x)⟩
end PySem

namespace PySem
theorem wpAny_pyNext_enum_endT {prog : Program} {w : World} {A : Around} {E : Value → Shared → Prop} {s : Shared} {e it l : Addr} {i : Nat} {items : Array Value} {old : Value} {Q : Option Value → Shared → Prop} (hh : A.handled = none)
    (he : IsEnum s.heap e it i old) (hit : s.heap.IsTupleIter it l i) (hl : s.heap.IsTuple l items) (hx : items[i]? = none)
    (hQ : ∀ h', Heap.ExtBut it s.heap h' → Q none { s with heap := h' }) : wpAny (model prog w) A (pyNext (.ref e)) Q E s := by
  have hT : s.TypeIs (.ref e) "enumerate" := ⟨_, he, rfl⟩
  unfold pyNext
  refine wpAny_bind (wpAny_attempt (wpAny_callSpecial?_slot (name := Str.ofString "__next__") hT F.slot_enumerate_next
    (wpAny_call_entry F.slot_enumerate_next hT F.entry_enumerate_next ?_ (F.args_enumerate_next_1 _))))
  show wpAny _ _ (field (.ref e) 2 >>= _) _ _ _
  refine wpAny_bind (wpAny_field he rfl (x := .ref it) rfl ?_)
  refine wpAny_bind (wpAny_nextOf_tuple_end hh hit hl hx fun h' x he' hx' => ?_)
  obtain ⟨o, ho, hc⟩ := hx'
  refine wpAny_bind (wpAny_isInstance (T := "StopIteration") (b := true) ⟨o, ho, hc⟩ isSubtype_stop ?_)
  exact wpAny_pure (hQ _ he')
end PySem
namespace L2
open PySem PySem.Spec PyProof.Rows
def IteT (K : PySem.W.Frag) (a : Addr) : It :=
  ⟨fun i H => ∃ (xs : List V) (x : V), SqT K H a xs ∧ xs[i]? = some x, fun i H v H' => ∃ T x, v = .ref T ∧ H T = none ∧ H' = upd H T (.tup [.int (i : Nat), x]) ∧ ∀ xs, SqT K H a xs → xs[i]? = some x, fun i H => ∃ xs : List V, SqT K H a xs ∧ xs.length ≤ i⟩
theorem turn_enumT {P : Program} {w : World} {K : PySem.W.Frag} {elts : List Expr} {kk : Nat} {tpos : Pos} (a e it : Addr) :
    Turn P w K (.Tuple elts kk tpos) (IteT K a) [e, it] e (fun i h => (∃ old, IsEnum h e it ((i : Nat) : Int) old) ∧ h.IsTupleIter it a i ∧ e ≠ it ∧ a ≠ it ∧ e ≠ a) where
  mem := by simp
  obj := fun i h st b hb => by
    obtain ⟨⟨old, he⟩, ⟨o, ho, hc, hd⟩, _⟩ := st
    have e' : b = e ∨ b = it := by simpa using hb
    rcases e' with z | z
    · rw [z]; exact ⟨_, he, fun v q => nomatch q⟩
    · rw [z]; exact ⟨o, ho, fun v q => by rw [hd] at q; cases q⟩
  keep := fun i h h' st k => let ⟨⟨old, he⟩, hi, hne⟩ := st; ⟨⟨old, k e (by simp) _ he⟩, hi.at fun o q => k it (by simp) o q, hne⟩
  item := by
    intro X hP hw hK hc i pins s σ H E I hf st hg
    subst hP hw hK
    obtain ⟨⟨old, he⟩, hit, hne, hai, hea⟩ := st
    obtain ⟨xs, x, hq, hx⟩ := hg
    obtain ⟨its, rv, p, hz⟩ := I.tuple hq
    obtain ⟨u, hu, ru⟩ := rv.get hx
    have hel : e < s.heap.objs.size := Heap.lt_size he
    have hil : it < s.heap.objs.size := by obtain ⟨_, q, _⟩ := hit; exact Heap.lt_size q
    have hlen : i < its.toArray.size := by
      have := (List.getElem?_eq_some_iff.mp hu).1
      simpa using this
    have D := Draws.tuple (prog := X.prog) (w := X.w) (A := X.A.in1) (I.ok.hd hc) it a hai its.toArray
    refine wpAny_pyNext_enum_itemD (i := i) D he ⟨hit, (show s.heap.IsTuple a its.toArray from p)⟩ hlen hne (by simp [hne, hea]) fun u' h' tk hPx ho hst hT hsz hk => ?_
    have eu : u' = u := by
      have h1 : its.toArray[i]? = some u' := hPx
      have h2 : its.toArray[i]? = some u := by simpa using hu
      rw [h2] at h1; exact (Option.some.inj h1).symm
    subst eu
    refine ⟨_, rfl, wpAny_letOwnedTupleGo_enum (s := { s with heap := h', toks := tk + 1 }) ho fun h'' he' sb => ?_⟩
    have hT2 : h''.get? s.heap.objs.size = some { cls := .type "tuple", data := .seq #[.int i tk, u'] } := (sb.2 _ (Nat.ne_of_gt hel)).trans hT
    have new : ObjOk X.prog X.w (upd H s.heap.objs.size (.tup [.int (i : Nat), x])) h'' s.heap.objs.size (.tup [.int (i : Nat), x]) :=
      ⟨by show 2 ≤ sizeLine; decide, [.int i tk, u'], .cons ⟨_, rfl⟩ (.cons ru .nil), ⟨_, hT2, rfl, _, rfl⟩⟩
    have I1 : Inv X pins σ (upd H s.heap.objs.size (.tup [.int (i : Nat), x])) { s with heap := h'', toks := tk + 1 } :=
      I.turnedNew (ch := [e, it]) (fun b ob hb q => (sb.2 b (fun z => hb (by simp [z]))).trans (hk b ob (fun z => hb (by simp [z])) (fun z => hb (by simp [z])) q)) hf (Nat.le_refl _) new
    refine ⟨.ref s.heap.objs.size, _, I1, rfl, ⟨_, x, rfl, I.hok.fresh (Nat.le_refl _), rfl, fun ys hy => by rw [I.tuple_inj hy hq]; exact hx⟩, ⟨⟨u', ?_⟩, hst.1.at fun o q => (sb.2 it (Ne.symm hne)).trans q, hne, hai, hea⟩, fun b hb => ?_⟩
    · have e1 : ((i + 1 : Nat) : Int) = (i : Int) + 1 := by omega
      rw [e1]; exact he'
    · have hb' : b < s.heap.objs.size := by
        have e' : b = e ∨ b = it := by simpa using hb
        rcases e' with z | z
        · rw [z]; exact hel
        · rw [z]; exact hil
      rw [upd_ne (Nat.ne_of_lt hb')]
      exact (hf b hb).1
  done := by
    intro X hP hw hK hc i pins s σ H E I hf st hg
    subst hP hw hK
    obtain ⟨⟨old, he⟩, hit, hne, hai, hea⟩ := st
    obtain ⟨xs, hq, hx⟩ := hg
    obtain ⟨its, rv, p, hz⟩ := I.tuple hq
    obtain ⟨f0, f1, f2, f3, f4, f5⟩ := hf it (by simp)
    have hl := rv.length
    exact wpAny_pyNext_enum_endT (I.ok.hd hc) he hit (show s.heap.IsTuple a its.toArray from p) (by simp; omega) fun h' eb => ⟨rfl, I.turned (t' := s.toks) (fun b o hb q => eb b o hb q) f0 f1 f3 f4 f5⟩
  self := fun A i s Q E st h => let ⟨⟨_, he⟩, _⟩ := st; wpAny_pyIter_enum he h
def iEnumT (K : PySem.W.Frag) (ta : TA) : TI := fun σ H R => ta σ H fun vs H1 => ∃ a xs, vs = [.ref a] ∧ SqT K H1 a xs ∧ R (IteT K a) H1
theorem pi_enumT {X : Cx} {e : Expr} {ta : TA} {p pos tpos : Pos} {elts : List Expr} {kk : Nat} (hg : Gl X "enumerate") (hm : X.mg "enumerate" = none) (ha : PA X [e] ta) (hs : starEach [e] X.env = [(false, eval e X.env)] := by rfl) :
    PI X (.Tuple elts kk tpos) (.Call (.Name "enumerate" p) [e] [] pos) (iEnumT X.K ta) := by
  refine ⟨fun pins s σ H R I h => ?_⟩
  refine Call_ (ld_blt I hg hm boot_enumerate (PyProof.Rows.callWith_type1 (thn (ha.run pos pins s σ H _ I h) fun us s1 ⟨vs, H1, I1, r1, q1⟩ => ?_) hs rfl))
  obtain ⟨a, xs, ex, hq, q⟩ := q1
  subst ex
  cases r1 with
  | cons r rr =>
    cases rr
    cases r
    obtain ⟨its, rv, p', hz⟩ := I1.tuple hq
    have p2 : s1.heap.IsTuple a its.toArray := p'
    have hal : a < s1.heap.objs.size := by obtain ⟨_, q, _⟩ := p2; exact Heap.lt_size q
    refine enum_begins1 (begins_tuple a its.toArray) p2 fun h' he hit hsz hk => wpAny_pyIter_enum he ?_
    have I2 : Inv X pins σ H1 { s1 with heap := h' } := I1.kept (t' := s1.toks) hk
    refine ⟨s1.heap.objs.size + 1, [s1.heap.objs.size + 1, s1.heap.objs.size], _, _, H1, rfl, I2, turn_enumT a (s1.heap.objs.size + 1) s1.heap.objs.size, ⟨⟨.none, he⟩, ⟨_, hit, rfl, rfl⟩, Nat.succ_ne_self _, Nat.ne_of_lt hal, Nat.ne_of_gt (Nat.lt_succ_of_lt hal)⟩, fun b hb => ?_, q⟩
    have e' : b = s1.heap.objs.size + 1 ∨ b = s1.heap.objs.size := by simpa using hb
    have hle : s1.heap.objs.size ≤ b := by
      rcases e' with z | z
      · rw [z]; exact Nat.le_add_right _ _
      · rw [z]; exact Nat.le_refl _
    exact I1.fpOk hle (I1.hok.fresh hle)
end L2

set_option maxRecDepth 100000
set_option maxHeartbeats 4000000
namespace Cs
open PySem L2
section
variable {N : List Str} {V : List Nat} {Gs : List Str} {C : GC N V Gs}

theorem _root_.L2.PI.imp {X : Cx} {tg it : Expr} {t t' : TI} (h : PI X tg it t) (i : ∀ σ H R, t' σ H R → t σ H R) : PI X tg it t' := ⟨fun pins s σ H R I q => h.run pins s σ H R I (i σ H R q)⟩
theorem _root_.L2.PI.or {X : Cx} {tg it : Expr} {t t' : TI} (h : PI X tg it t) (h' : PI X tg it t') : PI X tg it (fun σ H R => t σ H R ∨ t' σ H R) :=
  ⟨fun pins s σ H R I q => q.elim (h.run pins s σ H R I) (h'.run pins s σ H R I)⟩

theorem sqt_inj {K : PySem.W.Frag} {G H : Hp} {a : Addr} {xs ys : List L2.V} (s : GE G H) (h : SqT K G a xs) : SqT K H a xs := sqt_ge s h

/-- what a for walks by itself -/
def itD : D → Option (List D)
  | .lst ds => some ds
  | .tup ds => some ds
  | .scr ds => some ds
  | _ => none
def iSeq (f : EM D) : EM (List D) := bnd f fun d => ofO (itD d)

theorem itl_ok {M : Mdl} {G : Hp} {a : Addr} {vs : List L2.V} {ds : List D} (h : SqL M.K G a vs) (r : Reps M G vs ds) : ItOk M G (Itl M.K a) ds where
  go := fun i H s hi => by
    obtain ⟨v, hv, _⟩ := r.get (List.getElem?_eq_getElem hi)
    exact ⟨vs, v, sql_ge s h, hv⟩
  stop := fun i H s hi => ⟨vs, sql_ge s h, by rw [r.length]; exact hi⟩
  yld := fun F i d x G1 e σ H H' hd g s y => by
    obtain ⟨rfl, y⟩ := y
    obtain ⟨v, hv, rv⟩ := r.get hd
    have := y vs (sql_ge (g.trans s.sub) h)
    rw [hv] at this
    cases this
    exact ⟨G1, GE.refl _, s, rv.mono g⟩
theorem itt_ok {M : Mdl} {G : Hp} {a : Addr} {vs : List L2.V} {ds : List D} (h : SqT M.K G a vs) (r : Reps M G vs ds) : ItOk M G (Itt M.K a) ds where
  go := fun i H s hi => by
    obtain ⟨v, hv, _⟩ := r.get (List.getElem?_eq_getElem hi)
    exact ⟨vs, v, sqt_ge s h, hv⟩
  stop := fun i H s hi => ⟨vs, sqt_ge s h, by rw [r.length]; exact hi⟩
  yld := fun F i d x G1 e σ H H' hd g s y => by
    obtain ⟨rfl, y⟩ := y
    obtain ⟨v, hv, rv⟩ := r.get hd
    have := y vs (sqt_ge (g.trans s.sub) h)
    rw [hv] at this
    cases this
    exact ⟨G1, GE.refl _, s, rv.mono g⟩

/-- the reading of an iterator whose source is an expression -/
theorem tOfI_bnd {f : EM D} {k : D → EM (List D)} {σ : St} {H : Hp} {R : It → Hp → Prop} (t : tOfI C (bnd f k) σ H R) :
    ∃ G e, Sim C.M C.F G e σ H ∧ ((∃ d e1, f e = .ok d e1 ∧ match k d e1 with
      | .ok ds e' => ∀ G' H' J, GE G G' → Sim C.M C.F G' e' σ H' → ItOk C.M G' J ds → R J H'
      | .exc x e' => ∀ G' H' cls dx, GE G G' → Sim C.M C.F G' e' σ H' → ExcAt C.M G' H' cls dx x → C.W cls dx σ H'
      | .bad => False) ∨ (∃ x e1, f e = .exc x e1 ∧ ∀ G' H' cls dx, GE G G' → Sim C.M C.F G' e1 σ H' → ExcAt C.M G' H' cls dx x → C.W cls dx σ H')) := by
  obtain ⟨G, e, s, p⟩ := t
  refine ⟨G, e, s, ?_⟩
  unfold bnd at p
  revert p
  cases q : f e with
  | ok d e1 => exact fun p => .inl ⟨d, e1, rfl, p⟩
  | exc x e1 => exact fun p => .inr ⟨x, e1, rfl, p⟩
  | bad => exact fun p => p.elim
theorem it_seq {tg iter : Expr} {f : EM D} (h : SE C iter f) : SI C tg iter (iSeq f) :=
  (PI.or (pi_list (tg := tg) h) (pi_tup (tg := tg) h)).imp fun σ H R t => by
    obtain ⟨G, e, s, p⟩ := tOfI_bnd t
    rcases p with ⟨d, e1, q, p⟩ | ⟨x, e1, q, p⟩
    · cases d with
      | lst ds =>
        refine .inl ⟨G, e, s, ?_⟩
        rw [q]
        intro G' v H' g s' r
        obtain ⟨a, vs, rfl, h1, rr⟩ := r.lstV
        have h1 : SqL C.M.K G' a vs := .inl (.inl h1)
        exact ⟨a, rfl, ⟨vs, sql_ge s'.sub h1⟩, p G' H' _ g s' (itl_ok h1 rr)⟩
      | scr ds =>
        refine .inl ⟨G, e, s, ?_⟩
        rw [q]
        intro G' v H' g s' r
        obtain ⟨a, vs, rfl, h1, rr⟩ := r.scrV
        exact ⟨a, rfl, ⟨vs, sql_ge s'.sub h1⟩, p G' H' _ g s' (itl_ok h1 rr)⟩
      | tup ds =>
        refine .inr ⟨G, e, s, ?_⟩
        rw [q]
        intro G' v H' g s' r
        obtain ⟨a, vs, rfl, h1, rr⟩ := r.tupV
        exact ⟨a, rfl, ⟨vs, sqt_ge s'.sub h1⟩, p G' H' _ g s' (itt_ok h1 rr)⟩
      | _ => exact p.elim
    · refine .inl ⟨G, e, s, ?_⟩
      rw [q]
      exact p

/-! range -/
def rng (lo : Int) (n : Nat) : List D := (List.range n).map fun i => .int (lo + (i : Nat))
theorem rng_get {lo : Int} {n i : Nat} {d : D} (h : (rng lo n)[i]? = some d) : i < n ∧ d = .int (lo + (i : Nat)) := by
  unfold rng at h
  rw [List.getElem?_map] at h
  cases q : (List.range n)[i]? with
  | none => rw [q] at h; cases h
  | some j =>
    rw [q] at h
    obtain ⟨h1, h2⟩ := List.getElem?_eq_some_iff.mp q
    rw [List.getElem_range] at h2
    cases h
    exact ⟨by simpa using h1, by rw [h2]⟩
theorem itr_ok {M : Mdl} {G : Hp} {lo : Int} {n : Nat} : ItOk M G (Itr lo n) (rng lo n) where
  go := fun i H s hi => by show i < n; simpa [rng] using hi
  stop := fun i H s hi => by show n ≤ i; simpa [rng] using hi
  yld := fun F i d x G1 e σ H H' hd g s y => by
    obtain ⟨rfl, rfl⟩ := y
    rw [(rng_get hd).2]
    exact ⟨G1, GE.refl _, s, .int _⟩
def big : Int := 2 ^ 62
def rng1 : List D → Option (List D)
  | [.int j] => if -(2 ^ 62) ≤ j ∧ j < 2 ^ 62 then some (rng 0 j.toNat) else none
  | _ => none
def rng2 : List D → Option (List D)
  | [.int i, .int j] => if -(2 ^ 62) ≤ i ∧ i < 2 ^ 62 ∧ -(2 ^ 62) ≤ j ∧ j < 2 ^ 62 then some (rng i (j - i).toNat) else none
  | _ => none
def rngC (lo c : Int) (n : Nat) : List D := (List.range n).map fun i => .int (lo + (i : Nat) * c)
theorem rngC_get {lo c : Int} {n i : Nat} {d : D} (h : (rngC lo c n)[i]? = some d) : i < n ∧ d = .int (lo + (i : Nat) * c) := by
  unfold rngC at h
  rw [List.getElem?_map] at h
  cases q : (List.range n)[i]? with
  | none => rw [q] at h; cases h
  | some j =>
    rw [q] at h
    obtain ⟨h1, h2⟩ := List.getElem?_eq_some_iff.mp q
    rw [List.getElem_range] at h2
    cases h
    exact ⟨by simpa using h1, by rw [h2]⟩
theorem itc_ok {M : Mdl} {G : Hp} {lo c : Int} {n : Nat} : ItOk M G (Itc lo c n) (rngC lo c n) where
  go := fun i H s hi => by show i < n; simpa [rngC] using hi
  stop := fun i H s hi => by show n ≤ i; simpa [rngC] using hi
  yld := fun F i d x G1 e σ H H' hd g s y => by
    obtain ⟨rfl, rfl⟩ := y
    rw [(rngC_get hd).2]
    exact ⟨G1, GE.refl _, s, .int _⟩
def rng3 : List D → Option (List D)
  | [.int i, .int j, .int c] => if c ≠ 0 ∧ c.natAbs < 1073741824 ∧ Builtin.Range.small i j c = true ∧ 0 ≤ Builtin.Range.rangeSize i j c then some (rngC i c (Builtin.Range.rangeSize i j c).toNat) else none
  | _ => none
def iArgs (f : EM (List D)) (r : List D → Option (List D)) : EM (List D) := bnd f fun ds => ofO (r ds)
theorem tOfI_args {f : EM (List D)} {r : List D → Option (List D)} {σ : St} {H : Hp} {R : It → Hp → Prop} (t : tOfI C (iArgs f r) σ H R) :
    tOf (Reps C.M) C f σ H (fun vs H1 => ∃ ds rs G1 e1, Reps C.M G1 vs ds ∧ r ds = some rs ∧ Sim C.M C.F G1 e1 σ H1 ∧ ∀ J, ItOk C.M G1 J rs → R J H1) := by
  obtain ⟨G, e, s, p⟩ := t
  refine ⟨G, e, s, ?_⟩
  unfold iArgs bnd at p
  revert p
  cases q : f e with
  | ok d e1 =>
    intro p G' v H' g s' rr
    have p : match ofO (r d) e1 with
      | .ok ds e' => ∀ G' H' J, GE G G' → Sim C.M C.F G' e' σ H' → ItOk C.M G' J ds → R J H'
      | .exc x e' => ∀ G' H' cls dx, GE G G' → Sim C.M C.F G' e' σ H' → ExcAt C.M G' H' cls dx x → C.W cls dx σ H'
      | .bad => False := p
    cases q2 : r d with
    | none => rw [q2] at p; exact p.elim
    | some rs => rw [q2] at p; exact ⟨d, rs, G', e1, rr, q2, s', fun J ok => p G' H' J g s' ok⟩
  | exc x e1 => exact id
  | bad => exact id
theorem it_range1 (j : Nat) (hg : Gs[j]? = some "range" := by rfl) (hm : C.X.mg "range" = none) {tg a : Expr} {p pos : Pos} {f : EM (List D)} (ha : SA C [a] f) (hs : starEach [a] C.X.env = [(false, eval a C.X.env)] := by rfl) :
    SI C tg (.Call (.Name "range" p) [a] [] pos) (iArgs f rng1) :=
  (pi_range1 (tg := tg) (C.gl j _ hg) hm ha hs).imp fun σ H R t => (tOfI_args t).imp fun vs H1 ⟨ds, rs, G1, e1, rr, q, s, k⟩ => by
    unfold rng1 at q
    split at q
    · split at q
      · rename_i hb
        cases q
        cases rr with
        | cons r1 r2 => cases r2; exact ⟨_, by rw [r1.intV], hb.1, hb.2, k _ itr_ok⟩
      · cases q
    · cases q
theorem it_range2 (j : Nat) (hg : Gs[j]? = some "range" := by rfl) (hm : C.X.mg "range" = none) {tg a b : Expr} {p pos : Pos} {f : EM (List D)} (ha : SA C [a, b] f) (hs : starEach [a, b] C.X.env = [(false, eval a C.X.env), (false, eval b C.X.env)] := by rfl)
    (hs2 : starEach [b] C.X.env = [(false, eval b C.X.env)] := by rfl) : SI C tg (.Call (.Name "range" p) [a, b] [] pos) (iArgs f rng2) :=
  (pi_range2 (tg := tg) (C.gl j _ hg) hm ha hs hs2).imp fun σ H R t => (tOfI_args t).imp fun vs H1 ⟨ds, rs, G1, e1, rr, q, s, k⟩ => by
    unfold rng2 at q
    split at q
    · split at q
      · rename_i hb
        cases q
        cases rr with
        | cons r1 r2 => cases r2 with | cons r2 r3 => cases r3; exact ⟨_, _, by rw [r1.intV, r2.intV], hb, k _ itr_ok⟩
      · cases q
    · cases q
theorem it_range3 (j : Nat) (hg : Gs[j]? = some "range" := by rfl) (hm : C.X.mg "range" = none) {tg a b c : Expr} {p pos : Pos} {f : EM (List D)} (ha : SA C [a, b, c] f) (hs : starEach [a, b, c] C.X.env = (false, eval a C.X.env) :: starEach [b, c] C.X.env := by rfl)
    (hs2 : (backTo pos (starEach [b, c] C.X.env)).any (·.1) = false := by rfl) : SI C tg (.Call (.Name "range" p) [a, b, c] [] pos) (iArgs f rng3) :=
  (pi_range3 (tg := tg) (C.gl j _ hg) hm ha hs hs2).imp fun σ H R t => (tOfI_args t).imp fun vs H1 ⟨ds, rs, G1, e1, rr, q, s, k⟩ => by
    unfold rng3 at q
    split at q
    · split at q
      · rename_i hb
        cases q
        cases rr with
        | cons r1 r2 => cases r2 with | cons r2 r3 => cases r3 with | cons r3 r4 =>
            cases r4
            refine ⟨_, _, _, _, by rw [r1.intV, r2.intV, r3.intV], ⟨hb.1, hb.2.1, hb.2.2.1, by omega⟩, k _ itc_ok⟩
      · cases q
    · cases q

/-! enumerate -/
def enumL (ds : List D) : List D := ds.zipIdx.map fun p => .tup [.int (p.2 : Nat), p.1]
def enumD : List D → Option (List D)
  | [.lst ds] => some (enumL ds)
  | [.tup ds] => some (enumL ds)
  | _ => none
theorem enumL_get {ds : List D} {i : Nat} {d : D} (h : (enumL ds)[i]? = some d) : ∃ x, ds[i]? = some x ∧ d = .tup [.int (i : Nat), x] := by
  unfold enumL at h
  rw [List.getElem?_map, List.getElem?_zipIdx] at h
  cases q : ds[i]? with
  | none => rw [q] at h; cases h
  | some x => rw [q] at h; simp at h; exact ⟨x, rfl, h.symm⟩
theorem enumL_len {ds : List D} : (enumL ds).length = ds.length := by simp [enumL]
theorem ite_ok {M : Mdl} {G : Hp} {a : Addr} {vs : List L2.V} {ds : List D} (h : SqL M.K G a vs) (r : Reps M G vs ds) : ItOk M G (Ite M.K a) (enumL ds) where
  go := fun i H s hi => by
    rw [enumL_len] at hi
    obtain ⟨v, hv, _⟩ := r.get (List.getElem?_eq_getElem hi)
    exact ⟨vs, v, sql_ge s h, hv⟩
  stop := fun i H s hi => ⟨vs, sql_ge s h, by rw [r.length]; rw [enumL_len] at hi; exact hi⟩
  yld := fun F i d x G1 e σ H H' hd g s y => by
    obtain ⟨T, z, rfl, hT, rfl, y⟩ := y
    obtain ⟨d0, hd0, rfl⟩ := enumL_get hd
    obtain ⟨v, hv, rv⟩ := r.get hd0
    have := y vs (sql_ge (g.trans s.sub) h)
    rw [hv] at this
    cases this
    obtain ⟨g2, s2, r2⟩ := s.newTup hT (.cons (.int (i : Nat)) (.cons (rv.mono g) .nil))
    exact ⟨_, g2, s2, r2⟩
theorem iteT_ok {M : Mdl} {G : Hp} {a : Addr} {vs : List L2.V} {ds : List D} (h : SqT M.K G a vs) (r : Reps M G vs ds) : ItOk M G (IteT M.K a) (enumL ds) where
  go := fun i H s hi => by
    rw [enumL_len] at hi
    obtain ⟨v, hv, _⟩ := r.get (List.getElem?_eq_getElem hi)
    exact ⟨vs, v, sqt_ge s h, hv⟩
  stop := fun i H s hi => ⟨vs, sqt_ge s h, by rw [r.length]; rw [enumL_len] at hi; exact hi⟩
  yld := fun F i d x G1 e σ H H' hd g s y => by
    obtain ⟨T, z, rfl, hT, rfl, y⟩ := y
    obtain ⟨d0, hd0, rfl⟩ := enumL_get hd
    obtain ⟨v, hv, rv⟩ := r.get hd0
    have := y vs (sqt_ge (g.trans s.sub) h)
    rw [hv] at this
    cases this
    obtain ⟨g2, s2, r2⟩ := s.newTup hT (.cons (.int (i : Nat)) (.cons (rv.mono g) .nil))
    exact ⟨_, g2, s2, r2⟩
theorem enumD_some {ds rs : List D} (h : enumD ds = some rs) : (∃ xs, ds = [.lst xs] ∧ rs = enumL xs) ∨ (∃ xs, ds = [.tup xs] ∧ rs = enumL xs) := by
  unfold enumD at h
  split at h
  · cases h; exact .inl ⟨_, rfl, rfl⟩
  · cases h; exact .inr ⟨_, rfl, rfl⟩
  · cases h
/-- the reading of an iterator made of arguments, by what they are -/
theorem tOfI_args' {f : EM (List D)} {r : List D → Option (List D)} {σ : St} {H : Hp} {R : It → Hp → Prop} (t : tOfI C (iArgs f r) σ H R) :
    ∃ G e, Sim C.M C.F G e σ H ∧ ((∃ ds rs e1, f e = .ok ds e1 ∧ r ds = some rs ∧ ∀ G' H' J, GE G G' → Sim C.M C.F G' e1 σ H' → ItOk C.M G' J rs → R J H') ∨
      (∃ x e1, f e = .exc x e1 ∧ ∀ G' H' cls dx, GE G G' → Sim C.M C.F G' e1 σ H' → ExcAt C.M G' H' cls dx x → C.W cls dx σ H')) := by
  obtain ⟨G, e, s, p⟩ := t
  refine ⟨G, e, s, ?_⟩
  unfold iArgs bnd at p
  revert p
  cases q : f e with
  | bad => exact fun p => p.elim
  | exc x e1 => exact fun p => .inr ⟨x, e1, rfl, p⟩
  | ok ds e1 =>
    intro p
    have p : match ofO (r ds) e1 with
      | .ok ds e' => ∀ G' H' J, GE G G' → Sim C.M C.F G' e' σ H' → ItOk C.M G' J ds → R J H'
      | .exc x e' => ∀ G' H' cls dx, GE G G' → Sim C.M C.F G' e' σ H' → ExcAt C.M G' H' cls dx x → C.W cls dx σ H'
      | .bad => False := p
    cases q2 : r ds with
    | none => rw [q2] at p; exact p.elim
    | some rs => rw [q2] at p; exact .inl ⟨ds, rs, e1, rfl, q2, p⟩
theorem it_enum (j : Nat) (hg : Gs[j]? = some "enumerate" := by rfl) (hm : C.X.mg "enumerate" = none) {a : Expr} {p pos tpos : Pos} {elts : List Expr} {kk : Nat} {f : EM (List D)} (ha : SA C [a] f) (hs : starEach [a] C.X.env = [(false, eval a C.X.env)] := by rfl) :
    SI C (.Tuple elts kk tpos) (.Call (.Name "enumerate" p) [a] [] pos) (iArgs f enumD) :=
  (PI.or (pi_enum (elts := elts) (kk := kk) (tpos := tpos) (C.gl j _ hg) hm ha hs) (pi_enumT (elts := elts) (kk := kk) (tpos := tpos) (C.gl j _ hg) hm ha hs)).imp fun σ H R t => by
    obtain ⟨G, e, s, p⟩ := tOfI_args' t
    rcases p with ⟨ds, rs, e1, q, q2, p⟩ | ⟨x, e1, q, p⟩
    · rcases enumD_some q2 with ⟨xs, rfl, rfl⟩ | ⟨xs, rfl, rfl⟩
      · refine .inl ⟨G, e, s, ?_⟩
        rw [q]
        intro G' v H' g s' rr
        cases rr with
        | cons r1 r2 =>
          cases r2
          obtain ⟨a, vs, rfl, h1, r3⟩ := r1.lstV
          have h1 : SqL C.M.K G' a vs := .inl (.inl h1)
          exact ⟨a, vs, rfl, sql_ge s'.sub h1, p G' H' _ g s' (ite_ok h1 r3)⟩
      · refine .inr ⟨G, e, s, ?_⟩
        rw [q]
        intro G' v H' g s' rr
        cases rr with
        | cons r1 r2 =>
          cases r2
          obtain ⟨a, vs, rfl, h1, r3⟩ := r1.tupV
          exact ⟨a, vs, rfl, sqt_ge s'.sub h1, p G' H' _ g s' (iteT_ok h1 r3)⟩
    · exact .inl ⟨G, e, s, by rw [q]; exact p⟩
end
end Cs

set_option maxRecDepth 100000
set_option maxHeartbeats 4000000
namespace Cs
open PySem L2
section
variable {N : List Str} {V : List Nat} {Gs : List Str} {C : GC N V Gs}

/-! ## operands that may be a slot's own object, read when they are used -/
inductive Rd where
  | val (d : D) | slot (i : Nat)
def Rd.get (r : Rd) (e : Env) : Option D := match r with
  | .val d => some d
  | .slot i => match e[i]? with
    | some (some (.own o)) => some o.fr
    | some (some (.bor o)) => some o.fr
    | _ => none
/-- v stands for d now -/
def RepH (M : Mdl) (G H : Hp) (v : L2.V) (d : D) : Prop := Rep M G v d ∨ ∃ o fp, OwnAt M G H o v fp ∧ d = o.fr
def repB (C : GC N V Gs) (σ : St) (G : Hp) (v : L2.V) (r : Rd) : Prop := match r with
  | .val d => Rep C.M G v d
  | .slot i => σ[i]? = some (some v)
theorem repB.mono {σ : St} {G G' : Hp} {v : L2.V} {r : Rd} (h : repB C σ G v r) (g : GE G G') : repB C σ G' v r := by
  cases r with
  | val d => exact Rep.mono g h
  | slot i => exact h
theorem repB.now {σ : St} {G H : Hp} {e : Env} {v : L2.V} {r : Rd} {d : D} (h : repB C σ G v r) (s : Sim C.M C.F G e σ H) (q : r.get e = some d) : RepH C.M G H v d := by
  cases r with
  | val d' => cases q; exact .inl h
  | slot i =>
    obtain ⟨fp, s⟩ := s
    have key : ∀ o, (e[i]? = some (some (.own o)) ∨ e[i]? = some (some (.bor o))) → d = o.fr → RepH C.M G H v d := fun o ho hd => by
      obtain ⟨v', hv', ow⟩ := s.obj ho
      have : v' = v := by
        have hh : σ[i]? = some (some v) := h
        rw [hv'] at hh; exact Option.some.inj (Option.some.inj hh)
      subst this
      exact .inr ⟨o, _, ow, hd⟩
    unfold Rd.get at q
    split at q
    · rename_i h1; cases h1
    · rename_i j h1
      cases h1
      split at q
      · rename_i o h2; cases q; exact key o (.inl h2) rfl
      · rename_i o h2; cases q; exact key o (.inr h2) rfl
      · cases q
def SB (C : GC N V Gs) (e : Expr) (f : EM Rd) : Prop := PE C.X e (fun σ H Q => tOf (repB C σ) C f σ H Q)
def rdV (f : EM D) : EM Rd := bnd f fun d => ret (.val d)
def rdS (i : Nat) : EM Rd := ret (.slot i)
theorem b_val {e : Expr} {f : EM D} (h : SE C e f) : SB C e (rdV f) :=
  PE.imp h fun σ H Q ⟨G, e, t⟩ => (Run.bind t).imp fun x H1 ⟨a, G1, e1, g1, r1, t1⟩ => t1.done (rep := repB C σ) r1
/-- a read at the end -/
def rdG (r : Rd) (k : D → EM α) : EM α := fun e => match r.get e with
  | some d => k d e
  | none => .bad
theorem Run.rdG {α β : Type} {rep : Hp → β → α → Prop} {r : Rd} {k : D → EM α} {G : Hp} {e : Env} {σ : St} {H : Hp} {Q : β → Hp → Prop} (h : Run rep C (rdG r k) G e σ H Q) : ∃ d, r.get e = some d ∧ Run rep C (k d) G e σ H Q := by
  obtain ⟨s, p⟩ := h
  unfold Cs.rdG at p
  cases q : r.get e with
  | none => rw [q] at p; exact p.elim
  | some d => rw [q] at p; exact ⟨d, rfl, s, p⟩
theorem b_slot (i : Nat) {x : Str} {pos : Pos} (hN : N[i]? = some x := by rfl) (hV : V[i]? = some 1 ∨ V[i]? = some 2 ∨ V[i]? = some 3 := by first | exact .inr (.inl rfl) | exact .inl rfl | exact .inr (.inr rfl))
    (hd : (x == ("__debug__" : Str)) = false := by decide +kernel) (hcd : (x == ("__classdict__" : Str)) = false := by decide +kernel) : SB C (.Name x pos) (rdG (.slot i) fun _ => rdS i) :=
  (pe_var (i := i) (by rw [C.hN]; exact hN) (C.vis i x hN hV) hd hcd).imp fun σ H Q ⟨G, e, t⟩ => by
    obtain ⟨d, q, t⟩ := t.rdG
    obtain ⟨s, p⟩ := t
    obtain ⟨fp, sf⟩ := id s
    have key : ∃ o, (e[i]? = some (some (.own o)) ∨ e[i]? = some (some (.bor o))) := by
      unfold Rd.get at q
      split at q
      · rename_i h; cases h
      · rename_i j h
        cases h
        split at q
        · rename_i o h2; exact ⟨o, .inl h2⟩
        · rename_i o h2; exact ⟨o, .inr h2⟩
        · cases q
    obtain ⟨o, ho⟩ := key
    obtain ⟨v, hv, _⟩ := sf.obj ho
    exact ⟨v, hv, p G v H (GE.refl _) s hv⟩

/-- a list, a tuple, now -/
theorem RepH.lstV {M : Mdl} {G H : Hp} {v : L2.V} {ds : List D} (h : RepH M G H v (.lst ds)) (s : GE G H) : ∃ a vs, v = .ref a ∧ H a = some (.lst vs) ∧ Reps M G vs ds := by
  rcases h with h | ⟨o, fp, ow, hd⟩
  · obtain ⟨a, vs, rfl, h1, r⟩ := h.lstV; exact ⟨a, vs, rfl, s _ _ h1, r⟩
  · cases o with
    | lst xs => cases hd; obtain ⟨a, vs, rfl, _, h1, r⟩ := ow; exact ⟨a, vs, rfl, h1, r⟩
    | dicK _ => cases hd
    | dicT _ => cases hd
    | ins _ _ => cases hd
theorem RepH.of {M : Mdl} {G H : Hp} {v : L2.V} {d : D} (h : RepH M G H v d) (hl : ∀ o : OO, d ≠ o.fr) : Rep M G v d := by
  rcases h with h | ⟨o, fp, ow, hd⟩
  · exact h
  · exact absurd hd (hl o)
theorem RepH.tupV {M : Mdl} {G H : Hp} {v : L2.V} {ds : List D} (h : RepH M G H v (.tup ds)) (s : GE G H) : ∃ a vs, v = .ref a ∧ SqT M.K H a vs ∧ Reps M G vs ds := by
  obtain ⟨a, vs, e, h1, r⟩ := (h.of (fun o => by cases o <;> (intro z; cases z))).tupV
  exact ⟨a, vs, e, sqt_ge s h1, r⟩
theorem RepH.intV {M : Mdl} {G H : Hp} {v : L2.V} {i : Int} (h : RepH M G H v (.int i)) : v = .int i := (h.of (fun o => by cases o <;> (intro z; cases z))).intV
theorem RepH.strV {M : Mdl} {G H : Hp} {v : L2.V} {i : Str} (h : RepH M G H v (.str i)) : v = .str i := (h.of (fun o => by cases o <;> (intro z; cases z))).strV
theorem RepH.dp {M : Mdl} {G H : Hp} {v : L2.V} {d : D} {p : PyData} (h : RepH M G H v d) (s : GE G H) (q : d.pd = some p) : Dp M.K H v p := by
  rcases h with h | ⟨o, fp, ow, rfl⟩
  · exact h.dp s q
  · cases o with
    | lst ds =>
      obtain ⟨a, vs, rfl, _, h1, r⟩ := ow
      have q : (D.pds ds).map PyData.list = some p := q
      cases q2 : D.pds ds with
      | none => rw [q2] at q; cases q
      | some ps => rw [q2] at q; cases q; exact .lst (.inl (.inl h1)) (Reps.dp s r q2)
    | dicK _ => cases q
    | dicT _ => cases q
    | ins _ _ => cases q

/-! ### operators upon such -/
def OpH (C : GC N V Gs) (r : R2) (f : D → D → Option D) : Prop :=
  ∀ (a b d : D) (x y : L2.V) (G : Hp) (e : Env) (σ : St) (H : Hp) (Q : VK), f a b = some d → RepH C.M G H x a → RepH C.M G H y b → Sim C.M C.F G e σ H →
    (∀ G' v H', GE G G' → Sim C.M C.F G' e σ H' → Rep C.M G' v d → Q v H') → r x y H Q
theorem OpH.d {r : R2} {f : D → D → Option D} (h : OpH C r f) : OpD C r f := fun a b d x y G e σ H Q q ra rb s k => h a b d x y G e σ H Q q (.inl ra) (.inl rb) s k
def e2B (f : D → D → Option D) (fa fb : EM Rd) : EM D := bnd fa fun a => bnd fb fun b => rdG a fun x => rdG b fun y => ofO (f x y)
theorem tOp_runB {op : R2} {f : D → D → Option D} {fa fb : EM Rd} (h : OpH C op f) (σ : St) (H : Hp) (Q : VK) (t : tOf (Rep C.M) C (e2B f fa fb) σ H Q) :
    tOp op (fun σ H Q => tOf (repB C σ) C fa σ H Q) (fun σ H Q => tOf (repB C σ) C fb σ H Q) σ H Q := by
  obtain ⟨G, e, t⟩ := t
  refine (Run.bind t).imp fun x H1 ⟨a, G1, e1, g1, r1, t1⟩ => ?_
  refine (Run.bind t1).imp fun y H2 ⟨b, G2, e2', g2, r2, t2⟩ => ?_
  obtain ⟨da, qa, t3⟩ := t2.rdG
  obtain ⟨db, qb, t4⟩ := t3.rdG
  obtain ⟨d, q, s, k⟩ := t4.ofO
  exact h da db d x y G2 e2' σ H2 Q q ((r1.mono g2).now s qa) (r2.now s qb) s k
theorem d_opB {a b : Expr} {op : Operator} {pos : Pos} {r : R2} {f : D → D → Option D} {fa fb : EM Rd} (ho : OpR C.X (binaryOp op) r) (hf : OpH C r f) (ha : SB C a fa) (hb : SB C b fb) : SE C (.BinOp a op b pos) (e2B f fa fb) :=
  (pe_op ho ha hb).imp fun σ H Q t => tOp_runB hf σ H Q t
theorem d_cmpB {a b : Expr} {op : CmpOp} {pos : Pos} {r : R2} {f : D → D → Option D} {fa fb : EM Rd} (ho : OpR C.X (compareOp op) r) (hf : OpH C r f) (ha : SB C a fa) (hb : SB C b fb) (hm : behindInMarks op b = false) : SE C (.Compare a [op] [b] pos) (e2B f fa fb) :=
  (pe_cmpR ho ha hb hm).imp fun σ H Q t => tOp_runB hf σ H Q t
theorem t_cmpB {a b : Expr} {op : CmpOp} {pos : Pos} {r : R2} {f : D → D → Option D} {fa fb : EM Rd} (ho : OpR C.X (compareOp op) r) (hf : OpH C r f) (ha : SB C a fa) (hb : SB C b fb) (hm : behindInMarks op b = false) : ST C (.Compare a [op] [b] pos) (tv (e2B f fa fb)) :=
  (pt_cmpR ho ha hb hm).imp fun σ H Q ⟨G, e, t⟩ => by
    show tOp r (fun σ H Q => tOf (repB C σ) C fa σ H Q) (fun σ H Q => tOf (repB C σ) C fb σ H Q) σ H (fun x H' => ∃ k, x = .bl k ∧ Q k H')
    refine tOp_runB hf σ H _ ((Run.bind t).imp fun x H1 ⟨a, G1, e1, g1, r1, t1⟩ => ?_)
    obtain ⟨b, q, s, k⟩ := t1.ofO
    rw [asBl_some q] at r1
    exact ⟨b, r1.blV, k G1 b H1 (GE.refl _) s rfl⟩
theorem oh_eqP : OpH C (rEqD C.X.K) eqP := by
  intro a b d x y G e σ H Q h ra rb s k
  unfold eqP at h
  split at h
  · rename_i p q e1 e2
    split at h
    · rename_i hz
      rw [Bool.and_eq_true] at hz
      cases h
      exact ⟨p, q, ra.dp s.sub e1, rb.dp s.sub e2, hz.1, hz.2, k G _ H (GE.refl G) s (.bl _)⟩
    · cases h
  · cases h
theorem oh_neP : OpH C (rNeD C.X.K) neP := by
  intro a b d x y G e σ H Q h ra rb s k
  unfold neP at h
  split at h
  · rename_i p q e1 e2
    split at h
    · rename_i hz
      rw [Bool.and_eq_true] at hz
      cases h
      exact ⟨p, q, ra.dp s.sub e1, rb.dp s.sub e2, hz.1, hz.2, k G _ H (GE.refl G) s (.bl _)⟩
    · cases h
  · cases h
theorem oh_eq : OpH C (rEqX C.X.K) eqD := by
  intro a b d x y G e σ H Q h ra rb s k
  unfold eqD at h
  split at h
  · cases h
    rw [ra.strV, rb.strV]
    exact .inr ⟨rfl, by rw [dec_str]; exact k G _ H (GE.refl G) s (.bl _)⟩
  · exact .inl (oh_eqP a b d x y G e σ H Q h ra rb s k)
theorem oh_ne : OpH C (rNeX C.X.K) neD := by
  intro a b d x y G e σ H Q h ra rb s k
  unfold neD at h
  split at h
  · cases h
    rw [ra.strV, rb.strV]
    exact .inr ⟨rfl, by rw [dec_str]; exact k G _ H (GE.refl G) s (.bl _)⟩
  · exact .inl (oh_neP a b d x y G e σ H Q h ra rb s k)

/-! ### items -/
def ixD : D → D → Option D
  | .lst ds, .int i => atI ds i
  | .tup ds, .int i => atI ds i
  | .str x, .int i => if x.length ≤ sz then (atI x.cps.toList i).map fun c => .str ⟨#[c]⟩ else none
  | _, _ => none
theorem atI_rep {M : Mdl} {G : Hp} {vs : List L2.V} {ds : List D} {i : Int} {d : D} (r : Reps M G vs ds) (h : atI ds i = some d) : ∃ v, atI vs i = some v ∧ Rep M G v d := by
  unfold atI at h ⊢
  rw [r.length]
  cases q : ixN ds.length i with
  | none => rw [q] at h; cases h
  | some j =>
    rw [q] at h
    obtain ⟨v, hv, rv⟩ := r.get (show ds[j]? = some d from h)
    exact ⟨v, hv, rv⟩
theorem oh_ix : OpH C (rIx C.X.K) ixD := by
  intro a b d x y G e σ H Q h ra rb s k
  unfold ixD at h
  split at h
  · obtain ⟨p, vs, rfl, h1, r⟩ := ra.lstV s.sub
    obtain ⟨v, hv, rv⟩ := atI_rep r h
    exact .inl ⟨p, vs, _, v, rfl, rb.intV, .inl (.inl h1), hv, k G v H (GE.refl _) s rv⟩
  · obtain ⟨p, vs, rfl, h1, r⟩ := ra.tupV s.sub
    obtain ⟨v, hv, rv⟩ := atI_rep r h
    exact .inr (.inl ⟨p, vs, _, v, rfl, rb.intV, h1, hv, k G v H (GE.refl _) s rv⟩)
  · split at h
    · rename_i z i hz
      cases q : atI z.cps.toList i with
      | none => rw [q] at h; cases h
      | some c => rw [q] at h; cases h; exact .inr (.inr ⟨z, i, c, ra.strV, rb.intV, sz_le hz, q, k G _ H (GE.refl _) s (.str _)⟩)
    · cases h
  · cases h
theorem d_ix {a b : Expr} {pos : Pos} {fa fb : EM D} (ha : SE C a fa) (hb : SE C b fb) (hp : PlainIx b := by exact fun _ _ => rfl) : SE C (.Subscript a b pos) (e2 ixD fa fb) :=
  (pe_ix ix_seq ha hb hp).imp fun σ H Q t => tOp_run oh_ix.d σ H Q t
theorem d_ixB {a b : Expr} {pos : Pos} {fa fb : EM Rd} (ha : SB C a fa) (hb : SB C b fb) (hp : PlainIx b := by exact fun _ _ => rfl) : SE C (.Subscript a b pos) (e2B ixD fa fb) :=
  (pe_ix ix_seq ha hb hp).imp fun σ H Q t => tOp_runB oh_ix σ H Q t
end
end Cs

set_option maxRecDepth 100000
set_option maxHeartbeats 4000000
namespace Cs
open PySem L2
section
variable {N : List Str} {V : List Nat} {Gs : List Str} {C : GC N V Gs}

/-! ## arguments that may be a slot's object -/
inductive RepBs (C : GC N V Gs) (σ : St) (G : Hp) : List L2.V → List Rd → Prop
  | nil : RepBs C σ G [] []
  | cons {v : L2.V} {r : Rd} {vs : List L2.V} {rs : List Rd} : repB C σ G v r → RepBs C σ G vs rs → RepBs C σ G (v :: vs) (r :: rs)
inductive RepHs (M : Mdl) (G H : Hp) : List L2.V → List D → Prop
  | nil : RepHs M G H [] []
  | cons {v : L2.V} {d : D} {vs : List L2.V} {ds : List D} : RepH M G H v d → RepHs M G H vs ds → RepHs M G H (v :: vs) (d :: ds)
def gets (e : Env) : List Rd → Option (List D)
  | [] => some []
  | r :: rs => match r.get e, gets e rs with
    | some d, some ds => some (d :: ds)
    | _, _ => none
theorem RepBs.now {σ : St} {G H : Hp} {e : Env} (s : Sim C.M C.F G e σ H) : ∀ {vs : List L2.V} {rs : List Rd} {ds : List D}, RepBs C σ G vs rs → gets e rs = some ds → RepHs C.M G H vs ds
  | _, _, _, .nil, q => by cases q; exact .nil
  | _, r :: rs, _, .cons h t, q => by
    unfold gets at q
    cases q1 : r.get e with
    | none => rw [q1] at q; cases q
    | some d =>
      cases q2 : gets e rs with
      | none => rw [q1, q2] at q; cases q
      | some ds => rw [q1, q2] at q; cases q; exact .cons (h.now s q1) (RepBs.now s t q2)
def SAB (C : GC N V Gs) (es : List Expr) (f : EM (List Rd)) : Prop := PA C.X es (fun σ H Q => tOf (RepBs C σ) C f σ H Q)
def bNil : EM (List Rd) := ret []
def bCons (f : EM Rd) (g : EM (List Rd)) : EM (List Rd) := bnd f fun d => bnd g fun ds => ret (d :: ds)
theorem b_nil : SAB C [] bNil := pa_nil.imp fun σ H Q ⟨G, e, t⟩ => t.done (rep := RepBs C σ) .nil
theorem b_cons {a : Expr} {es : List Expr} {f : EM Rd} {g : EM (List Rd)} (h : SB C a f) (h' : SAB C es g) (hs : starEach (a :: es) C.X.env = (false, eval a C.X.env) :: starEach es C.X.env := by rfl) : SAB C (a :: es) (bCons f g) :=
  (pa_cons h h' hs).imp fun σ H Q ⟨G, e, t⟩ => by
    refine (Run.bind t).imp fun x H1 ⟨d, G1, e1, g1, r1, t1⟩ => ?_
    refine (Run.bind t1).imp fun xs H2 ⟨ds, G2, e2, g2, r2, t2⟩ => ?_
    exact t2.done (rep := RepBs C σ) (.cons (r1.mono g2) r2)
def CallH (C : GC N V Gs) (r : List L2.V → Hp → VK → Prop) (f : List D → Option D) : Prop :=
  ∀ (ds : List D) (d : D) (vs : List L2.V) (G : Hp) (e : Env) (σ : St) (H : Hp) (Q : VK), f ds = some d → RepHs C.M G H vs ds → Sim C.M C.F G e σ H → (∀ G' v H', GE G G' → Sim C.M C.F G' e σ H' → Rep C.M G' v d → Q v H') → r vs H Q
def rdGs {α : Type} (rs : List Rd) (k : List D → EM α) : EM α := fun e => match gets e rs with
  | some ds => k ds e
  | none => .bad
theorem Run.rdGs {α β : Type} {rep : Hp → β → α → Prop} {rs : List Rd} {k : List D → EM α} {G : Hp} {e : Env} {σ : St} {H : Hp} {Q : β → Hp → Prop} (h : Run rep C (rdGs rs k) G e σ H Q) : ∃ ds, gets e rs = some ds ∧ Run rep C (k ds) G e σ H Q := by
  obtain ⟨s, p⟩ := h
  unfold Cs.rdGs at p
  cases q : gets e rs with
  | none => rw [q] at p; exact p.elim
  | some d => rw [q] at p; exact ⟨d, rfl, s, p⟩
def eCall (f : List D → Option D) (fa : EM (List Rd)) : EM D := bnd fa fun rs => rdGs rs fun ds => ofO (f ds)
theorem eCall_run {r : List L2.V → Hp → VK → Prop} {f : List D → Option D} {fa : EM (List Rd)} (hc : CallH C r f) (σ : St) (H : Hp) (Q : VK) (t : tOf (Rep C.M) C (eCall f fa) σ H Q) : tCB r (fun σ H Q => tOf (RepBs C σ) C fa σ H Q) σ H Q := by
  obtain ⟨G, e, t⟩ := t
  refine (Run.bind t).imp fun vs H1 ⟨rs, G1, e1, g1, r1, t1⟩ => ?_
  obtain ⟨ds, q, t2⟩ := t1.rdGs
  obtain ⟨d, q2, s, k⟩ := t2.ofO
  exact hc ds d vs G1 e1 σ H1 Q q2 (r1.now s q) s k
theorem d_callB {id : String} {r : List L2.V → Hp → VK → Prop} {f : List D → Option D} {x : Str} {a : Expr} {es : List Expr} {p pos : Pos} {fa : EM (List Rd)} (hc : CallR C.X (.builtin id) r) (hf : CallH C r f) (j : Nat) (hg : Gs[j]? = some x) (hm : C.X.mg x = none) (hv : bootBuiltins x = some (.builtin id)) (ha : SAB C (a :: es) fa)
    (hn : x ≠ "__name__" := by decide +kernel) (hdb : (x == ("__debug__" : Str)) = false := by decide +kernel) (he : starEach (a :: es) C.X.env = (false, eval a C.X.env) :: starEach es C.X.env := by rfl) (hpl : (backTo pos (starEach es C.X.env)).any (·.1) = false := by rfl) :
    SE C (.Call (.Name x p) (a :: es) [] pos) (eCall f fa) := (pe_callB hc (C.gl j _ hg) hm hv ha hn hdb he hpl).imp fun σ H Q t => eCall_run hf σ H Q t
theorem d_callTy {id : String} {r : List L2.V → Hp → VK → Prop} {f : List D → Option D} {x : Str} {a : Expr} {es : List Expr} {p pos : Pos} {fa : EM (List Rd)} (hc : CallR C.X (.type id) r) (hf : CallH C r f) (j : Nat) (hg : Gs[j]? = some x) (hm : C.X.mg x = none) (hv : bootBuiltins x = some (.type id)) (ha : SAB C (a :: es) fa)
    (hn : x ≠ "__name__" := by decide +kernel) (hdb : (x == ("__debug__" : Str)) = false := by decide +kernel) (he : starEach (a :: es) C.X.env = (false, eval a C.X.env) :: starEach es C.X.env := by rfl) (hpl : (backTo pos (starEach es C.X.env)).any (·.1) = false := by rfl) :
    SE C (.Call (.Name x p) (a :: es) [] pos) (eCall f fa) := (pe_callTy hc (C.gl j _ hg) hm hv ha hn hdb he hpl).imp fun σ H Q t => eCall_run hf σ H Q t
theorem CallR.or {X : Cx} {f : Value} {r r' : List L2.V → Hp → VK → Prop} (h : CallR X f r) (h' : CallR X f r') : CallR X f fun vs H Q => r vs H Q ∨ r' vs H Q :=
  fun pins s σ H xs us Q I rv q => q.elim (h pins s σ H xs us Q I rv) (h' pins s σ H xs us Q I rv)

theorem RepHs.one {M : Mdl} {G H : Hp} {vs : List L2.V} {d : D} (h : RepHs M G H vs [d]) : ∃ v, vs = [v] ∧ RepH M G H v d := by
  cases h with | cons a b => cases b; exact ⟨_, rfl, a⟩
theorem RepHs.two {M : Mdl} {G H : Hp} {vs : List L2.V} {d d' : D} (h : RepHs M G H vs [d, d']) : ∃ v v', vs = [v, v'] ∧ RepH M G H v d ∧ RepH M G H v' d' := by
  cases h with | cons a b => cases b with | cons b c => cases c; exact ⟨_, _, rfl, a, b⟩
theorem RepH.blV {M : Mdl} {G H : Hp} {v : L2.V} {i : Bool} (h : RepH M G H v (.bl i)) : v = .bl i := (h.of (fun o => by cases o <;> (intro z; cases z))).blV
theorem RepH.scrV {M : Mdl} {G H : Hp} {v : L2.V} {ds : List D} (h : RepH M G H v (.scr ds)) (s : GE G H) : ∃ a vs, v = .ref a ∧ SqL M.K H a vs ∧ Reps M G vs ds := by
  obtain ⟨a, vs, e, h1, r⟩ := (h.of (fun o => by cases o <;> (intro z; cases z))).scrV
  exact ⟨a, vs, e, sql_ge s h1, r⟩

/-! len, abs, int, max, min -/
def lenD : List D → Option D
  | [.lst xs] => some (.int xs.length)
  | [.tup xs] => some (.int xs.length)
  | [.scr xs] => some (.int xs.length)
  | [.str x] => if x.length ≤ sz then some (.int x.length) else none
  | _ => none
theorem ch_len : CallH C (fun xs H Q => ∃ x n, xs = [x] ∧ LenV C.X.K x H n ∧ Q (.int n) H) lenD := by
  intro ds d vs G e σ H Q h rr s k
  unfold lenD at h
  split at h
  · cases h; obtain ⟨v, rfl, r⟩ := rr.one; obtain ⟨a, ws, rfl, h1, r⟩ := r.lstV s.sub
    exact ⟨_, _, rfl, .inl ⟨ws, .inl (.inl h1), rfl⟩, by rw [r.length]; exact k _ _ _ (GE.refl _) s (.int _)⟩
  · cases h; obtain ⟨v, rfl, r⟩ := rr.one; obtain ⟨a, ws, rfl, h1, r⟩ := r.tupV s.sub
    exact ⟨_, _, rfl, .inr ⟨ws, h1, rfl⟩, by rw [r.length]; exact k _ _ _ (GE.refl _) s (.int _)⟩
  · cases h; obtain ⟨v, rfl, r⟩ := rr.one; obtain ⟨a, ws, rfl, h1, r⟩ := r.scrV s.sub
    exact ⟨_, _, rfl, .inl ⟨ws, h1, rfl⟩, by rw [r.length]; exact k _ _ _ (GE.refl _) s (.int _)⟩
  · split at h
    · rename_i hz; cases h; obtain ⟨v, rfl, r⟩ := rr.one
      rw [r.strV]
      exact ⟨_, _, rfl, ⟨sz_le hz, rfl⟩, k _ _ _ (GE.refl _) s (.int _)⟩
    · cases h
  · cases h
def absD : List D → Option D
  | [.int i] => some (.int (if i < 0 then -i else i))
  | _ => none
theorem ch_abs : CallH C (fun xs H Q => ∃ i, xs = [.int i] ∧ Q (.int (if i < 0 then -i else i)) H) absD := by
  intro ds d vs G e σ H Q h rr s k
  unfold absD at h
  split at h
  · cases h; obtain ⟨v, rfl, r⟩ := rr.one
    exact ⟨_, by rw [r.intV], k _ _ _ (GE.refl _) s (.int _)⟩
  · cases h
def intD : List D → Option D
  | [.int i] => some (.int i)
  | [.bl b] => some (.int (if b then 1 else 0))
  | _ => none
theorem ch_int : CallH C (fun xs H Q => (∃ i, xs = [.int i] ∧ Q (.int i) H) ∨ ∃ k, xs = [.bl k] ∧ Q (.int (if k then 1 else 0)) H) intD := by
  intro ds d vs G e σ H Q h rr s k
  unfold intD at h
  split at h
  · cases h; obtain ⟨v, rfl, r⟩ := rr.one
    exact .inl ⟨_, by rw [r.intV], k _ _ _ (GE.refl _) s (.int _)⟩
  · cases h; obtain ⟨v, rfl, r⟩ := rr.one
    exact .inr ⟨_, by rw [r.blV], k _ _ _ (GE.refl _) s (.int _)⟩
  · cases h
def max2D : List D → Option D
  | [.int i, .int j] => some (.int (if j > i then j else i))
  | _ => none
def min2D : List D → Option D
  | [.int i, .int j] => some (.int (if j < i then j else i))
  | _ => none
theorem ch_max2 : CallH C (fun xs H Q => ∃ i j, xs = [.int i, .int j] ∧ Q (.int (if j > i then j else i)) H) max2D := by
  intro ds d vs G e σ H Q h rr s k
  unfold max2D at h
  split at h
  · cases h; obtain ⟨v, w, rfl, r, r'⟩ := rr.two
    exact ⟨_, _, by rw [r.intV, r'.intV], k _ _ _ (GE.refl _) s (.int _)⟩
  · cases h
theorem ch_min2 : CallH C (fun xs H Q => ∃ i j, xs = [.int i, .int j] ∧ Q (.int (if j < i then j else i)) H) min2D := by
  intro ds d vs G e σ H Q h rr s k
  unfold min2D at h
  split at h
  · cases h; obtain ⟨v, w, rfl, r, r'⟩ := rr.two
    exact ⟨_, _, by rw [r.intV, r'.intV], k _ _ _ (GE.refl _) s (.int _)⟩
  · cases h

/-! lists of numbers, of flags -/
def intsOf : List D → Option (List Int)
  | [] => some []
  | .int i :: r => (intsOf r).map (i :: ·)
  | _ => none
def boolsOf : List D → Option (List Bool)
  | [] => some []
  | .bl i :: r => (boolsOf r).map (i :: ·)
  | _ => none
theorem Reps.intsOf {M : Mdl} {G : Hp} : ∀ {vs : List L2.V} {ds : List D} {ns : List Int}, Reps M G vs ds → Cs.intsOf ds = some ns → vs = ns.map L2.V.int
  | _, _, _, .nil, h => by cases h; rfl
  | _, d :: ds, _, .cons a r, h => by
    cases d with
    | int i =>
      unfold Cs.intsOf at h
      cases q : Cs.intsOf ds with
      | none => rw [q] at h; cases h
      | some ms => rw [q] at h; cases h; rw [a.intV, r.intsOf q]; rfl
    | _ => cases h
theorem Reps.boolsOf {M : Mdl} {G : Hp} : ∀ {vs : List L2.V} {ds : List D} {ns : List Bool}, Reps M G vs ds → Cs.boolsOf ds = some ns → vs = ns.map L2.V.bl
  | _, _, _, .nil, h => by cases h; rfl
  | _, d :: ds, _, .cons a r, h => by
    cases d with
    | bl i =>
      unfold Cs.boolsOf at h
      cases q : Cs.boolsOf ds with
      | none => rw [q] at h; cases h
      | some ms => rw [q] at h; cases h; rw [a.blV, r.boolsOf q]; rfl
    | _ => cases h
theorem Reps.ofInts {M : Mdl} {G : Hp} : ∀ ns : List Int, Reps M G (ns.map L2.V.int) (ns.map D.int)
  | [] => .nil
  | n :: r => .cons (.int n) (Reps.ofInts r)
def allD : List D → Option D
  | [.lst xs] => (boolsOf xs).map fun bs => .bl (bs.all id)
  | _ => none
def anyD : List D → Option D
  | [.lst xs] => (boolsOf xs).map fun bs => .bl (bs.any id)
  | _ => none
def sumD : List D → Option D
  | [.lst xs] => (intsOf xs).map fun bs => .int bs.sum
  | _ => none
theorem ch_all : CallH C (rAll C.X.K) allD := by
  intro ds d vs G e σ H Q h rr s k
  unfold allD at h
  split at h
  · rename_i xs
    cases q : boolsOf xs with
    | none => rw [q] at h; cases h
    | some bs =>
      rw [q] at h; cases h
      obtain ⟨v, rfl, r⟩ := rr.one; obtain ⟨a, ws, rfl, h1, r⟩ := r.lstV s.sub
      rw [r.boolsOf q] at h1
      exact ⟨a, bs, rfl, .inl (.inl h1), k _ _ _ (GE.refl _) s (.bl _)⟩
  · cases h
theorem ch_any : CallH C (rAny C.X.K) anyD := by
  intro ds d vs G e σ H Q h rr s k
  unfold anyD at h
  split at h
  · rename_i xs
    cases q : boolsOf xs with
    | none => rw [q] at h; cases h
    | some bs =>
      rw [q] at h; cases h
      obtain ⟨v, rfl, r⟩ := rr.one; obtain ⟨a, ws, rfl, h1, r⟩ := r.lstV s.sub
      rw [r.boolsOf q] at h1
      exact ⟨a, bs, rfl, .inl (.inl h1), k _ _ _ (GE.refl _) s (.bl _)⟩
  · cases h
theorem ch_sum : CallH C (rSum C.X.K) sumD := by
  intro ds d vs G e σ H Q h rr s k
  unfold sumD at h
  split at h
  · rename_i xs
    cases q : intsOf xs with
    | none => rw [q] at h; cases h
    | some bs =>
      rw [q] at h; cases h
      obtain ⟨v, rfl, r⟩ := rr.one; obtain ⟨a, ws, rfl, h1, r⟩ := r.lstV s.sub
      rw [r.intsOf q] at h1
      exact ⟨a, bs, rfl, .inl (.inl h1), k _ _ _ (GE.refl _) s (.int _)⟩
  · cases h
def tupleD : List D → Option D
  | [.lst xs] => some (.tup xs)
  | [.tup xs] => some (.tup xs)
  | _ => none
theorem ch_tuple : CallH C (fun xs H Q => ∃ p ys, xs = [.ref p] ∧ ((SqL C.X.K H p ys ∧ ∀ l, H l = none → Q (.ref l) (upd H l (.tup ys))) ∨ (SqT C.X.K H p ys ∧ Q (.ref p) H))) tupleD := by
  intro ds d vs G e σ H Q h rr s k
  unfold tupleD at h
  split at h
  · cases h; obtain ⟨v, rfl, r⟩ := rr.one; obtain ⟨a, ws, rfl, h1, r⟩ := r.lstV s.sub
    refine ⟨a, ws, rfl, .inl ⟨.inl (.inl h1), fun l hl => ?_⟩⟩
    obtain ⟨g, s', r⟩ := s.newTup hl r
    exact k _ _ _ g s' r
  · cases h; obtain ⟨v, rfl, r⟩ := rr.one
    have r0 := r.of (fun o => by cases o <;> (intro z; cases z))
    obtain ⟨a, ws, rfl, h1, r⟩ := r.tupV s.sub
    exact ⟨a, ws, rfl, .inr ⟨h1, k _ _ _ (GE.refl _) s r0⟩⟩
  · cases h
section
variable {a b : Expr} {p pos : Pos} {fa : EM (List Rd)}
theorem d_len (j : Nat) (hm : C.X.mg "len" = none) (ha : SAB C [a] fa) (hg : Gs[j]? = some "len" := by rfl) (he : starEach [a] C.X.env = (false, eval a C.X.env) :: starEach [] C.X.env := by rfl) : SE C (.Call (.Name "len" p) [a] [] pos) (eCall lenD fa) :=
  d_callB call_len ch_len j hg hm PySem.boot_len ha (he := he) (hpl := rfl)
theorem d_abs (j : Nat) (hm : C.X.mg "abs" = none) (ha : SAB C [a] fa) (hg : Gs[j]? = some "abs" := by rfl) (he : starEach [a] C.X.env = (false, eval a C.X.env) :: starEach [] C.X.env := by rfl) : SE C (.Call (.Name "abs" p) [a] [] pos) (eCall absD fa) :=
  d_callB call_abs ch_abs j hg hm (by decide +kernel) ha (he := he) (hpl := rfl)
theorem d_intc (j : Nat) (hm : C.X.mg "int" = none) (ha : SAB C [a] fa) (hg : Gs[j]? = some "int" := by rfl) (he : starEach [a] C.X.env = (false, eval a C.X.env) :: starEach [] C.X.env := by rfl) : SE C (.Call (.Name "int" p) [a] [] pos) (eCall intD fa) :=
  d_callTy call_int1 ch_int j hg hm (by decide +kernel) ha (he := he) (hpl := rfl)
theorem d_all (j : Nat) (hc : C.X.calm = true) (hm : C.X.mg "all" = none) (ha : SAB C [a] fa) (hg : Gs[j]? = some "all" := by rfl) (he : starEach [a] C.X.env = (false, eval a C.X.env) :: starEach [] C.X.env := by rfl) : SE C (.Call (.Name "all" p) [a] [] pos) (eCall allD fa) :=
  d_callB (cr_all hc) ch_all j hg hm (by decide +kernel) ha (he := he) (hpl := rfl)
theorem d_any (j : Nat) (hc : C.X.calm = true) (hm : C.X.mg "any" = none) (ha : SAB C [a] fa) (hg : Gs[j]? = some "any" := by rfl) (he : starEach [a] C.X.env = (false, eval a C.X.env) :: starEach [] C.X.env := by rfl) : SE C (.Call (.Name "any" p) [a] [] pos) (eCall anyD fa) :=
  d_callB (cr_any hc) ch_any j hg hm (by decide +kernel) ha (he := he) (hpl := rfl)
theorem d_sum (j : Nat) (hc : C.X.calm = true) (hm : C.X.mg "sum" = none) (ha : SAB C [a] fa) (hg : Gs[j]? = some "sum" := by rfl) (he : starEach [a] C.X.env = (false, eval a C.X.env) :: starEach [] C.X.env := by rfl) : SE C (.Call (.Name "sum" p) [a] [] pos) (eCall sumD fa) :=
  d_callB (cr_sum hc) ch_sum j hg hm (by decide +kernel) ha (he := he) (hpl := rfl)
theorem d_tuple (j : Nat) (hm : C.X.mg "tuple" = none) (ha : SAB C [a] fa) (hg : Gs[j]? = some "tuple" := by rfl) (he : starEach [a] C.X.env = (false, eval a C.X.env) :: starEach [] C.X.env := by rfl) : SE C (.Call (.Name "tuple" p) [a] [] pos) (eCall tupleD fa) :=
  d_callTy call_tuple_of ch_tuple j hg hm (by decide +kernel) ha (he := he) (hpl := rfl)
theorem d_max2 (j : Nat) (hc : C.X.calm = true) (hm : C.X.mg "max" = none) (ha : SAB C [a, b] fa) (hg : Gs[j]? = some "max" := by rfl) (he : starEach [a, b] C.X.env = (false, eval a C.X.env) :: starEach [b] C.X.env := by rfl) (hpl : (backTo pos (starEach [b] C.X.env)).any (·.1) = false := by rfl) : SE C (.Call (.Name "max" p) [a, b] [] pos) (eCall max2D fa) :=
  d_callB (call_max2 hc) ch_max2 j hg hm (by decide +kernel) ha (he := he) (hpl := hpl)
theorem d_min2 (j : Nat) (hc : C.X.calm = true) (hm : C.X.mg "min" = none) (ha : SAB C [a, b] fa) (hg : Gs[j]? = some "min" := by rfl) (he : starEach [a, b] C.X.env = (false, eval a C.X.env) :: starEach [b] C.X.env := by rfl) (hpl : (backTo pos (starEach [b] C.X.env)).any (·.1) = false := by rfl) : SE C (.Call (.Name "min" p) [a, b] [] pos) (eCall min2D fa) :=
  d_callB (call_min2 hc) ch_min2 j hg hm (by decide +kernel) ha (he := he) (hpl := hpl)
end
end
end Cs

set_option maxRecDepth 100000
set_option maxHeartbeats 4000000
namespace Cs
open PySem L2
section
variable {M : Mdl} {F : Fm} {G : Hp} {e : Env} {σ : St} {H : Hp}
theorem Sim.newO {p : Addr} {ob : HO} {o : OO} (s : Sim M F G e σ H) (hp : H p = none) (ow : OwnAt M G (upd H p ob) o (.ref p) [p]) : SimO M F G e σ (upd H p ob) o (.ref p) := by
  have gp := free_of_ge s.sub hp
  obtain ⟨fp, s⟩ := s
  have fp0 : F.H0 p = none := by
    cases q : F.H0 p with
    | none => rfl
    | some u => exact absurd (nt_none hp) (s.dom p (by rw [q]; simp))
  refine ⟨fp, [p], s.grow (GE.refl G) (fun b u q => ?_) (fun b u q => ?_) (fun b q => .inl q) s.gnt, ow, fun a m => ?_⟩
  · rw [upd_ne (ne_of_none q gp)]; exact s.sub b u q
  · rw [upd_ne (ne_of_none q hp)]; exact q
  · have : a = p := by simpa using m
    subst this
    exact ⟨gp, fp0, fun j m' => (s.at_ j).there m' hp, fun p hp' z => by have := (s.pro p hp').1; rw [z, hp] at this; cases this⟩
theorem Sim.newOL {p : Addr} {vs : List V} {ds : List D} (s : Sim M F G e σ H) (hp : H p = none) (r : Reps M G vs ds) : SimO M F G e σ (upd H p (.lst vs)) (.lst ds) (.ref p) :=
  s.newO hp ⟨p, vs, rfl, rfl, upd_same, r⟩
theorem SimO.put {i : Nat} {o : OO} {v : V} (s : SimO M F G e σ H o v) (hi : i < e.length) (nb : ¬ IsBor (e.getD i none)) : Sim M F G (e.set i (some (.own o))) (σ.set i (some v)) H := by
  obtain ⟨fp, f, s, ow, hf⟩ := s
  obtain ⟨a, rfl, rfl, hn⟩ := ow.at
  obtain ⟨ga, fa, na, npr⟩ := hf a (by simp)
  -- a must be seen as new: by hand
  refine ⟨fps fp i [a], ?_⟩
  exact {
    len := by simpa using s.len
    sub := s.sub
    frm := s.frm
    low := s.low
    hnt := s.hnt
    dom := s.dom
    new := s.new
    at_ := fun j => by
      by_cases z : j = i
      · subst z; rw [getD_set_eq hi, getD_set_eq (by rw [← s.len]; exact hi), fps_eq]; exact ⟨_, rfl, ow⟩
      · rw [getD_set_ne z, getD_set_ne z, fps_ne z]; exact s.at_ j
    dj := fun j k b njk m => by
      by_cases zj : j = i
      · subst zj; rw [fps_eq] at m; rw [fps_ne (Ne.symm njk)]
        have : b = a := by simpa using m
        rw [this]; exact na k
      · rw [fps_ne zj] at m
        by_cases zk : k = i
        · subst zk; rw [fps_eq]; intro m'
          have : b = a := by simpa using m'
          exact na j (this ▸ m)
        · rw [fps_ne zk]; exact s.dj j k b njk m
    own := fun j b m => by
      by_cases z : j = i
      · subst z; rw [fps_eq] at m; rw [getD_set_eq hi]
        have : b = a := by simpa using m
        rw [this]; exact ⟨ga, .inl fa⟩
      · rw [fps_ne z] at m; rw [getD_set_ne z]; exact s.own j b m
    bor := fun p hp => by
      obtain ⟨x, y⟩ := s.bor p hp
      have : p.1 ≠ i := fun z => nb (z ▸ x.bor)
      rw [getD_set_ne this, getD_set_ne this]; exact ⟨x, y⟩
    pin := fun p hp => by
      obtain ⟨x, y⟩ := s.pin p hp
      have : p.1 ≠ i := fun z => nb (by rw [← z, x]; trivial)
      rw [getD_set_ne this, getD_set_ne this]; exact ⟨x, y⟩
    pro := fun p hp => by
      obtain ⟨x, y, z⟩ := s.pro p hp
      refine ⟨x, y, fun j m => ?_⟩
      by_cases zj : j = i
      · subst zj; rw [fps_eq] at m; exact npr p hp (by simpa using m)
      · rw [fps_ne zj] at m; exact z j m
    gnt := s.gnt
    pnt := s.pnt
    tab := s.tab
    kep := s.kep }
theorem SimO.freeze {o : OO} {v : V} (s : SimO M F G e σ H o v) : ∃ G', GE G G' ∧ Sim M F G' e σ H ∧ Rep M G' v o.fr := by
  obtain ⟨fp, f, s, ow, hf⟩ := s
  have kd := fun a => ow.kind (a := a)
  obtain ⟨a, ob, rfl, rfl, ha, r⟩ := ow.frozen fun a m => (hf a m).1
  obtain ⟨ga, fa, na, npr⟩ := hf a (by simp)
  refine ⟨upd G a ob, GE.upd ga, ⟨fp, ?_⟩, r⟩
  exact {
    len := s.len
    sub := fun b u q => by
      by_cases z : b = a
      · subst z; rw [upd_same] at q; cases q; exact ha
      · rw [upd_ne z] at q; exact s.sub b u q
    frm := s.frm
    low := s.low.trans (GE.upd ga)
    hnt := s.hnt
    dom := s.dom
    new := fun b q => by
      by_cases z : b = a
      · subst z; exact .inr fa
      · rw [upd_ne z] at q; exact s.new b q
    at_ := fun j => (s.at_ j).mono (GE.upd ga) fun _ _ => rfl
    dj := s.dj
    own := fun j b m => ⟨by
      have : b ≠ a := fun z => na j (z ▸ m)
      rw [upd_ne this]; exact (s.own j b m).1, (s.own j b m).2⟩
    bor := s.bor
    pin := s.pin
    pnt := s.pnt
    pro := fun p hp => by
      obtain ⟨x, y, z⟩ := s.pro p hp
      exact ⟨x, by rw [upd_ne (npr p hp)]; exact y, z⟩
    gnt := by
      obtain ⟨u, hu, n⟩ := kd a (by simp)
      rw [ha] at hu; cases hu
      exact gnt_upd s.gnt (ownk_ist n)
    tab := s.tab
    kep := s.kep }
/-- a slot's object moves out -/
theorem Sim.move {i : Nat} {o : OO} (s : Sim M F G e σ H) (h : e[i]? = some (some (.own o))) : ∃ v, σ[i]? = some (some v) ∧ SimO M F G (e.set i none) σ H o v := by
  obtain ⟨fp, s⟩ := s
  obtain ⟨v, hv, ow⟩ := s.obj (.inl h)
  have hi := lt_of_get h
  have k := s.change (i := i) (sv := none) (v := some v) (f := []) (G' := G) (H' := H) hi (GE.refl G) s.sub (fun _ _ h _ => h) (fun _ h => h) (fun _ h => .inl h) rfl (fun a m => by cases m) (.inl ⟨by rw [getD_of h]; exact id, id⟩) s.gnt
  rw [set_self hv] at k
  refine ⟨v, hv, fps fp i [], fp i, k, ow, fun a m => ⟨(s.own i a m).1, ?_, fun j m' => ?_, fun p hp z => (s.pro p hp).2.2 i (z ▸ m)⟩⟩
  · rcases (s.own i a m).2 with z | ⟨_, z⟩
    · exact z
    · rw [getD_of h] at z; exact z.elim
  · by_cases z : j = i
    · subst z; rw [fps_eq] at m'; cases m'
    · rw [fps_ne z] at m'; exact s.dj j i a z m' m
end

section
variable {N : List Str} {V : List Nat} {Gs : List Str} {C : GC N V Gs}
/-! ## objects of one's own -/
def PostO (C : GC N V Gs) (G : Hp) (r : R OO) (σ : St) (Q : VK) : Prop :=
  match r with
  | .ok o e => ∀ G' v H', GE G G' → SimO C.M C.F G' e σ H' o v → Q v H'
  | .exc x e => ∀ G' H' cls d, GE G G' → Sim C.M C.F G' e σ H' → ExcAt C.M G' H' cls d x → C.W cls d σ H'
  | .bad => False
theorem PostO.mono {G G' : Hp} {r : R OO} {σ : St} {Q : VK} (h : PostO C G r σ Q) (g : GE G G') : PostO C G' r σ Q := by
  cases r with
  | ok a e => exact fun G2 v H' g2 s => h G2 v H' (g.trans g2) s
  | exc x e => exact fun G2 H' c d g2 s p => h G2 H' c d (g.trans g2) s p
  | bad => exact h
def RunO (C : GC N V Gs) (f : EM OO) (G : Hp) (e : Env) (σ : St) (H : Hp) (Q : VK) : Prop := Sim C.M C.F G e σ H ∧ PostO C G (f e) σ Q
def tOfO (C : GC N V Gs) (f : EM OO) : TE := fun σ H Q => ∃ G e, RunO C f G e σ H Q
def SO (C : GC N V Gs) (e : Expr) (f : EM OO) : Prop := PE C.X e (tOfO C f)
theorem RunO.bind {α β : Type} {rep : Hp → β → α → Prop} {f : EM α} {k : α → EM OO} {G : Hp} {e : Env} {σ : St} {H : Hp} {Q : VK}
    (h : RunO C (bnd f k) G e σ H Q) : tOf rep C f σ H (fun x H1 => ∃ a G1 e1, GE G G1 ∧ rep G1 x a ∧ RunO C (k a) G1 e1 σ H1 Q) := by
  obtain ⟨s, p⟩ := h
  refine ⟨G, e, s, ?_⟩
  unfold bnd at p
  cases q : f e with
  | ok a e1 => rw [q] at p; exact fun G' v H' g s' r => ⟨a, G', e1, g, r, s', PostO.mono p g⟩
  | exc x e1 => rw [q] at p; exact p
  | bad => rw [q] at p; exact p
theorem RunO.rdGs {rs : List Rd} {k : List D → EM OO} {G : Hp} {e : Env} {σ : St} {H : Hp} {Q : VK} (h : RunO C (rdGs rs k) G e σ H Q) : ∃ ds, gets e rs = some ds ∧ RunO C (k ds) G e σ H Q := by
  obtain ⟨s, p⟩ := h
  unfold Cs.rdGs at p
  cases q : gets e rs with
  | none => rw [q] at p; exact p.elim
  | some d => rw [q] at p; exact ⟨d, rfl, s, p⟩
theorem RunO.ofO {o : Option OO} {G : Hp} {e : Env} {σ : St} {H : Hp} {Q : VK} (h : RunO C (ofO o) G e σ H Q) : ∃ a, o = some a ∧ Sim C.M C.F G e σ H ∧ ∀ G' v H', GE G G' → SimO C.M C.F G' e σ H' a v → Q v H' := by
  obtain ⟨s, p⟩ := h
  cases o with
  | none => exact p.elim
  | some a => exact ⟨a, rfl, s, p⟩
/-- given out as a value -/
def eFrz (f : EM OO) : EM D := bnd f fun o => ret o.fr
theorem d_frz {e : Expr} {f : EM OO} (h : SO C e f) : SE C e (eFrz f) :=
  PE.imp h fun σ H Q ⟨G, e, s, p⟩ => ⟨G, e, s, by
    unfold eFrz bnd at p
    revert p
    cases f e with
    | ok o e1 =>
      intro p G' v H' g s'
      obtain ⟨G2, g2, s2, r⟩ := s'.freeze
      exact p G2 v H' (g.trans g2) s2 r
    | exc x e1 => exact id
    | bad => exact id⟩
/-- x = an object of one's own -/
def putO (i : Nat) (o : OO) : EM Unit := fun e => match e[i]? with
  | none => .bad
  | some (some (.bor _)) => .bad
  | some (some .pin) => .bad
  | some _ => .ok () (e.set i (some (.own o)))
def sAsgO (f : EM OO) (i : Nat) : ES := sB (bnd f (putO i)) fun _ e => .next e
theorem s_setO (i : Nat) {x : Str} {e : Expr} {pos pos' : Pos} {f : EM OO} (he : SO C e f) (hN : N[i]? = some x := by rfl) (hV : V[i]? = some 2 ∨ V[i]? = some 3 := by first | exact .inl rfl | exact .inr rfl)
    (hs : swapsWith e (some (.Name x pos')) pos.line C.X.env = pure false := by rfl) : SS C (.Assign [.Name x pos'] e pos) (sAsgO f i) :=
  (ps_set (i := i) C.nd (by rw [C.hN]; exact hN) (GC.stoLoc hN hV).1 he hs (GC.stoLoc hN hV).2).imp fun D σ H ⟨G, e, s, p⟩ => ⟨G, e, s, by
    unfold sAsgO sB bnd at p
    revert p
    cases f e with
    | ok o e1 =>
      intro p G' v H' g s'
      show D.nx (σ.set i (some v)) H'
      have p : PostS C G ((putO i o e1).s fun _ e => .next e) D := p
      unfold putO at p
      split at p
      · exact p.elim
      · exact p.elim
      · exact p.elim
      · rename_i sv hn hn2 q
        refine p G' _ H' g (s'.put (lt_of_get q) fun z => ?_)
        rw [getD_of q] at z
        cases sv with
        | none => exact z
        | some w => cases w with
                    | val _ => exact z
                    | own _ => exact z
                    | bor o => exact hn o rfl
                    | pin => exact hn2 rfl
    | exc x e1 => exact fun p G' H' cls d g s' r => p G' σ H' cls d g s' r
    | bad => exact id⟩
/-- return of an object of one's own -/
def sRetO (f : EM OO) : ES := sB f fun o e => .retO o e
theorem s_retO {e : Expr} {pos : Pos} {f : EM OO} (h : SO C e f) : SS C (.Return (some e) pos) (sRetO f) :=
  (ps_ret h).imp fun D σ H ⟨G, e, s, p⟩ => ⟨G, e, s, by
    unfold sRetO sB at p
    revert p
    cases f e with
    | ok o e1 => exact fun p G' v H' g s' => p G' σ v H' g s'
    | exc x e1 => exact fun p G' H' cls d g s' r => p G' σ H' cls d g s' r
    | bad => exact id⟩
/-- a slot's object moved out -/
def oMove (i : Nat) : EM OO := fun e => match e[i]? with
  | some (some (.own o)) => .ok o (e.set i none)
  | _ => .bad
theorem o_move (i : Nat) {x : Str} {pos : Pos} (hN : N[i]? = some x := by rfl) (hV : V[i]? = some 1 ∨ V[i]? = some 2 ∨ V[i]? = some 3 := by first | exact .inr (.inl rfl) | exact .inl rfl | exact .inr (.inr rfl))
    (hd : (x == ("__debug__" : Str)) = false := by decide +kernel) (hcd : (x == ("__classdict__" : Str)) = false := by decide +kernel) : SO C (.Name x pos) (oMove i) :=
  (pe_var (i := i) (by rw [C.hN]; exact hN) (C.vis i x hN hV) hd hcd).imp fun σ H Q ⟨G, e, s, p⟩ => by
    unfold oMove at p
    split at p
    · rename_i o q
      obtain ⟨v, hv, so⟩ := s.move q
      exact ⟨v, hv, p G v H (GE.refl _) so⟩
    · exact p.elim
/-! new lists -/
def oLst (f : EM (List D)) : EM OO := bnd f fun ds => if ds.length ≤ sz then ret (.lst ds) else fail
theorem o_lst {es : List Expr} {pos : Pos} {f : EM (List D)} (h : SA C es f) : SO C (.List es pos) (oLst f) :=
  (pe_lst h).imp fun σ H Q ⟨G, e, t⟩ => (RunO.bind t).imp fun x H1 ⟨d, G1, e1, g1, r1, s, p⟩ => by
    split at p
    · rename_i hz
      exact ⟨sz_le (by rw [r1.length]; exact hz), fun l hl => p _ _ _ (GE.refl _) (s.newOL hl r1)⟩
    · exact p.elim
/-- a call that makes a list -/
def CallO (C : GC N V Gs) (r : List L2.V → Hp → VK → Prop) (f : List D → Option OO) : Prop :=
  ∀ (ds : List D) (o : OO) (vs : List L2.V) (G : Hp) (e : Env) (σ : St) (H : Hp) (Q : VK), f ds = some o → RepHs C.M G H vs ds → Sim C.M C.F G e σ H → (∀ G' v H', GE G G' → SimO C.M C.F G' e σ H' o v → Q v H') → r vs H Q
def oCall (f : List D → Option OO) (fa : EM (List Rd)) : EM OO := bnd fa fun rs => rdGs rs fun ds => ofO (f ds)
theorem oCall_run {r : List L2.V → Hp → VK → Prop} {f : List D → Option OO} {fa : EM (List Rd)} (hc : CallO C r f) (σ : St) (H : Hp) (Q : VK) (t : tOfO C (oCall f fa) σ H Q) : tCB r (fun σ H Q => tOf (RepBs C σ) C fa σ H Q) σ H Q := by
  obtain ⟨G, e, t⟩ := t
  refine (RunO.bind t).imp fun vs H1 ⟨rs, G1, e1, g1, r1, t1⟩ => ?_
  obtain ⟨ds, q, t2⟩ := t1.rdGs
  obtain ⟨d, q2, s, k⟩ := t2.ofO
  exact hc ds d vs G1 e1 σ H1 Q q2 (r1.now s q) s k
theorem o_callB {id : String} {r : List L2.V → Hp → VK → Prop} {f : List D → Option OO} {x : Str} {a : Expr} {es : List Expr} {p pos : Pos} {fa : EM (List Rd)} (hc : CallR C.X (.builtin id) r) (hf : CallO C r f) (j : Nat) (hg : Gs[j]? = some x) (hm : C.X.mg x = none) (hv : bootBuiltins x = some (.builtin id)) (ha : SAB C (a :: es) fa)
    (hn : x ≠ "__name__" := by decide +kernel) (hdb : (x == ("__debug__" : Str)) = false := by decide +kernel) (he : starEach (a :: es) C.X.env = (false, eval a C.X.env) :: starEach es C.X.env := by rfl) (hpl : (backTo pos (starEach es C.X.env)).any (·.1) = false := by rfl) :
    SO C (.Call (.Name x p) (a :: es) [] pos) (oCall f fa) := (pe_callB hc (C.gl j _ hg) hm hv ha hn hdb he hpl).imp fun σ H Q t => oCall_run hf σ H Q t
theorem o_callTy {id : String} {r : List L2.V → Hp → VK → Prop} {f : List D → Option OO} {x : Str} {a : Expr} {es : List Expr} {p pos : Pos} {fa : EM (List Rd)} (hc : CallR C.X (.type id) r) (hf : CallO C r f) (j : Nat) (hg : Gs[j]? = some x) (hm : C.X.mg x = none) (hv : bootBuiltins x = some (.type id)) (ha : SAB C (a :: es) fa)
    (hn : x ≠ "__name__" := by decide +kernel) (hdb : (x == ("__debug__" : Str)) = false := by decide +kernel) (he : starEach (a :: es) C.X.env = (false, eval a C.X.env) :: starEach es C.X.env := by rfl) (hpl : (backTo pos (starEach es C.X.env)).any (·.1) = false := by rfl) :
    SO C (.Call (.Name x p) (a :: es) [] pos) (oCall f fa) := (pe_callTy hc (C.gl j _ hg) hm hv ha hn hdb he hpl).imp fun σ H Q t => oCall_run hf σ H Q t
def listO : List D → Option OO
  | [.lst xs] => some (.lst xs)
  | [.tup xs] => some (.lst xs)
  | _ => none
theorem co_list : CallO C (fun xs H Q => ∃ p ys, xs = [.ref p] ∧ (SqL C.X.K H p ys ∨ SqT C.X.K H p ys) ∧ ∀ l, H l = none → Q (.ref l) (upd H l (.lst ys))) listO := by
  intro ds d vs G e σ H Q h rr s k
  unfold listO at h
  split at h
  · cases h; obtain ⟨v, rfl, r⟩ := rr.one; obtain ⟨a, ws, rfl, h1, r⟩ := r.lstV s.sub
    exact ⟨a, ws, rfl, .inl (.inl (.inl h1)), fun l hl => k _ _ _ (GE.refl _) (s.newOL hl r)⟩
  · cases h; obtain ⟨v, rfl, r⟩ := rr.one; obtain ⟨a, ws, rfl, h1, r⟩ := r.tupV s.sub
    exact ⟨a, ws, rfl, .inr h1, fun l hl => k _ _ _ (GE.refl _) (s.newOL hl r)⟩
  · cases h
theorem o_list (j : Nat) {a : Expr} {p pos : Pos} {fa : EM (List Rd)} (hm : C.X.mg "list" = none) (ha : SAB C [a] fa) (hg : Gs[j]? = some "list" := by rfl) (he : starEach [a] C.X.env = (false, eval a C.X.env) :: starEach [] C.X.env := by rfl) : SO C (.Call (.Name "list" p) [a] [] pos) (oCall listO fa) :=
  o_callTy call_list_of co_list j hg hm (by decide +kernel) ha (he := he) (hpl := rfl)
/-- sorted of ints: the one ascending list -/
def ins (x : Int) : List Int → List Int
  | [] => [x]
  | y :: r => if x ≤ y then x :: y :: r else y :: ins x r
def isort (l : List Int) : List Int := l.foldr ins []
theorem ins_perm (x : Int) : ∀ l, (ins x l).Perm (x :: l)
  | [] => .refl _
  | y :: r => by
    unfold ins
    split
    · exact .refl _
    · exact ((ins_perm x r).cons y).trans (List.Perm.swap x y r)
theorem isort_perm : ∀ l, (isort l).Perm l
  | [] => .refl _
  | x :: r => (ins_perm x _).trans ((isort_perm r).cons x)
theorem ins_sorted (x : Int) : ∀ l : List Int, l.Pairwise (· ≤ ·) → (ins x l).Pairwise (· ≤ ·)
  | [], _ => by simp [ins]
  | y :: r, h => by
    unfold ins
    split
    · rename_i hxy
      refine List.pairwise_cons.mpr ⟨fun z hz => ?_, h⟩
      rcases List.mem_cons.mp hz with rfl | hz
      · exact hxy
      · exact Int.le_trans hxy ((List.pairwise_cons.mp h).1 z hz)
    · rename_i hxy
      refine List.pairwise_cons.mpr ⟨fun z hz => ?_, ins_sorted x r (List.pairwise_cons.mp h).2⟩
      rcases List.mem_cons.mp ((ins_perm x r).mem_iff.mp hz) with rfl | hz
      · omega
      · exact (List.pairwise_cons.mp h).1 z hz
theorem isort_sorted : ∀ l : List Int, (isort l).Pairwise (· ≤ ·)
  | [] => .nil
  | x :: r => ins_sorted x _ (isort_sorted r)
theorem sorted_unique : ∀ {a b : List Int}, a.Perm b → a.Pairwise (· ≤ ·) → b.Pairwise (· ≤ ·) → a = b
  | [], b, p, _, _ => by rw [p.symm.eq_nil]
  | x :: a, [], p, _, _ => absurd p.length_eq (by simp)
  | x :: a, y :: b, p, ha, hb => by
    have hx : x ∈ y :: b := p.mem_iff.mp (by simp)
    have hy : y ∈ x :: a := p.symm.mem_iff.mp (by simp)
    have e : x = y := by
      rcases List.mem_cons.mp hx with h | h
      · exact h
      · rcases List.mem_cons.mp hy with h' | h'
        · exact h'.symm
        · have h1 := (List.pairwise_cons.mp hb).1 x h
          have h2 := (List.pairwise_cons.mp ha).1 y h'
          omega
    subst e
    rw [sorted_unique (List.Perm.cons_inv p) (List.pairwise_cons.mp ha).2 (List.pairwise_cons.mp hb).2]
def sortedO : List D → Option OO
  | [.lst xs] => (intsOf xs).map fun ns => .lst ((isort ns).map .int)
  | _ => none
theorem co_sorted : CallO C (rSortedI C.X.K) sortedO := by
  intro ds d vs G e σ H Q h rr s k
  unfold sortedO at h
  split at h
  · rename_i xs
    cases q : intsOf xs with
    | none => rw [q] at h; cases h
    | some ns =>
      rw [q] at h; cases h
      obtain ⟨v, rfl, r⟩ := rr.one; obtain ⟨a, ws, rfl, h1, r⟩ := r.lstV s.sub
      rw [r.intsOf q] at h1
      refine ⟨a, ns, rfl, .inl (.inl h1), fun ns' l hp hs hl => ?_⟩
      rw [sorted_unique (hp.trans (isort_perm ns).symm) hs (isort_sorted ns)]
      exact k _ _ _ (GE.refl _) (s.newOL hl (Reps.ofInts _))
  · cases h
theorem o_sorted (j : Nat) {a : Expr} {p pos : Pos} {fa : EM (List Rd)} (hm : C.X.mg "sorted" = none) (ha : SAB C [a] fa) (hg : Gs[j]? = some "sorted" := by rfl) (he : starEach [a] C.X.env = (false, eval a C.X.env) :: starEach [] C.X.env := by rfl) : SO C (.Call (.Name "sorted" p) [a] [] pos) (oCall sortedO fa) :=
  o_callB cr_sortedI co_sorted j hg hm (by decide +kernel) ha (he := he) (hpl := rfl)

/-! ### a slot's list changed -/
def olst (i : Nat) : EM (List D) := fun e => match e[i]? with
  | some (some (.own (.lst ds))) => .ok ds e
  | some (some (.bor (.lst ds))) => .ok ds e
  | _ => .bad
def oset (i : Nat) (o : OO) : EM Unit := fun e => match e[i]? with
  | some (some (.own _)) => .ok () (e.set i (some (.own o)))
  | some (some (.bor _)) => .ok () (e.set i (some (.bor o)))
  | _ => .bad
/-- where a slot's list stands -/
def lstAt (C : GC N V Gs) (i : Nat) (G : Hp) (e : Env) (σ : St) (H : Hp) (a : Addr) (ds : List D) : Prop :=
  σ[i]? = some (some (.ref a)) ∧ ∃ vs, H a = some (.lst vs) ∧ Reps C.M G vs ds
theorem olst_ok {i : Nat} {G : Hp} {e : Env} {σ : St} {H : Hp} (s : Sim C.M C.F G e σ H) {r : R (List D)} (h : olst i e = r) (hr : r ≠ .bad) :
    ∃ ds a, r = .ok ds e ∧ (e[i]? = some (some (.own (.lst ds))) ∨ e[i]? = some (some (.bor (.lst ds)))) ∧ lstAt C i G e σ H a ds := by
  obtain ⟨fp, s⟩ := s
  have key : ∀ ds, (e[i]? = some (some (.own (.lst ds))) ∨ e[i]? = some (some (.bor (.lst ds)))) → ∃ a, lstAt C i G e σ H a ds := fun ds ho => by
    obtain ⟨v, hv, a, vs, rfl, _, h1, r1⟩ := s.obj ho
    exact ⟨a, hv, vs, h1, r1⟩
  unfold olst at h
  split at h
  · rename_i ds q
    obtain ⟨a, k⟩ := key ds (.inl q)
    exact ⟨ds, a, h.symm, .inl q, k⟩
  · rename_i ds q
    obtain ⟨a, k⟩ := key ds (.inr q)
    exact ⟨ds, a, h.symm, .inr q, k⟩
  · exact absurd h.symm hr
theorem oset_ok {i : Nat} {G : Hp} {e : Env} {σ : St} {H : Hp} {o o' : OO} {a : Addr} {ob : HO} (s : Sim C.M C.F G e σ H) (h : e[i]? = some (some (.own o)) ∨ e[i]? = some (some (.bor o))) (ha : σ[i]? = some (some (.ref a))) (ow : OwnAt C.M G (upd H a ob) o' (.ref a) [a]) :
    ∃ e', oset i o' e = .ok () e' ∧ Sim C.M C.F G e' σ (upd H a ob) := by
  obtain ⟨fp, s⟩ := s
  obtain ⟨v, hv, ow0⟩ := s.obj h
  obtain ⟨a', rfl, hf, _⟩ := ow0.at
  have : a' = a := by rw [hv] at ha; cases ha; rfl
  subst this
  rcases h with h | h
  · refine ⟨_, ?_, _, s.mutate (.inl ⟨h, rfl⟩) hv hf ow⟩
    unfold oset; rw [h]
  · refine ⟨_, ?_, _, s.mutate (.inr ⟨h, rfl⟩) hv hf ow⟩
    unfold oset; rw [h]
/-- a method of a list by content: what it hands back, the list then -/
def MutL (r : L2.V → List L2.V → Hp → VK → Prop) (op : List D → List D → Option (D × List D)) : Prop :=
  ∀ (M : Mdl) (G H : Hp) (a : Addr) (vs ws : List L2.V) (ds as ds' : List D) (d : D) (Q : VK), GE G H → op ds as = some (d, ds') → H a = some (.lst vs) → Reps M G vs ds → Reps M G ws as →
    (∀ x vs', Rep M G x d → Reps M G vs' ds' → Q x (upd H a (.lst vs'))) → r (.ref a) ws H Q
def eMutL (i : Nat) (fa : EM (List D)) (op : List D → List D → Option (D × List D)) : EM D :=
  bnd (olst i) fun _ => bnd fa fun as => bnd (olst i) fun ds => bnd (ofO (op ds as)) fun p => bnd (oset i (.lst p.2)) fun _ => ret p.1
theorem eMutL_run {i : Nat} {x : Str} {r : L2.V → List L2.V → Hp → VK → Prop} {op : List D → List D → Option (D × List D)} {fa : EM (List D)} (hr : MutL r op) (σ : St) (H : Hp) (Q : VK) (t : tOf (Rep C.M) C (eMutL i fa op) σ H Q) :
    tBM C.X.K "list" r (tVar i) (tOf (Reps C.M) C fa) σ H Q := by
  obtain ⟨G, e, s, p⟩ := t
  unfold eMutL bnd at p
  obtain ⟨ds, a, q, hd, hv, vs, ha, rv⟩ := olst_ok s (r := olst i e) rfl (fun z => by rw [z] at p; exact p)
  rw [q] at p
  refine ⟨_, hv, .inl ⟨rfl, vs, .inl (.inl ha)⟩, ?_⟩
  have t1 : Run (Rep C.M) C (bnd fa fun as => bnd (olst i) fun ds => bnd (ofO (op ds as)) fun p => bnd (oset i (.lst p.2)) fun _ => ret p.1) G e σ H Q := ⟨s, p⟩
  refine (Run.bind t1).imp fun ws H1 ⟨as, G1, e1, g1, r1, s1, p1⟩ => ?_
  unfold bnd at p1
  obtain ⟨ds1, a1, q1, hd1, hv1, vs1, ha1, rv1⟩ := olst_ok s1 (r := olst i e1) rfl (fun z => by rw [z] at p1; exact p1)
  rw [q1] at p1
  have : a1 = a := by rw [hv] at hv1; cases hv1; rfl
  subst this
  have p1 : Post (Rep C.M) C G1 ((ofO (op ds1 as) e1).bind fun p => bnd (oset i (.lst p.2)) fun _ => ret p.1) σ Q := p1
  cases q2 : op ds1 as with
  | none => rw [q2] at p1; exact p1.elim
  | some pr =>
    obtain ⟨d, ds'⟩ := pr
    rw [q2] at p1
    refine hr C.M G1 H1 a1 vs1 ws ds1 as ds' d Q s1.sub q2 ha1 rv1 r1 fun x vs' rx rvs => ?_
    obtain ⟨e2, q3, s2⟩ := oset_ok (o' := .lst ds') (ob := .lst vs') s1 hd1 hv1 ⟨a1, vs', rfl, rfl, upd_same, rvs⟩
    have p1 : Post (Rep C.M) C G1 ((oset i (.lst ds') e1).bind fun _ => ret d) σ Q := p1
    rw [q3] at p1
    exact p1 G1 x _ (GE.refl _) s2 rx
def appendL : List D → List D → Option (D × List D) := fun ds as => match as with
  | [d] => if ds.length < sz then some (.non, ds ++ [d]) else none
  | _ => none
theorem mu_append : MutL rAppend appendL := by
  intro M G H a vs ws ds as ds' d Q s h ha rv rw k
  unfold appendL at h
  split at h
  · split at h
    · rename_i hz; cases h
      cases rw with
      | cons r1 r2 => cases r2; exact ⟨a, vs, _, rfl, rfl, ha, sz_lt (by rw [rv.length]; exact hz), k _ _ .non (rv.append (.cons r1 .nil))⟩
    · cases h
  · cases h
def popL : List D → List D → Option (D × List D) := fun ds as => match as with
  | [] => (ds[ds.length - 1]?).map fun d => (d, ds.dropLast)
  | _ => none
theorem Reps.dropLast {M : Mdl} {G : Hp} {vs : List L2.V} {ds : List D} (r : Reps M G vs ds) : Reps M G vs.dropLast ds.dropLast := by
  rw [List.dropLast_eq_take, List.dropLast_eq_take, r.length]; exact r.take _
theorem mu_pop : MutL rPop popL := by
  intro M G H a vs ws ds as ds' d Q s h ha rv rw k
  unfold popL at h
  split at h
  · cases q : ds[ds.length - 1]? with
    | none => rw [q] at h; cases h
    | some y =>
      rw [q] at h; cases h
      cases rw
      obtain ⟨v, hv, r1⟩ := rv.get q
      exact ⟨a, vs, v, rfl, rfl, ha, by rw [rv.length]; exact hv, k _ _ r1 rv.dropLast⟩
  · cases h
def extendL : List D → List D → Option (D × List D) := fun ds as => match as with
  | [.lst xs] => if ds.length + xs.length ≤ sz then some (.non, ds ++ xs) else none
  | _ => none
theorem mu_extend : MutL rExtend extendL := by
  intro M G H a vs ws ds as ds' d Q s h ha rv rw k
  unfold extendL at h
  split at h
  · split at h
    · rename_i hz; cases h
      cases rw with
      | cons r1 r2 =>
        cases r2
        obtain ⟨b, us, rfl, hb, ru⟩ := r1.lstV
        exact ⟨a, b, vs, us, rfl, rfl, ha, s _ _ hb, sz_le (by rw [rv.length, ru.length]; exact hz), k _ _ .non (rv.append ru)⟩
    · cases h
  · cases h
end
end Cs

set_option maxRecDepth 100000
set_option maxHeartbeats 4000000
namespace Cs
open PySem L2 PyProof.Rows

/-! ## defs -/
inductive FR where
  | val (d : D) (os : List OO) | own (o : OO) (os : List OO) | exc (x : XV) (os : List OO) | bad

/-- arguments: values, lent objects (at the addresses l) -/
inductive ArgsAt (M : Mdl) (G H : Hp) : List SV → List V → List Addr → Prop
  | nil : ArgsAt M G H [] [] []
  | val {v : V} {d : D} {as : List SV} {vs : List V} {l : List Addr} : Rep M G v d → ArgsAt M G H as vs l → ArgsAt M G H (.val d :: as) (v :: vs) l
  | bor {a : Addr} {o : OO} {as : List SV} {vs : List V} {l : List Addr} : OwnAt M G H o (.ref a) [a] → G a = none → a ∉ l → ArgsAt M G H as vs l → ArgsAt M G H (.bor o :: as) (.ref a :: vs) (a :: l)
structure Exit (M : Mdl) (G H G' H' : Hp) (l : List Addr) (os : List OO) : Prop where
  ge : GE G G'
  sub : GE G' H'
  frm : ∀ a o, H a = some o → a ∉ l → ist o = false → H' a = some o
  gnt : ∀ a o, G' a = some o → ist o = false
  tab : LamX.Tabs M.T H'
  dom : ∀ a, nt H a ≠ none → nt H' a ≠ none
  new : ∀ a, G' a ≠ none → G a ≠ none ∨ nt H a = none
  ios : Paired (fun a o => OwnAt M G' H' o (.ref a) [a] ∧ G' a = none) l os
/-- a def's promise by its content -/
def spF (M : Mdl) (n : Nat) (f : List SV → FR) : Sp := fun vs H Q E => ∃ G as l, as.length = n ∧ GE G H ∧ (∀ a o, G a = some o → ist o = false) ∧ LamX.Tabs M.T H ∧ ArgsAt M G H as vs l ∧ match f as with
  | .val d os => ∀ G' v H', Exit M G H G' H' l os → Rep M G' v d → Q v H'
  | .own o os => ∀ G' v H' a, Exit M G H G' H' l os → v = .ref a → OwnAt M G' H' o v [a] → G' a = none → nt H a = none → Q v H'
  | .exc x os => ∀ G' H' cls d, Exit M G H G' H' l os → ExcAt M G' H' cls d x → E cls d H'
  | .bad => False
theorem ArgsAt.length {M : Mdl} {G H : Hp} : ∀ {as : List SV} {vs : List V} {l : List Addr}, ArgsAt M G H as vs l → as.length = vs.length
  | _, _, _, .nil => rfl
  | _, _, _, .val _ t => by rw [List.length_cons, List.length_cons, t.length]
  | _, _, _, .bor _ _ _ t => by rw [List.length_cons, List.length_cons, t.length]
theorem ArgsAt.there {M : Mdl} {G H : Hp} : ∀ {as : List SV} {vs : List V} {l : List Addr}, ArgsAt M G H as vs l → ∀ a ∈ l, G a = none ∧ H a ≠ none
  | _, _, _, .nil, a, m => by cases m
  | _, _, _, .val _ t, a, m => t.there a m
  | _, _, _, .bor ow g _ t, a, m => by
    rcases List.mem_cons.mp m with rfl | m
    · obtain ⟨b, e1, e2, hn⟩ := ow.at
      cases e1
      exact ⟨g, hn⟩
    · exact t.there a m

/-! ### a body's start -/
def bors : List SV → Nat → List Nat
  | [], _ => []
  | .bor _ :: r, i => i :: bors r (i + 1)
  | _ :: r, i => bors r (i + 1)
def borL : List SV → List V → Nat → List (Nat × V)
  | .bor _ :: r, v :: vs, i => (i, v) :: borL r vs (i + 1)
  | _ :: r, _ :: vs, i => borL r vs (i + 1)
  | _, _, _ => []
def fpA : List SV → List V → Nat → List Addr
  | .bor _ :: _, .ref a :: _, 0 => [a]
  | _ :: r, _ :: vs, n + 1 => fpA r vs n
  | _, _, _ => []
theorem fpA_mem {M : Mdl} {G H : Hp} : ∀ {as : List SV} {vs : List V} {l : List Addr}, ArgsAt M G H as vs l → ∀ i a, a ∈ fpA as vs i → a ∈ l ∧ ∃ o, as[i]? = some (.bor o)
  | _, _, _, .nil, i, a, m => by cases i <;> cases m
  | _, _, _, .val r t, 0, a, m => by cases m
  | _, _, _, .val r t, i + 1, a, m => by
    obtain ⟨h1, o, h2⟩ := fpA_mem t i a m
    exact ⟨h1, o, by simpa using h2⟩
  | _, _, _, @ArgsAt.bor _ _ _ a0 _ _ _ _ ow g n t, 0, a, m => by
    have m : a ∈ [a0] := m
    have : a = a0 := by simpa using m
    subst this
    exact ⟨by simp, _, rfl⟩
  | _, _, _, .bor ow g n t, i + 1, a, m => by
    obtain ⟨h1, o, h2⟩ := fpA_mem t i a m
    exact ⟨List.mem_cons_of_mem _ h1, o, by simpa using h2⟩
theorem fpA_dj {M : Mdl} {G H : Hp} : ∀ {as : List SV} {vs : List V} {l : List Addr}, ArgsAt M G H as vs l → ∀ i j a, i ≠ j → a ∈ fpA as vs i → a ∉ fpA as vs j
  | _, _, _, .nil, i, j, a, _, m => by cases i <;> cases m
  | _, _, _, .val r t, 0, j, a, _, m => by cases m
  | _, _, _, .val r t, i + 1, 0, a, _, m => by intro z; cases z
  | _, _, _, .val r t, i + 1, j + 1, a, h, m => fpA_dj t i j a (fun z => h (by rw [z])) m
  | _, _, _, .bor ow g n t, 0, 0, a, h, m => absurd rfl h
  | _, _, _, @ArgsAt.bor _ _ _ a0 _ _ _ _ ow g n t, 0, j + 1, a, h, m => by
    have m : a ∈ [a0] := m
    have : a = a0 := by simpa using m
    subst this
    exact fun z => n (fpA_mem t j _ z).1
  | _, _, _, @ArgsAt.bor _ _ _ a0 _ _ _ _ ow g n t, i + 1, 0, a, h, m => by
    intro z
    have z : a ∈ [a0] := z
    have : a = a0 := by simpa using z
    subst this
    exact n (fpA_mem t i _ m).1
  | _, _, _, .bor ow g n t, i + 1, j + 1, a, h, m => fpA_dj t i j a (fun z => h (by rw [z])) m
theorem argsAt_slot {M : Mdl} {G H : Hp} : ∀ {as : List SV} {vs : List V} {l : List Addr} (r s : Nat), ArgsAt M G H as vs l → ∀ i, SlotAt M G H ((as.map some ++ List.replicate r none).getD i none) ((vs.map some ++ List.replicate s none).getD i none) (fpA as vs i)
  | _, _, _, r, s, .nil, i => by
    have : (List.replicate r (none : Option SV)).getD i none = none := by
      rw [List.getD_eq_getElem?_getD]
      cases q : (List.replicate r (none : Option SV))[i]? with
      | none => rfl
      | some z => have := List.mem_of_getElem? q; rw [List.mem_replicate] at this; rw [this.2]; rfl
    show SlotAt M G H ((List.replicate r (none : Option SV)).getD i none) _ _
    rw [this]
    cases i <;> rfl
  | _, _, _, r, s, .val h t, 0 => ⟨rfl, _, rfl, h⟩
  | _, _, _, r, s, .val h t, i + 1 => argsAt_slot r s t i
  | _, _, _, r, s, .bor ow g n t, 0 => ⟨_, rfl, ow⟩
  | _, _, _, r, s, .bor ow g n t, i + 1 => argsAt_slot r s t i
theorem borL_ok {M : Mdl} {G H : Hp} : ∀ {as : List SV} {vs : List V} {l : List Addr} (r s k : Nat), ArgsAt M G H as vs l → ∀ p ∈ borL as vs k, ∃ i, p.1 = k + i ∧ IsLent ((as.map some ++ List.replicate r none).getD i none) ∧ (vs.map some ++ List.replicate s none).getD i none = some p.2
  | _, _, _, r, s, k, .nil, p, m => by cases m
  | _, _, _, r, s, k, .val h t, p, m => by
    obtain ⟨i, h1, h2, h3⟩ := borL_ok r s (k + 1) t p m
    exact ⟨i + 1, by omega, h2, h3⟩
  | _, _, _, r, s, k, .bor ow g n t, p, m => by
    rcases List.mem_cons.mp m with rfl | m
    · exact ⟨0, by simp, trivial, rfl⟩
    · obtain ⟨i, h1, h2, h3⟩ := borL_ok r s (k + 1) t p m
      exact ⟨i + 1, by omega, h2, h3⟩
def fmOf (H G : Hp) (as : List SV) (vs : List V) (l : List Addr) : Fm := ⟨nt H, G, l, borL as vs 0, [], [], []⟩
def env0 (n : Nat) (as : List SV) : Env := as.map some ++ List.replicate (n - as.length) none
theorem sim_start {M : Mdl} {G H : Hp} {as : List SV} {vs : List V} {l : List Addr} {n : Nat} (hn : as.length ≤ n) (s : GE G H) (gnt : ∀ a o, G a = some o → ist o = false) (tab : LamX.Tabs M.T H) (h : ArgsAt M G H as vs l) :
    SimF M (fmOf H G as vs l) G (env0 n as) (vs.map some ++ List.replicate (n - vs.length) none) H (fpA as vs) where
  len := by simp [env0, h.length]
  sub := s
  low := GE.refl _
  hnt := fun a o h => (nt_some h).2
  frm := fun a o h _ => (nt_some h).1
  gnt := gnt
  tab := tab
  dom := fun a h => h
  new := fun a h => .inl h
  at_ := argsAt_slot _ _ h
  dj := fpA_dj h
  own := fun i a m => by
    obtain ⟨h1, o, h2⟩ := fpA_mem h i a m
    refine ⟨(h.there a h1).1, .inr ⟨h1, ?_⟩⟩
    have : (env0 n as).getD i none = some (.bor o) := by
      unfold env0
      rw [List.getD_eq_getElem?_getD, List.getElem?_append_left (by simpa using (List.getElem?_eq_some_iff.mp h2).1), List.getElem?_map, h2]; rfl
    rw [this]; trivial
  bor := fun p m => by
    obtain ⟨i, h1, h2, h3⟩ := borL_ok (n - as.length) (n - vs.length) 0 h p m
    have : p.1 = i := by omega
    rw [this]; exact ⟨h2, h3⟩
  pro := fun p m => by cases m
  kep := fun p m => by cases m
  pin := fun p m => by cases m
  pnt := fun p m => by cases m

/-! ### a body's end -/
def ioAt (e : Env) (i : Nat) : Option OO := match e.getD i none with
  | some (.bor o) => some o
  | _ => none
def ioOs (as : List SV) (e : Env) : List OO := (bors as 0).filterMap (ioAt e)
theorem ios_end {M : Mdl} {G' H' : Hp} {F : Fm} {e : Env} {σ : L2.St} {fp : Nat → List Addr} (s : SimF M F G' e σ H' fp) : ∀ {as : List SV} {vs : List V} {l : List Addr} {G H : Hp} (k : Nat), ArgsAt M G H as vs l → (∀ p ∈ borL as vs k, p ∈ F.bor) →
    Paired (fun a o => OwnAt M G' H' o (.ref a) [a] ∧ G' a = none) l ((bors as k).filterMap (ioAt e))
  | _, _, _, _, _, k, .nil, _ => .nil
  | _, _, _, _, _, k, .val h t, hb => ios_end s (k + 1) t hb
  | _, _, _, _, _, k, @ArgsAt.bor _ _ _ a o as vs l ow g n t, hb => by
    obtain ⟨h1, h2⟩ := s.bor (k, .ref a) (hb _ (by simp [borL]))
    have hs := s.at_ k
    rw [h2] at hs
    cases q : e.getD k none with
    | none => rw [q] at h1; exact h1.elim
    | some z =>
      cases z with
      | val _ => rw [q] at h1; exact h1.elim
      | own _ => rw [q] at h1; exact h1.elim
      | pin =>
        rw [q] at h1; exact h1.elim
      | bor o' =>
        rw [q] at hs
        obtain ⟨u, hu, ow'⟩ := hs
        cases hu
        obtain ⟨b, e1, e2, _⟩ := ow'.at
        cases e1
        rw [e2] at ow'
        have hio : ioAt e k = some o' := by unfold ioAt; rw [q]
        show Paired _ (a :: l) ((k :: bors as (k + 1)).filterMap (ioAt e))
        rw [List.filterMap_cons, hio]
        exact .cons ⟨ow', (s.own k a (by rw [e2]; simp)).1⟩ (ios_end s (k + 1) t fun p hp => hb p (List.mem_cons_of_mem _ hp))
theorem exit_of {M : Mdl} {G H G' H' : Hp} {e : Env} {σ : L2.St} {as : List SV} {vs : List V} {l : List Addr} (h : ArgsAt M G H as vs l) (g : GE G G') (s : Sim M (fmOf H G as vs l) G' e σ H') : Exit M G H G' H' l (ioOs as e) := by
  obtain ⟨fp, s⟩ := s
  exact ⟨g, s.sub, fun a o h m n => s.frm a o (nt_of h n) m, s.gnt, s.tab, s.dom, s.new, ios_end s 0 h fun p hp => hp⟩
/-- what a def does, by its body's content -/
def runBody (n : Nat) (b : ES) (as : List SV) : FR := match b (env0 n as) with
  | .next e => .val .non (ioOs as e)
  | .ret d e => .val d (ioOs as e)
  | .retO o e => .own o (ioOs as e)
  | .exc x e => .exc x (ioOs as e)
  | .bad => .bad

/-! ### the scope -/
def okScope (sc : Scope) (N : List Str) (V : List Nat) (Gs : List Str) : Bool :=
  (N.length == V.length) && ((N.zip V).all fun p => match p.2 with
    | 2 => (match sc.names.lookup p.1 with | some .local => true | _ => false)
    | 3 => (match sc.names.lookup p.1 with | some .cell => true | _ => false)
    | 0 => true
    | _ => false) && (Gs.all fun x => match sc.names.lookup x with | some .globalImplicit => true | _ => false)
theorem okScope_get {sc : Scope} {N : List Str} {V : List Nat} {Gs : List Str} (h : okScope sc N V Gs = true) {i : Nat} {x : Str} {v : Nat} (hN : N[i]? = some x) (hV : V[i]? = some v) : match v with
    | 2 => sc.names.lookup x = some .local
    | 3 => sc.names.lookup x = some .cell
    | 0 => True
    | _ => False := by
  unfold okScope at h
  simp only [Bool.and_eq_true, List.all_eq_true] at h
  have hm : (x, v) ∈ N.zip V := by
    apply List.mem_of_getElem? (i := i)
    rw [List.getElem?_zip_eq_some]
    exact ⟨hN, hV⟩
  have := h.1.2 (x, v) hm
  revert this
  dsimp only
  split
  · intro z; split at z
    · assumption
    · cases z
  · intro z; split at z
    · assumption
    · cases z
  · intro _; trivial
  · intro z; cases z
theorem okScope_gl {sc : Scope} {N : List Str} {V : List Nat} {Gs : List Str} (h : okScope sc N V Gs = true) {j : Nat} {x : Str} (hG : Gs[j]? = some x) : sc.names.lookup x = some .globalImplicit := by
  unfold okScope at h
  simp only [Bool.and_eq_true, List.all_eq_true] at h
  have := h.2 x (List.mem_of_getElem? hG)
  revert this
  split
  · intro _; assumption
  · intro z; cases z

section
variable {P : Program} {w : World} {K : PySem.W.Frag} {mg : Str → Option Value} {base : Heap}
/-- the place of a def's body -/
def gcDef {N : List Str} {V : List Nat} {Gs : List Str} {ps : List Str} {st : Stmt} (S : FnScope N ps (defScope st)) (ok : okScope (defScope st) N V Gs = true) (qual : Str) (f : Addr) (cd : Value) (A : Around) (outer : List PySem.Env) (s : Shared) (H : Hp) (E : XK) (F : Fm)
    (hu : (A.deeper (envOfC qual (defScope st) s.heap.objs.size f cd)).units + 64 < cLine) (T : List (Addr × Str)) (tu : ∀ p ∈ T, ∀ q ∈ T, p.1 = q.1 → p.2 = q.2) (lam : ∀ Pt, (Pt, (qual ++ ".<locals>.") ++ "<lambda>") ∈ T → ∃ c, cd = .ref c ∧ LamX.TabB base mg c Pt) (gb : Bool) (gd : gb = true → A.guards = some []) : GC N V Gs where
  X := cxOf (L2.CX P w) P w K mg base N qual (defScope st) f cd A outer s H E
  F := F
  W := fun cls d _ H => E cls d H
  lv := 0
  hN := rfl
  nd := S.nd
  vis := fun i x hN hV => by
    rcases hV with hV | hV | hV
    · exact (okScope_get ok hN hV).elim
    · exact .inl (okScope_get ok hN hV)
    · exact .inr (.inl (okScope_get ok hN hV))
  loc := fun i x hN hV => okScope_get ok hN hV
  cel := fun i x hN hV => ⟨okScope_get ok hN hV, rfl⟩
  fre := fun i x hN hV => (okScope_get ok hN hV).elim
  fun_ := by
    show PySem.Env.blockKind _ = .function
    unfold PySem.Env.blockKind
    show (if (defScope st).kind.isAnnotationScope = true then ScopeKind.function else (defScope st).kind) = .function
    rw [S.kind]
    rfl
  gl := fun j x h => okScope_gl ok h
  tk := takes_of rfl rfl rfl rfl
  po := passes_of rfl
  hu := hu
  T := T
  tu := tu
  lam := lam
  gb := gb
  gd := gd
/-- what a def's making of lambdas asks -/
def LamOk (base : Heap) (mg : Str → Option Value) (T : List (Addr × Str)) (fd : FuncData) (qual : Str) : Prop := ∀ Pt, (Pt, (qual ++ ".<locals>.") ++ "<lambda>") ∈ T → ∃ c, fd.code = .ref c ∧ LamX.TabB base mg c Pt
/-- FnOk, where no repr is under way (if b) -/
structure FnOkB (b : Bool) (P : Program) (w : World) (K : PySem.W.Frag) (mg : Str → Option Value) (base : Heap) (k : Nat) (f : Addr) (fd : FuncData) (ps : List Str) (sp : Sp) : Prop where
  len : ∀ vs H Q E, sp vs H Q E → vs.length = ps.length
  run : ∀ (A : Around) (outer : List PySem.Env) (s : Shared) (H : Hp) (args : Args) (us : List Value) (vs : List V) (Q : VK) (E : XK), (b = true → A.guards = some []) → Room k A → Env0 P w K mg base A outer s H → BindsTo s fd args (ps.zip us) → Vals vs us → sp vs H Q E →
    codeAny (model P w) A (.call (.ref f) args) (CR (L2.CX P w) outer P w H s Q E) s
theorem FnOkB.ok {P : Program} {w : World} {K : PySem.W.Frag} {mg : Str → Option Value} {base : Heap} {k : Nat} {f : Addr} {fd : FuncData} {ps : List Str} {sp : Sp} (F : FnOkB false P w K mg base k f fd ps sp) : FnOk P w K mg base (L2.CX P w) k f fd ps sp :=
  ⟨F.len, fun A outer s H args us vs Q E hr => F.run A outer s H args us vs Q E (fun z => nomatch z) hr⟩
theorem FnOkB.of {b : Bool} {P : Program} {w : World} {K : PySem.W.Frag} {mg : Str → Option Value} {base : Heap} {k : Nat} {f : Addr} {fd : FuncData} {ps : List Str} {sp : Sp} (F : FnOk P w K mg base (L2.CX P w) k f fd ps sp) : FnOkB b P w K mg base k f fd ps sp :=
  ⟨F.len, fun A outer s H args us vs Q E _ hr => F.run A outer s H args us vs Q E hr⟩
theorem FnOkB.up {b : Bool} {P : Program} {w : World} {K : PySem.W.Frag} {mg : Str → Option Value} {base : Heap} {k : Nat} {f : Addr} {fd : FuncData} {ps : List Str} {sp : Sp} (F : FnOkB false P w K mg base k f fd ps sp) : FnOkB b P w K mg base k f fd ps sp := .of F.ok
theorem FnOkB.mono {b : Bool} {P : Program} {w : World} {K : PySem.W.Frag} {mg : Str → Option Value} {base : Heap} {j k : Nat} {f : Addr} {fd : FuncData} {ps : List Str} {sp : Sp} (F : FnOkB b P w K mg base j f fd ps sp) (h : j ≤ k) : FnOkB b P w K mg base k f fd ps sp :=
  ⟨F.len, fun A outer s H args us vs Q E g hr => F.run A outer s H args us vs Q E g (hr.mono h)⟩
theorem fn_g {gb : Bool} {x qual : Str} {st : Stmt} {f : Addr} {fd : FuncData} {N ps : List Str} {V : List Nat} {Gs : List Str} {k : Nat} {b : ES} {T : List (Addr × Str)} (Fu : Fun K x qual st f fd) (S : FnScope N ps (defScope st)) (ok : okScope (defScope st) N V Gs = true) (hn : ps.length ≤ N.length)
    (tu : ∀ p ∈ T, ∀ q ∈ T, p.1 = q.1 → p.2 = q.2) (hl : LamOk base mg T fd qual)
    (hbody : ∀ (C : GC N V Gs), C.X.prog = P → C.X.w = w → C.X.K = K → C.X.mg = mg → C.X.base = base → C.X.calm = true → C.X.stack = C.X.env :: C.X.outer → C.X.env.frame = some C.X.env.locals → C.X.ex = [] → C.X.env.qual = qual ++ ".<locals>." → C.T = T → C.gb = gb → Room k C.X.A → SSs C (defBody st) b) :
    FnOkB gb P w K mg base (k + 1) f fd ps (spF ⟨K, mg, T⟩ ps.length (runBody N.length b)) := by
  obtain ⟨oc, od, kV, doc, pm, an, cdv, ct, osl, rfl, lk, hcd⟩ := Fu.ex
  have hlen : ∀ vs H Q E, spF ⟨K, mg, T⟩ ps.length (runBody N.length b) vs H Q E → vs.length = ps.length := fun vs H Q E h => by
    obtain ⟨G, as, l, hl, _, _, _, ha, _⟩ := h
    rw [← ha.length]; exact hl
  refine ⟨hlen, fun A outer s H args us vs Q E hgd hr e0 hbt hv h => ?_⟩
  have hlv := hlen _ _ _ _ h
  refine LamX.run_ofS lk hcd S hr e0 hbt hv hlv fun hr => ?_
  · obtain ⟨G, as, l, hl', sub, gnt, tab, ha, p⟩ := h
    refine ⟨tOfS (gcDef S ok qual f cdv A outer s H E (fmOf H G as vs l) hr.units T tu hl gb hgd) b, hbody (gcDef S ok qual f cdv A outer s H E (fmOf H G as vs l) hr.units T tu hl gb hgd) rfl rfl rfl rfl rfl rfl rfl rfl rfl rfl rfl rfl hr, G, env0 N.length as, ⟨_, sim_start (by rw [hl']; exact hn) sub gnt tab ha⟩, ?_⟩
    unfold runBody at p
    revert p
    cases b (env0 N.length as) with
    | next e => exact fun p G' σ' H' g s' => p G' _ H' (exit_of ha g s') .non
    | ret d e => exact fun p G' σ' v H' g s' r => p G' v H' (exit_of ha g s') r
    | retO o e =>
      intro p G' σ' v H' g s'
      obtain ⟨fp, f', sf, ow, hf⟩ := s'
      obtain ⟨a, rfl, rfl, hna⟩ := ow.at
      obtain ⟨h1, h2, h3⟩ := hf a (by simp)
      exact p G' _ H' a (exit_of ha g ⟨fp, sf⟩) rfl ow h1 h2
    | exc x e => exact fun p G' σ' H' cls d g s' r => p G' H' cls d (exit_of ha g s') r
    | bad => exact fun p => p
end
end Cs

set_option maxRecDepth 100000
set_option maxHeartbeats 4000000
namespace Cs
open PySem L2

/-! ## calls -/
def slotsOf : List Rd → List Nat
  | [] => []
  | .slot i :: r => i :: slotsOf r
  | _ :: r => slotsOf r
/-- arguments by content, as they stand -/
def argsOf (e : Env) : List Rd → Option (List SV)
  | [] => some []
  | .val d :: r => (argsOf e r).map (.val d :: ·)
  | .slot i :: r => match e[i]? with
    | some (some (.own o)) => (argsOf e r).map (.bor o :: ·)
    | some (some (.bor o)) => (argsOf e r).map (.bor o :: ·)
    | _ => none
def osets : List Nat → List OO → Env → Option Env
  | [], [], e => some e
  | k :: ks, o :: os, e => match oset k o e with
    | .ok _ e' => osets ks os e'
    | _ => none
  | _, _, _ => none

def setK (sv : Option SV) (o : OO) : Option SV := match sv with
  | some (.own _) => some (.own o)
  | some (.bor _) => some (.bor o)
  | s => s
theorem oset_some {k : Nat} {o : OO} {e e' : Env} {u : Unit} (h : oset k o e = .ok u e') : e' = e.set k (setK (e.getD k none) o) ∧ (∃ o0, e.getD k none = some (.own o0) ∨ e.getD k none = some (.bor o0)) := by
  unfold oset at h
  split at h
  · rename_i q; cases h; rw [getD_of q]; exact ⟨rfl, _, .inl rfl⟩
  · rename_i q; cases h; rw [getD_of q]; exact ⟨rfl, _, .inr rfl⟩
  · cases h
theorem osets_shape : ∀ {ks : List Nat} {os : List OO} {e e' : Env}, osets ks os e = some e' → ks.Nodup → e'.length = e.length ∧ (∀ j, j ∉ ks → e'.getD j none = e.getD j none) ∧
    Paired (fun k o => e'.getD k none = setK (e.getD k none) o) ks os
  | [], [], e, e', h, _ => by cases h; exact ⟨rfl, fun _ _ => rfl, .nil⟩
  | [], _ :: _, e, e', h, _ => by cases h
  | _ :: _, [], e, e', h, _ => by cases h
  | k :: ks, o :: os, e, e', h, nd => by
    unfold osets at h
    split at h
    · rename_i u e1 q
      obtain ⟨he, o0, ho⟩ := oset_some q
      obtain ⟨nk, nd⟩ := List.nodup_cons.mp nd
      obtain ⟨h1, h2, h3⟩ := osets_shape h nd
      have hk : k < e.length := by
        rcases ho with z | z <;> exact lt_of_get (get_of_getD z)
      subst he
      refine ⟨by rw [h1]; simp, fun j hj => ?_, ?_⟩
      · rw [h2 j (fun z => hj (List.mem_cons_of_mem _ z)), getD_set_ne (fun z => hj (by rw [z]; simp))]
      · refine .cons ?_ ?_
        · rw [h2 k nk, getD_set_eq hk]
        · have aux : ∀ {ls : List Nat} {os : List OO}, (∀ x ∈ ls, x ≠ k) → Paired (fun k' o' => e'.getD k' none = setK ((e.set k (setK (e.getD k none) o)).getD k' none) o') ls os → Paired (fun k' o' => e'.getD k' none = setK (e.getD k' none) o') ls os := by
            intro ls os hl hp
            induction hp with
            | nil => exact .nil
            | cons a t ih =>
              rw [getD_set_ne (hl _ (by simp))] at a
              exact .cons a (ih fun x hx => hl x (List.mem_cons_of_mem _ hx))
          exact aux (fun x hx z => nk (z ▸ hx)) h3
    · cases h

/-- the slots ks hold objects at the addresses l -/
theorem SimF.after {M : Mdl} {F : Fm} {G G' H H' : Hp} {e e' : Env} {σ : St} {fp : Nat → List Addr} {ks : List Nat} {l : List Addr} {os : List OO} (s : SimF M F G e σ H fp) (nd : ks.Nodup) (hk : Paired (fun k a => fp k = [a] ∧ σ.getD k none = some (.ref a) ∧ ∃ o0, e.getD k none = some (.own o0) ∨ e.getD k none = some (.bor o0)) ks l)
    (x : Exit M G H G' H' l os) (q : osets ks os e = some e') : SimF M F G' e' σ H' fp := by
  obtain ⟨h1, h2, h3⟩ := osets_shape q nd
  have memL : ∀ a, a ∈ l → ∃ k, k ∈ ks ∧ fp k = [a] := by
    intro a ha
    clear q h2 h3 nd x
    induction hk with
    | nil => cases ha
    | cons p t ih =>
      rcases List.mem_cons.mp ha with rfl | ha
      · exact ⟨_, by simp, p.1⟩
      · obtain ⟨k, y, z⟩ := ih ha
        exact ⟨k, List.mem_cons_of_mem _ y, z⟩
  have three : ∀ k, k ∈ ks → ∃ a o, fp k = [a] ∧ σ.getD k none = some (.ref a) ∧ (∃ o0, e.getD k none = some (.own o0) ∨ e.getD k none = some (.bor o0)) ∧ e'.getD k none = setK (e.getD k none) o ∧ OwnAt M G' H' o (.ref a) [a] ∧ G' a = none := by
    have ios := x.ios
    intro k hk'
    clear q h2 nd x memL
    induction hk generalizing os with
    | nil => cases hk'
    | cons p t ih =>
      cases ios with
      | cons io iot =>
        cases h3 with
        | cons c ct =>
          rcases List.mem_cons.mp hk' with rfl | hk'
          · exact ⟨_, _, p.1, p.2.1, p.2.2, c, io.1, io.2⟩
          · exact ih ct iot hk'
  have kind : ∀ j, IsBor (e.getD j none) ↔ IsBor (e'.getD j none) := fun j => by
    by_cases hj : j ∈ ks
    · obtain ⟨a, o, _, _, ⟨o0, z⟩, hc, _⟩ := three j hj
      rw [hc]
      rcases z with z | z <;> rw [z] <;> exact Iff.rfl
    · rw [h2 j hj]
  have lent : ∀ j, IsLent (e.getD j none) → IsLent (e'.getD j none) := fun j h => by
    by_cases hj : j ∈ ks
    · obtain ⟨a, o, _, _, ⟨o0, z⟩, hc, _⟩ := three j hj
      rw [hc]
      rcases z with z | z <;> rw [z] at h ⊢ <;> exact h
    · rw [h2 j hj]; exact h
  have notL : ∀ j a, j ∉ ks → a ∈ fp j → a ∉ l := fun j a hj m ha => by
    obtain ⟨k, hk', hf⟩ := memL a ha
    exact s.dj j k a (fun z => hj (z ▸ hk')) m (by rw [hf]; simp)
  exact {
    len := by rw [h1]; exact s.len
    sub := x.sub
    low := s.low.trans x.ge
    hnt := s.hnt
    frm := fun a o ha n => x.frm a o (s.frm a o ha n) (fun hl => by
      obtain ⟨k, hk', hf⟩ := memL a hl
      rcases (s.own k a (by rw [hf]; simp)).2 with z | ⟨z, _⟩
      · rw [z] at ha; cases ha
      · exact n z) (s.hnt a o ha)
    gnt := x.gnt
    tab := x.tab
    dom := fun a ha => x.dom a (s.dom a ha)
    new := fun a ha => by
      rcases x.new a ha with z | z
      · exact s.new a z
      · refine .inr ?_
        cases q : F.H0 a with
        | none => rfl
        | some u => exact absurd z (s.dom a (by rw [q]; simp))
    at_ := fun j => by
      by_cases hj : j ∈ ks
      · obtain ⟨a, o, hf, hσ, ⟨o0, z⟩, hc, ow, _⟩ := three j hj
        rw [hc, hσ, hf]
        rcases z with z | z <;> (rw [z]; exact ⟨_, rfl, ow⟩)
      · rw [h2 j hj]
        refine (s.at_ j).mono x.ge fun a m => ?_
        obtain ⟨u, q, n⟩ := (s.at_ j).kind m
        rw [q]; exact x.frm a u q (notL j a hj m) (ownk_ist n)
    dj := s.dj
    own := fun j a m => by
      by_cases hj : j ∈ ks
      · obtain ⟨a', o, hf, hσ, _, hc, ow, hg⟩ := three j hj
        have : a = a' := by rw [hf] at m; simpa using m
        subst this
        refine ⟨hg, ?_⟩
        rcases (s.own j a m).2 with z | ⟨z, y⟩
        · exact .inl z
        · exact .inr ⟨z, (kind j).mp y⟩
      · refine ⟨?_, ?_⟩
        · cases q : G' a with
          | none => rfl
          | some u =>
            rcases x.new a (by rw [q]; simp) with z | z
            · exact absurd (s.own j a m).1 z
            · obtain ⟨w, hw, n⟩ := (s.at_ j).kind m
              rw [nt_of hw (ownk_ist n)] at z; cases z
        · rw [h2 j hj]; exact (s.own j a m).2
    bor := fun p hp => by
      obtain ⟨a, b⟩ := s.bor p hp
      exact ⟨lent p.1 a, b⟩
    pnt := s.pnt
    pin := fun p hp => by
      obtain ⟨a, b⟩ := s.pin p hp
      refine ⟨?_, b⟩
      rw [h2 p.1 fun hj => ?_]; exact a
      obtain ⟨_, _, _, _, ⟨o0, z⟩, _⟩ := three p.1 hj
      rw [a] at z; rcases z with z | z <;> cases z
    kep := fun p hp => by
      obtain ⟨a, b, c⟩ := s.kep p hp
      refine ⟨x.frm _ _ a (fun hl => ?_) b, b, c⟩
      obtain ⟨k, hk', hf⟩ := memL _ hl
      obtain ⟨u, q, n⟩ := (s.at_ k).kind (a := p.1) (by rw [hf]; simp)
      rw [a] at q; cases q; rw [c] at n; cases n
    pro := fun p hp => by
      obtain ⟨a, b, c⟩ := s.pro p hp
      refine ⟨x.frm _ _ a (fun hl => ?_) (s.pnt p hp), ?_, c⟩
      · obtain ⟨k, hk', hf⟩ := memL _ hl
        exact c k (by rw [hf]; simp)
      · cases q : G' p.1 with
        | none => rfl
        | some u =>
          rcases x.new p.1 (by rw [q]; simp) with z | z
          · exact absurd b z
          · rw [nt_of a (s.pnt p hp)] at z; cases z }

section
variable {N : List Str} {V : List Nat} {Gs : List Str} {C : GC N V Gs}
theorem args_at {σ : L2.St} {G H : Hp} {e : Env} {fp : Nat → List Addr} (s : SimF C.M C.F G e σ H fp) : ∀ {vs : List L2.V} {rs : List Rd} {as : List SV}, RepBs C σ G vs rs → argsOf e rs = some as → (slotsOf rs).Nodup →
    ∃ l, ArgsAt C.M G H as vs l ∧ Paired (fun k a => fp k = [a] ∧ σ.getD k none = some (.ref a) ∧ ∃ o0, e.getD k none = some (.own o0) ∨ e.getD k none = some (.bor o0)) (slotsOf rs) l ∧ (∀ a ∈ l, ∃ k ∈ slotsOf rs, fp k = [a])
  | _, _, _, .nil, q, _ => by cases q; exact ⟨[], .nil, .nil, fun a m => by cases m⟩
  | _, .val d :: rs, _, .cons h t, q, nd => by
    unfold argsOf at q
    cases q1 : argsOf e rs with
    | none => rw [q1] at q; cases q
    | some as =>
      rw [q1] at q; cases q
      obtain ⟨l, h1, h2, h3⟩ := args_at s t q1 nd
      exact ⟨l, .val h h1, h2, h3⟩
  | _, .slot i :: rs, _, @RepBs.cons _ _ _ _ _ _ v _ vs' _ h t, q, nd => by
    obtain ⟨ni, nd⟩ := List.nodup_cons.mp nd
    have key : ∀ o as, (e[i]? = some (some (.own o)) ∨ e[i]? = some (some (.bor o))) → argsOf e rs = some as → ∃ l, ArgsAt C.M G H (.bor o :: as) (v :: vs') l ∧ Paired (fun k a => fp k = [a] ∧ σ.getD k none = some (.ref a) ∧ ∃ o0, e.getD k none = some (.own o0) ∨ e.getD k none = some (.bor o0)) (i :: slotsOf rs) l ∧ (∀ a ∈ l, ∃ k ∈ i :: slotsOf rs, fp k = [a]) := by
      intro o as ho q1
      obtain ⟨l, h1, h2, h3⟩ := args_at s t q1 nd
      obtain ⟨v', hv', ow⟩ := s.obj ho
      have hh : σ[i]? = some (some v) := h
      have : v' = v := by rw [hv'] at hh; exact Option.some.inj (Option.some.inj hh)
      subst this
      obtain ⟨a, rfl, hf, hn⟩ := ow.at
      have hga := (s.own i a (by rw [hf]; simp)).1
      rw [hf] at ow
      refine ⟨a :: l, .bor ow hga (fun m => ?_) h1, .cons ⟨hf, getD_of hv', o, ?_⟩ h2, fun b m => ?_⟩
      · obtain ⟨k, hk, hfk⟩ := h3 a m
        exact s.dj k i a (fun z => ni (z ▸ hk)) (by rw [hfk]; simp) (by rw [hf]; simp)
      · rcases ho with ho | ho
        · exact .inl (getD_of ho)
        · exact .inr (getD_of ho)
      · rcases List.mem_cons.mp m with rfl | m
        · exact ⟨i, by simp, hf⟩
        · obtain ⟨k, hk, hfk⟩ := h3 b m
          exact ⟨k, List.mem_cons_of_mem _ hk, hfk⟩
    unfold argsOf at q
    split at q
    · rename_i o ho
      cases q1 : argsOf e rs with
      | none => rw [q1] at q; cases q
      | some as => rw [q1] at q; cases q; exact key o as (.inl ho) q1
    · rename_i o ho
      cases q1 : argsOf e rs with
      | none => rw [q1] at q; cases q
      | some as => rw [q1] at q; cases q; exact key o as (.inr ho) q1
    · cases q

/-- a call of a def, by content -/
def callK {α : Type} (n : Nat) (f : List SV → FR) (kv : D → EM α) (ko : OO → EM α) (rs : List Rd) : EM α := fun e =>
  if rs.length = n ∧ (slotsOf rs).Nodup then
    match argsOf e rs with
    | some as => match f as with
      | .val d os => match osets (slotsOf rs) os e with
        | some e' => kv d e'
        | none => .bad
      | .own o os => match osets (slotsOf rs) os e with
        | some e' => ko o e'
        | none => .bad
      | .exc x os => match osets (slotsOf rs) os e with
        | some e' => .exc x e'
        | none => .bad
      | .bad => .bad
    | none => .bad
  else .bad
def eFn (n : Nat) (f : List SV → FR) (fa : EM (List Rd)) : EM D := bnd fa (callK n f ret fun o => ret o.fr)
def oFn (n : Nat) (f : List SV → FR) (fa : EM (List Rd)) : EM OO := bnd fa (callK n f (fun _ => fail) ret)

theorem RepBs.length {σ : L2.St} {G : Hp} : ∀ {vs : List L2.V} {rs : List Rd}, RepBs C σ G vs rs → vs.length = rs.length
  | _, _, .nil => rfl
  | _, _, .cons _ t => by rw [List.length_cons, List.length_cons, t.length]
theorem eFn_run {f : List SV → FR} {fa : EM (List Rd)} {n : Nat} (σ : L2.St) (H : Hp) (Q : VK) (t : tOf (Rep C.M) C (eFn n f fa) σ H Q) :
    tCallSD (spF C.M n f) [] (fun σ => WE C.W σ) (fun σ H Q => tOf (RepBs C σ) C fa σ H Q) σ H Q := by
  obtain ⟨G, e, s0, p0⟩ := t
  unfold eFn bnd at p0
  refine ⟨G, e, s0, ?_⟩
  revert p0
  cases q0 : fa e with
  | bad => exact id
  | exc x e1 => exact id
  | ok rs e1 =>
    intro p0 G1 vs H1 g1 s1 r1
    have p1 : Post (Rep C.M) C G (callK n f ret (fun o => ret o.fr) rs e1) σ Q := p0
    have p1 := p1.mono g1
    unfold callK at p1
    split at p1
    · rename_i nd
      split at p1
      · rename_i as qa
        obtain ⟨fp, sf⟩ := id s1
        obtain ⟨l, h1, h2, h3⟩ := args_at sf r1 qa nd.2
        rw [List.append_nil]
        refine ⟨G1, as, l, ?_, s1.sub, sf.gnt, sf.tab, h1, ?_⟩
        · rw [h1.length, r1.length]; exact nd.1
        · split at p1
          · rename_i d os qf
            (try rw [qf])
            intro G' v H' x r
            split at p1
            · rename_i e' qe
              exact p1 G' v H' x.ge ⟨fp, sf.after nd.2 h2 x qe⟩ r
            · exact p1.elim
          · rename_i o os qf
            (try rw [qf])
            intro G' v H' a x hv ow hga hna
            split at p1
            · rename_i e' qe
              have s2 := sf.after nd.2 h2 x qe
              have so : SimO C.M C.F G' e' σ H' o v := by
                subst hv
                refine ⟨fp, [a], s2, ow, fun b m => ?_⟩
                have : b = a := by simpa using m
                subst this
                refine ⟨hga, ?_, fun j m' => ?_, fun p hp z => by have := nt_of (sf.pro p hp).1 (sf.pnt p hp); rw [z, hna] at this; cases this⟩
                · cases q : C.F.H0 b with
                  | none => rfl
                  | some u => exact absurd hna (sf.dom b (by rw [q]; simp))
                · obtain ⟨w, hw, n⟩ := (sf.at_ j).kind m'; rw [nt_of hw (ownk_ist n)] at hna; cases hna
              obtain ⟨G2, g2, s3, r⟩ := so.freeze
              exact p1 G2 v H' (x.ge.trans g2) s3 r
            · exact p1.elim
          · rename_i xv os qf
            (try rw [qf])
            intro G' H' cls d x r
            split at p1
            · rename_i e' qe
              exact p1 G' H' cls d x.ge ⟨fp, sf.after nd.2 h2 x qe⟩ r
            · exact p1.elim
          · exact p1.elim
      · exact p1.elim
    · exact p1.elim
theorem oFn_run {f : List SV → FR} {fa : EM (List Rd)} {n : Nat} (σ : L2.St) (H : Hp) (Q : VK) (t : tOfO C (oFn n f fa) σ H Q) :
    tCallSD (spF C.M n f) [] (fun σ => WE C.W σ) (fun σ H Q => tOf (RepBs C σ) C fa σ H Q) σ H Q := by
  obtain ⟨G, e, s0, p0⟩ := t
  unfold oFn bnd at p0
  refine ⟨G, e, s0, ?_⟩
  revert p0
  cases q0 : fa e with
  | bad => exact id
  | exc x e1 => exact id
  | ok rs e1 =>
    intro p0 G1 vs H1 g1 s1 r1
    have p1 : PostO C G (callK n f (fun _ => fail) ret rs e1) σ Q := p0
    have p1 := p1.mono g1
    unfold callK at p1
    split at p1
    · rename_i nd
      split at p1
      · rename_i as qa
        obtain ⟨fp, sf⟩ := id s1
        obtain ⟨l, h1, h2, h3⟩ := args_at sf r1 qa nd.2
        rw [List.append_nil]
        refine ⟨G1, as, l, by rw [h1.length, r1.length]; exact nd.1, s1.sub, sf.gnt, sf.tab, h1, ?_⟩
        split at p1
        · rename_i d os qf
          split at p1
          · exact p1.elim
          · exact p1.elim
        · rename_i o os qf
          (try rw [qf])
          intro G' v H' a x hv ow hga hna
          split at p1
          · rename_i e' qe
            have s2 := sf.after nd.2 h2 x qe
            have so : SimO C.M C.F G' e' σ H' o v := by
              subst hv
              refine ⟨fp, [a], s2, ow, fun b m => ?_⟩
              have : b = a := by simpa using m
              subst this
              refine ⟨hga, ?_, fun j m' => ?_, fun p hp z => by have := nt_of (sf.pro p hp).1 (sf.pnt p hp); rw [z, hna] at this; cases this⟩
              · cases q : C.F.H0 b with
                | none => rfl
                | some u => exact absurd hna (sf.dom b (by rw [q]; simp))
              · obtain ⟨w, hw, n⟩ := (sf.at_ j).kind m'; rw [nt_of hw (ownk_ist n)] at hna; cases hna
            exact p1 G' v H' x.ge so
          · exact p1.elim
        · rename_i xv os qf
          (try rw [qf])
          intro G' H' cls d x r
          split at p1
          · rename_i e' qe
            exact p1 G' H' cls d x.ge ⟨fp, sf.after nd.2 h2 x qe⟩ r
          · exact p1.elim
        · exact p1.elim
      · exact p1.elim
    · exact p1.elim

theorem run_fnB {gb : Bool} {X : Cx} {k : Nat} {f : Addr} {fd : FuncData} {ps : List Str} {sp : Sp} {E : L2.St → XK} {pins : List (Addr × Obj)} {σ : L2.St} {H : Hp} {s : Shared} {Q : VK} {us : List Value} {vs : List L2.V} (F : FnOkB gb X.prog X.w X.K X.mg X.base k f fd ps sp) (hg : gb = true → X.A.guards = some []) (hr : Room k X.A) (hb : Binds X.K fd ps []) (hx : PassesAt (L2.CX X.prog X.w) X σ (E σ))
    (I : L2.Inv X pins σ H s) (r : Vals vs us) (h : sp (vs ++ []) H Q (E σ)) : wpAny (model X.prog X.w) X.A (call (.ref f) us) (EP X pins σ Q) X.xe s := by
  rw [List.append_nil] at h
  have hb' := hb s us I.kIn (by rw [List.append_nil, ← r.length]; exact F.len _ _ _ _ h)
  rw [List.append_nil] at hb'
  refine wpAny_call (codeAny_mono (F.run X.A X.stack s H ⟨us, []⟩ us vs Q (E σ) hg hr I.env0 hb' r h) fun r s' hq => ?_)
  cases r with
  | error e => exact hx pins H s e s' I hq
  | ok fl =>
    cases fl with
    | ret u => exact I.after hq
    | next => exact False.elim hq
    | brk => exact False.elim hq
    | cont => exact False.elim hq
theorem pe_callB1 {gb : Bool} {X : Cx} {k : Nat} {f : Addr} {fd : FuncData} {ps : List Str} {sp : Sp} {E : L2.St → XK} {x : Str} {e : Expr} {es : List Expr} {p pos : Pos} {t : TA} (F : FnOkB gb X.prog X.w X.K X.mg X.base k f fd ps sp) (hgd : gb = true → X.A.guards = some []) (hr : Room k X.A) (hg : Gl X x) (hm : X.mg x = some (.ref f)) (hk : PySem.W.keepIn X.K (.ref f) = true) (hb : Binds X.K fd ps []) (hx : ∀ σ, PassesAt (L2.CX X.prog X.w) X σ (E σ))
    (ha : PA X (e :: es) t) (hdb : (x == ("__debug__" : Str)) = false) (he : starEach (e :: es) X.env = (false, eval e X.env) :: starEach es X.env) (hpl : (backTo pos (starEach es X.env)).any (·.1) = false) :
    PE X (.Call (.Name x p) (e :: es) [] pos) (tCallSD sp [] E t) := by
  refine ⟨fun pins s σ H Q I h => wpAny_Call_Name_kw (ld_glob I hg hm ?_ hdb)⟩
  exact PySem.W.callWith_K (h₀ := X.base) I.ok.mod.kin hk (thn (ha.run pos pins s σ H _ I h) fun us s1 ⟨vs, H1, I1, r, q⟩ => ⟨I1.kIn, run_fnB F hgd hr hb (hx σ) I1 r q⟩) he hpl
/-- a def as it stands for callers -/
structure FnAt (C : GC N V Gs) (k : Nat) (x : Str) (n : Nat) (f : List SV → FR) : Prop where
  ex : ∃ (fa : Addr) (fd : FuncData) (ps : List Str), FnOkB C.gb C.X.prog C.X.w C.X.K C.X.mg C.X.base k fa fd ps (spF C.M n f) ∧ C.X.mg x = some (.ref fa) ∧ PySem.W.keepIn C.X.K (.ref fa) = true ∧ Binds C.X.K fd ps []
theorem d_fn {k n : Nat} {x : Str} {f : List SV → FR} {a : Expr} {es : List Expr} {p pos : Pos} {fa : EM (List Rd)} (F : FnAt C k x n f) (hr : Room k C.X.A) (j : Nat) (ha : SAB C (a :: es) fa) (hg : Gs[j]? = some x := by rfl)
    (hdb : (x == ("__debug__" : Str)) = false := by decide +kernel) (he : starEach (a :: es) C.X.env = (false, eval a C.X.env) :: starEach es C.X.env := by rfl) (hpl : (backTo pos (starEach es C.X.env)).any (·.1) = false := by rfl) :
    SE C (.Call (.Name x p) (a :: es) [] pos) (eFn n f fa) := by
  obtain ⟨fd, fda, ps, h, hm, hk, hb⟩ := F.ex
  exact (pe_callB1 h C.gd hr (C.gl j _ hg) hm hk hb (fun σ => passAt C.tk σ) ha hdb he hpl).imp fun σ H Q t => eFn_run σ H Q t
theorem o_fn {k n : Nat} {x : Str} {f : List SV → FR} {a : Expr} {es : List Expr} {p pos : Pos} {fa : EM (List Rd)} (F : FnAt C k x n f) (hr : Room k C.X.A) (j : Nat) (ha : SAB C (a :: es) fa) (hg : Gs[j]? = some x := by rfl)
    (hdb : (x == ("__debug__" : Str)) = false := by decide +kernel) (he : starEach (a :: es) C.X.env = (false, eval a C.X.env) :: starEach es C.X.env := by rfl) (hpl : (backTo pos (starEach es C.X.env)).any (·.1) = false := by rfl) :
    SO C (.Call (.Name x p) (a :: es) [] pos) (oFn n f fa) := by
  obtain ⟨fd, fda, ps, h, hm, hk, hb⟩ := F.ex
  exact (pe_callB1 h C.gd hr (C.gl j _ hg) hm hk hb (fun σ => passAt C.tk σ) ha hdb he hpl).imp fun σ H Q t => oFn_run σ H Q t
theorem pe_callB0 {gb : Bool} {X : Cx} {k : Nat} {f : Addr} {fd : FuncData} {ps : List Str} {sp : Sp} {E : L2.St → XK} {x : Str} {p pos : Pos} (F : FnOkB gb X.prog X.w X.K X.mg X.base k f fd ps sp) (hgd : gb = true → X.A.guards = some []) (hr : Room k X.A) (hg : Gl X x) (hm : X.mg x = some (.ref f)) (hk : PySem.W.keepIn X.K (.ref f) = true) (hb : Binds X.K fd ps []) (hx : ∀ σ, PassesAt (L2.CX X.prog X.w) X σ (E σ))
    (hdb : (x == ("__debug__" : Str)) = false) : PE X (.Call (.Name x p) [] [] pos) (tCallSD sp [] E tNil) :=
  ⟨fun pins s σ H Q I h => wpAny_Call_Name_kw (ld_glob I hg hm (PySem.W.callWith_K0 I.kIn hk (run_fnB (us := []) F hgd hr hb (hx σ) I .nil h)) hdb)⟩
theorem d_fn0 {k n : Nat} {x : Str} {f : List SV → FR} {p pos : Pos} (F : FnAt C k x n f) (hr : Room k C.X.A) (j : Nat) (hg : Gs[j]? = some x := by rfl)
    (hdb : (x == ("__debug__" : Str)) = false := by decide +kernel) : SE C (.Call (.Name x p) [] [] pos) (eFn n f bNil) := by
  obtain ⟨fd, fda, ps, h, hm, hk, hb⟩ := F.ex
  refine (pe_callB0 h C.gd hr (C.gl j _ hg) hm hk hb (fun σ => passAt C.tk σ) hdb).imp fun σ H Q t => ?_
  have k := eFn_run σ H Q t
  obtain ⟨G, e, s, p⟩ := k
  exact p G [] H (GE.refl _) s .nil
end
end Cs

set_option maxRecDepth 100000
set_option maxHeartbeats 4000000
namespace Cs
open PySem L2
section
variable {N : List Str} {V : List Nat} {Gs : List Str} {C : GC N V Gs}

/-! ## methods that change a slot's list -/
theorem d_mut {id name : String} {r : L2.V → List L2.V → Hp → VK → Prop} {op : List D → List D → Option (D × List D)} {nm : Str} (hs : Slot "list" nm id) (ht : typeOf (Value.builtin id) = pure (.type "method_descriptor")) (hr : MtR C.X id r) (mu : MutL r op)
    (i : Nat) {x : Str} {a : Expr} {es : List Expr} {p apos cpos : Pos} {fa : EM (List D)} (ha : SA C (a :: es) fa) (hN : N[i]? = some x := by rfl) (hV : V[i]? = some 1 ∨ V[i]? = some 2 ∨ V[i]? = some 3 := by first | exact .inr (.inl rfl) | exact .inl rfl | exact .inr (.inr rfl))
    (hd : (x == ("__debug__" : Str)) = false := by decide +kernel) (hcd : (x == ("__classdict__" : Str)) = false := by decide +kernel)
    (h1 : attributeBase (.Name x p) nm C.X.env (eval (.Name x p) C.X.env) = eval (.Name x p) C.X.env := by rfl)
    (h2 : (((((backTo cpos (starEach (a :: es) C.X.env)).all fun x => !x.fst) && (backToKw cpos (keywordEach [] C.X.env)).all fun x => x.fst.isSome) && decide (((a :: es).length + ([] : List Keyword).length + if ([] : List Keyword).isEmpty = true then 0 else 1) < 30)) = true) := by rfl)
    (h3 : (apos.endLine == cpos.line) = true := by rfl) (h4 : starEach (a :: es) C.X.env = (false, eval a C.X.env) :: starEach es C.X.env := by rfl) (h5 : ((backTo cpos (starEach es C.X.env)).any fun x => x.fst) = false := by rfl) :
    SE C (.Call (.Attribute (.Name x p) nm apos) (a :: es) [] cpos) (eMutL i fa op) :=
  (pe_bm PySem.F.plainAttrs_list hs ht hr (pe_var (i := i) (by rw [C.hN]; exact hN) (C.vis i x hN hV) hd hcd) ha h1 h2 h3 h4 h5).imp fun σ H Q t => eMutL_run (x := x) mu σ H Q t
theorem d_mut0 {id name : String} {r : L2.V → List L2.V → Hp → VK → Prop} {op : List D → List D → Option (D × List D)} {nm : Str} (hs : Slot "list" nm id) (ht : typeOf (Value.builtin id) = pure (.type "method_descriptor")) (hr : MtR C.X id r) (mu : MutL r op)
    (i : Nat) {x : Str} {p apos cpos : Pos} (hN : N[i]? = some x := by rfl) (hV : V[i]? = some 1 ∨ V[i]? = some 2 ∨ V[i]? = some 3 := by first | exact .inr (.inl rfl) | exact .inl rfl | exact .inr (.inr rfl))
    (hd : (x == ("__debug__" : Str)) = false := by decide +kernel) (hcd : (x == ("__classdict__" : Str)) = false := by decide +kernel)
    (h1 : attributeBase (.Name x p) nm C.X.env (eval (.Name x p) C.X.env) = eval (.Name x p) C.X.env := by rfl) (h3 : (apos.endLine == cpos.line) = true := by rfl) :
    SE C (.Call (.Attribute (.Name x p) nm apos) [] [] cpos) (eMutL i aNil op) :=
  (pe_bm0 PySem.F.plainAttrs_list hs ht hr (pe_var (i := i) (by rw [C.hN]; exact hN) (C.vis i x hN hV) hd hcd) h1 h3).imp fun σ H Q t => by
    obtain ⟨v, hv, ty, k⟩ := eMutL_run (fa := aNil) (x := x) mu σ H Q t
    obtain ⟨G, e, s, p⟩ := k
    exact ⟨v, hv, ty, p G [] H (GE.refl _) s .nil⟩
section
variable {x : Str} {a : Expr} {p apos cpos : Pos} {fa : EM (List D)}
theorem d_append (i : Nat) (ha : SA C [a] fa) (hN : N[i]? = some x := by rfl) (hV : V[i]? = some 1 ∨ V[i]? = some 2 ∨ V[i]? = some 3 := by first | exact .inr (.inl rfl) | exact .inl rfl | exact .inr (.inr rfl))
    (hd : (x == ("__debug__" : Str)) = false := by decide +kernel) (hcd : (x == ("__classdict__" : Str)) = false := by decide +kernel) (h3 : (apos.endLine == cpos.line) = true := by rfl) (h4 : starEach [a] C.X.env = (false, eval a C.X.env) :: starEach [] C.X.env := by rfl) :
    SE C (.Call (.Attribute (.Name x p) "append" apos) [a] [] cpos) (eMutL i fa appendL) :=
  d_mut (name := "append") PySem.F.slot_list_append PySem.F.type_list_append mt_append mu_append i ha hN hV hd hcd rfl (by rw [h4]; rfl) h3 h4 rfl
theorem d_extend (i : Nat) (ha : SA C [a] fa) (hN : N[i]? = some x := by rfl) (hV : V[i]? = some 1 ∨ V[i]? = some 2 ∨ V[i]? = some 3 := by first | exact .inr (.inl rfl) | exact .inl rfl | exact .inr (.inr rfl))
    (hd : (x == ("__debug__" : Str)) = false := by decide +kernel) (hcd : (x == ("__classdict__" : Str)) = false := by decide +kernel) (h3 : (apos.endLine == cpos.line) = true := by rfl) (h4 : starEach [a] C.X.env = (false, eval a C.X.env) :: starEach [] C.X.env := by rfl) :
    SE C (.Call (.Attribute (.Name x p) "extend" apos) [a] [] cpos) (eMutL i fa extendL) :=
  d_mut (name := "extend") PySem.F.slot_list_extend PySem.F.type_list_extend mt_extend mu_extend i ha hN hV hd hcd rfl (by rw [h4]; rfl) h3 h4 rfl
theorem d_pop (i : Nat) (hN : N[i]? = some x := by rfl) (hV : V[i]? = some 1 ∨ V[i]? = some 2 ∨ V[i]? = some 3 := by first | exact .inr (.inl rfl) | exact .inl rfl | exact .inr (.inr rfl))
    (hd : (x == ("__debug__" : Str)) = false := by decide +kernel) (hcd : (x == ("__classdict__" : Str)) = false := by decide +kernel) (h3 : (apos.endLine == cpos.line) = true := by rfl) :
    SE C (.Call (.Attribute (.Name x p) "pop" apos) [] [] cpos) (eMutL i aNil popL) :=
  d_mut0 (name := "pop") PySem.F.slot_list_pop PySem.F.type_list_pop mt_pop mu_pop i hN hV hd hcd rfl h3
/-- pop at a place -/
def popAtL : List D → List D → Option (D × List D) := fun ds as => match as with
  | [.int k] => if -(2 ^ 63) ≤ k ∧ k < 2 ^ 63 then match seqIndex? k ds.length with
    | some j => (ds[j]?).map fun d => (d, ds.eraseIdx j)
    | none => none
    else none
  | _ => none
end
theorem Reps.eraseIdx {M : Mdl} {G : Hp} : ∀ {vs : List L2.V} {ds : List D}, Reps M G vs ds → ∀ j, Reps M G (vs.eraseIdx j) (ds.eraseIdx j)
  | _, _, .nil, j => .nil
  | _, _, .cons h r, 0 => r
  | _, _, .cons h r, j + 1 => .cons h (Reps.eraseIdx r j)
theorem mu_popAt : MutL rPopAt popAtL := by
  intro M G H a vs ws ds as ds' d Q s h ha rv rw k
  unfold popAtL at h
  split at h
  · split at h
    · rename_i hz
      split at h
      · rename_i j hj
        cases q : ds[j]? with
        | none => rw [q] at h; cases h
        | some y =>
          rw [q] at h; cases h
          cases rw with
          | cons r1 r2 =>
            cases r2
            obtain ⟨v, hv, ry⟩ := rv.get q
            exact ⟨a, vs, _, j, v, rfl, by rw [r1.intV], ha, hz.1, hz.2, by rw [rv.length]; exact hj, hv, k _ _ ry (rv.eraseIdx j)⟩
      · cases h
    · cases h
  · cases h
theorem d_popAt (i : Nat) {x : Str} {a : Expr} {p apos cpos : Pos} {fa : EM (List D)} (ha : SA C [a] fa) (hN : N[i]? = some x := by rfl) (hV : V[i]? = some 1 ∨ V[i]? = some 2 ∨ V[i]? = some 3 := by first | exact .inr (.inl rfl) | exact .inl rfl | exact .inr (.inr rfl))
    (hd : (x == ("__debug__" : Str)) = false := by decide +kernel) (hcd : (x == ("__classdict__" : Str)) = false := by decide +kernel) (h3 : (apos.endLine == cpos.line) = true := by rfl) (h4 : starEach [a] C.X.env = (false, eval a C.X.env) :: starEach [] C.X.env := by rfl) :
    SE C (.Call (.Attribute (.Name x p) "pop" apos) [a] [] cpos) (eMutL i fa popAtL) :=
  d_mut (name := "pop") PySem.F.slot_list_pop PySem.F.type_list_pop mt_popAt mu_popAt i ha hN hV hd hcd rfl (by rw [h4]; rfl) h3 h4 rfl

/-! x[k] = v, a slot's list -/
def setL (ds : List D) (k d : D) : Option (List D) := match k with
  | .int k => (ixN ds.length k).map fun j => ds.set j d
  | _ => none
def gSetL (i : Nat) (fk : EM D) (d : D) : EM Unit :=
  bnd (olst i) fun _ => bnd fk fun k => bnd (olst i) fun ds => bnd (ofO (setL ds k d)) fun ds' => oset i (.lst ds')
theorem Run.bindT {α β : Type} {rep : Hp → β → α → Prop} {f : EM α} {k : α → EM Unit} {G : Hp} {e : Env} {σ : L2.St} {H : Hp} {Q : L2.St → Hp → Prop} (s : Sim C.M C.F G e σ H)
    (p : PostT C G (bnd f k e) Q) : tOf rep C f σ H (fun x H1 => ∃ a G1 e1, GE G G1 ∧ rep G1 x a ∧ Sim C.M C.F G1 e1 σ H1 ∧ PostT C G1 (k a e1) Q) := by
  refine ⟨G, e, s, ?_⟩
  unfold bnd at p
  cases q : f e with
  | ok a e1 => rw [q] at p; exact fun G' v H' g s' r => ⟨a, G', e1, g, r, s', PostT.mono p g⟩
  | exc x e1 => rw [q] at p; exact fun G' H' cls d g s' r => p G' σ H' cls d g s' r
  | bad => rw [q] at p; exact p.elim
theorem g_setL (i : Nat) {x : Str} {ke : Expr} {p pos : Pos} {fk : EM D} (hk : SE C ke fk) (hN : N[i]? = some x := by rfl) (hV : V[i]? = some 1 ∨ V[i]? = some 2 ∨ V[i]? = some 3 := by first | exact .inr (.inl rfl) | exact .inl rfl | exact .inr (.inr rfl))
    (hd : (x == ("__debug__" : Str)) = false := by decide +kernel) (hcd : (x == ("__classdict__" : Str)) = false := by decide +kernel)
    (ha : ∀ (v : Value), assign (.Subscript (.Name x p) ke pos) C.X.env v = (do let ov ← holding [v] (eval (.Name x p) C.X.env); let iv ← holding [v, ov] (eval ke C.X.env); standAt pos; holding [v, ov, iv] (setItem ov iv v); release [v, ov, iv] []) := by intro _; rfl) :
    SG C (.Subscript (.Name x p) ke pos) (gSetL i fk) :=
  (pg_sub (pe_var (i := i) (by rw [C.hN]; exact hN) (C.vis i x hN hV) hd hcd) hk set_list ha).imp fun v σ H Q ⟨G, e, d, rv, s, p⟩ => by
    unfold gSetL at p
    have p0 : PostT C G ((olst i e).bind fun _ => bnd fk fun k => bnd (olst i) fun ds => bnd (ofO (setL ds k d)) fun ds' => oset i (.lst ds')) Q := p
    obtain ⟨ds0, a0, q0, hd0, hv0, _⟩ := olst_ok s (r := olst i e) rfl (fun z => by rw [z] at p0; exact p0)
    rw [q0] at p0
    have p0 : PostT C G (bnd fk (fun k => bnd (olst i) fun ds => bnd (ofO (setL ds k d)) fun ds' => oset i (.lst ds')) e) Q := p0
    refine ⟨_, hv0, (Run.bindT (rep := Rep C.M) s p0).imp fun y H1 ⟨k, G1, e1, g1, r1, s1, p1⟩ => ?_⟩
    have p1 : PostT C G1 ((olst i e1).bind fun ds => bnd (ofO (setL ds k d)) fun ds' => oset i (.lst ds')) Q := p1
    obtain ⟨ds, a, q, hd, hv, vs, hH, rs⟩ := olst_ok s1 (r := olst i e1) rfl (fun z => by rw [z] at p1; exact p1)
    rw [q] at p1
    have : a0 = a := by rw [hv] at hv0; cases hv0; rfl
    subst this
    have p1 : PostT C G1 ((ofO (setL ds k d) e1).bind fun ds' => oset i (.lst ds')) Q := p1
    cases q2 : setL ds k d with
    | none => rw [q2] at p1; exact p1.elim
    | some ds' =>
      rw [q2] at p1
      have p1 : PostT C G1 (oset i (.lst ds') e1) Q := p1
      cases k with
      | int k =>
        have q2 : (ixN ds.length k).map (fun j => ds.set j d) = some ds' := q2
        cases q3 : ixN ds.length k with
        | none => rw [q3] at q2; cases q2
        | some j =>
          rw [q3] at q2; cases q2
          have ow : OwnAt C.M G1 (upd H1 a0 (.lst (vs.set j v))) (.lst (ds.set j d)) (.ref a0) [a0] := ⟨a0, vs.set j v, rfl, rfl, upd_same, rs.set (rv.mono g1) j⟩
          obtain ⟨e2, q4, s2⟩ := oset_ok s1 hd hv ow
          rw [q4] at p1
          exact ⟨a0, vs, k, j, rfl, r1.intV, hH, by rw [rs.length]; exact q3, p1 G1 σ _ (GE.refl _) s2⟩
      | _ => cases q2
end
end Cs

set_option maxRecDepth 100000
set_option maxHeartbeats 4000000
/-! exceptions: made without arguments; CordError.__init__(self) -/
namespace L2
open PySem PySem.Spec PyProof.Rows
section
variable {X : Cx}
theorem mk_endN {pins : List (Addr × Obj)} {σ : St} {Q : XK} {H1 : Hp} {hp hp2 h2 : Heap} {g1 g2 : Array GenState} {d1 d2 : Drawn} {t1 t2 : Nat} {os1 os2 : OsState} {a C : Addr} (T : Raises X (.ref C)) (I1 : Inv X pins σ H1 ⟨hp, g1, d1, t1, os1⟩)
    (ha : hp.objs.size ≤ a) (k : ∀ b o, hp.get? b = some o → hp2.get? b = some o) (un : Un (frs X.stack) [] (upd H1 a (exo a C none)) (upd H1 a (exo a C none)) hp2 h2) (hok : HOk X.prog X.w (upd H1 a (exo a C none)) h2) (ho : os2 = os1) (hb : AllBare g2)
    (q : Q (.ref C) none H1) : MkP X pins σ Q (.ref a) ⟨h2, g2, d2, t2, os2⟩ := by
  have hn : H1 a = none := I1.hok.fresh ha
  have ea : upd H1 a (exo a C none) a = some (exo a C none) := upd_same
  obtain ⟨t0, hoe⟩ := exo_at hok ea
  obtain ⟨G, g1', g2'⟩ := restrict h2 fun b => decide (b ≠ a)
  have gk : ∀ b, b ≠ a → G.get? b = h2.get? b := fun b hb => g1' b (decide_eq_true hb)
  have ge : G.get? a = none := g2' a (by simp)
  have nha : ∀ {b : Addr} {o : Obj}, hp.get? b = some o → b ≠ a := fun {b o} z => Nat.ne_of_lt (Nat.lt_of_lt_of_le (Heap.lt_size z) ha)
  have up : ∀ {b : Addr}, b ≠ a → H1 b = none → upd H1 a (exo a C none) b = none := fun {b} hb n => by rw [upd_ne hb]; exact n
  have U : Un (frs X.stack) [] H1 H1 hp G := {
    keep := fun b o z n hf hx => by
      rw [gk b (nha z)]
      exact un.keep b o (k b o z) (up (nha z) n) hf hx
    slot := fun b o z n hf hx => by
      rw [gk b (nha z)]
      exact un.slot b o (k b o z) (up (nha z) n) hf hx
    free := fun b o z n hx => n
    there := fun b o z hx => by
      rw [gk b (nha z)]
      exact un.there b o (k b o z) hx
    tups := fun b xs z => z
    frzs := fun b o v z => z
    tbls := fun b ps z => ⟨#[], by rw [z]; simp⟩ }
  have hok3 : HOk X.prog X.w H1 G := fun b o z => by
    have hba : b ≠ a := fun e => by rw [e, hn] at z; cases z
    have z2 : upd H1 a (exo a C none) b = some o := by rw [upd_ne hba]; exact z
    have noa : ∀ {c : Addr}, upd H1 a (exo a C none) c = some (.own b) → c ≠ a := fun {c} hc => at_ne ea hc exo_own
    exact (hok b o z2).stay (fun c v hc y => by
        have hca : c ≠ a := by
          rcases hc with hc | hc
          · rw [hc]; exact hba
          · exact noa hc
        rw [gk c hca]
        exact y)
      (fun c hc => by have := noa hc; rw [upd_ne this] at hc; exact hc) (fun c xs hc => by have : c ≠ a := at_ne ea hc exo_tup; rw [upd_ne this] at hc; exact hc)
  have J : Inv X pins σ H1 ⟨G, g2, d2, t2, os2⟩ := I1.call' (ch := []) ho U hok3 hb (fun b z => absurd z (by simp))
  refine ⟨a, _, _, ⟨G, g2, d2, t2, os2⟩, _, .ref C, none, rfl, J, fun b o z => ?_, ge, hoe, ⟨rfl, rfl⟩, rfl, rfl, hn, rfl, hb, T, q⟩
  by_cases hba : b = a
  · rw [hba, ge] at z
    cases z
  · exact (gk b hba).symm.trans z
/-- the promise of an exception's __init__ that stores nothing -/
def spI0 (K : PySem.W.Frag) : Sp := fun vs H Q _ => ∃ a C : Addr, vs = [.ref a] ∧ OexC K C ∧ H a = some (exo a C none) ∧ Q .non H
/-- C(), C's own (or inherited) __init__ keeping spI0 -/
theorem pmk_oex0 {CX : CXT} {x : Str} {C fI : Addr} {k : Nat} {fd : FuncData} {ps : List Str} {p pos : Pos} (T : OexC X.K C) (iC : PySem.W.findIn X.K (.ref C) "__init__" = some (some (.ref fI))) (tI : PySem.W.typeIn X.K (.ref fI) = some (.type "function"))
    (F1 : FnOk X.prog X.w X.K X.mg X.base CX k fI fd ps (spI0 X.K)) (hr : Room (k + 1) X.A) (hb : Binds X.K fd ps []) (hx : Passes CX X (fun _ _ _ => False)) (hg : Gl X x) (hm : X.mg x = some (.ref C))
    (hdb : (x == ("__debug__" : Str)) = false := by decide +kernel) : PMk X (.Call (.Name x p) [] [] pos) (fun σ H Q => Q (.ref C) none H) := by
  intro pins s σ H Q I q
  obtain ⟨nm, qn, N, bs, bm, sn, sub, ab, col, dd, k0, k1, k2, k3, k5, hC, hbm⟩ := T.cls
  refine wpAny_Call_Name_kw (ld_glob I hg hm ?_ hdb)
  refine PySem.W.callWith_K0 I.kIn T.kC ?_
  show wpAny _ _ (call (.ref C) []) _ _ _
  obtain ⟨hp, g, dr, tk, os⟩ := s
  have hsz : hp.objs.size ≤ hp.objs.size + 1 := Nat.le_succ _
  have hn : H (hp.objs.size + 1) = none := I.hok.fresh hsz
  have kk : ∀ b o, hp.get? b = some o → ((hp.push (PySem.W.kdv_tup [])).push (PySem.HandSPX.excO C hp.objs.size)).get? b = some o := fun b o e => Heap.get?_push_of_some _ (Heap.get?_push_of_some _ e)
  have hget : ((hp.push (PySem.W.kdv_tup [])).push (PySem.HandSPX.excO C hp.objs.size)).get? (hp.objs.size + 1) = some (PySem.HandSPX.excO C hp.objs.size) := by heap_get
  have I2 : Inv X pins σ (upd H (hp.objs.size + 1) (exo (hp.objs.size + 1) C none)) ⟨(hp.push (PySem.W.kdv_tup [])).push (PySem.HandSPX.excO C hp.objs.size), g, dr, tk, os⟩ :=
    I.laid (t' := tk) (a := hp.objs.size + 1) (o := exo (hp.objs.size + 1) C none) (h' := (hp.push (PySem.W.kdv_tup [])).push (PySem.HandSPX.excO C hp.objs.size)) kk hsz (exo_ok hget)
  have r2 : Vals [V.ref (hp.objs.size + 1)] [Value.ref (hp.objs.size + 1)] := .cons rfl .nil
  have sp0 : spI0 X.K [V.ref (hp.objs.size + 1)] (upd H (hp.objs.size + 1) (exo (hp.objs.size + 1) C none)) (fun v H2 => v = .non ∧ H2 = upd H (hp.objs.size + 1) (exo (hp.objs.size + 1) C none)) (fun _ _ _ => False) :=
    ⟨_, C, rfl, T, upd_same, rfl, rfl⟩
  have hl : [Value.ref (hp.objs.size + 1)].length = ps.length := F1.len _ _ _ _ sp0
  refine wpAny_call (PySem.HandSPX.call_own (rest := []) F.excBase_ValueError (fun Y => PySem.HandSPX.refsVE_contains Y bm hbm) (I.kIn _ _ hC) (PySem.W.looks_findIn I.kIn iC) (fun self => PySem.W.bind_fn I.kIn self tI) (by simp)
    (codeAny_mono (F1.run _ X.stack _ _ ⟨[Value.ref (hp.objs.size + 1)], []⟩ [Value.ref (hp.objs.size + 1)] _ _ (fun _ _ _ => False) (hr.make C [] []) (I2.env0.make C [] []) (hb _ [Value.ref (hp.objs.size + 1)] I2.kIn hl) r2 sp0) fun r s' hq' => ?_))
  cases r with
  | error er => exact hx pins σ _ _ er s' I2 hq'
  | ok fl =>
    cases fl with
    | ret u =>
      obtain ⟨v, H2, os2, bare2, un2, hok2, rv, ev, eh⟩ := hq'
      subst ev
      subst eh
      obtain ⟨h2, g2, d2, t2, os'⟩ := s'
      exact ⟨rv, mk_endN (raises_own T.exC T.tyC) I hsz kk un2 hok2 os2 bare2 q⟩
    | next => exact False.elim hq'
    | brk => exact False.elim hq'
    | cont => exact False.elim hq'
/-- B.__init__(e, ..), B an own class of the top -/
theorem pe_clsfn {CX : CXT} {k : Nat} {x m : Str} {B f : Addr} {mc : Value} {fd : FuncData} {ps : List Str} {sp : Sp} {E : XK} {pl : Sem Bool} {e : Expr} {es : List Expr} {p1 p2 pos : Pos} {t : TA} (hg : Gl X x) (hm : X.mg x = some (.ref B)) (hga : PySem.W.specialIn X.K (.ref B) "__getattribute__" = some (some (.builtin "type.__getattribute__")))
    (hrd : PySem.W.readsIn X.K B mc = true) (hfc : PySem.W.findCls X.K (.ref B) mc m = some (.val (.ref f))) (F : FnOk X.prog X.w X.K X.mg X.base CX k f fd ps sp) (hk : PySem.W.keepIn X.K (.ref f) = true) (hb : Binds X.K fd ps []) (hr : Room k X.A) (hx : Passes CX X E) (ha : PA X (e :: es) t)
    (hc : eval (.Call (.Attribute (.Name x p1) m p2) (e :: es) [] pos) X.env = (do
      let ov ← eval (.Name x p1) X.env
      standAt p2.atName
      let (f, first) ← holding [ov] (getMethod ov m pl)
      callWith pos f first (backTo pos (starEach (e :: es) X.env)) (backToKw pos (keywordEach [] X.env))) := by rfl)
    (he : starEach (e :: es) X.env = (false, eval e X.env) :: starEach es X.env := by rfl) (hpl : (backTo pos (starEach es X.env)).any (·.1) = false := by rfl) (hdb : (x == ("__debug__" : Str)) = false := by decide +kernel) :
    PE X (.Call (.Attribute (.Name x p1) m p2) (e :: es) [] pos) (tCall sp [] E t) := by
  refine ⟨fun pins s σ H Q I h => ?_⟩
  refine PySem.W.methodCall_KW (ld_glob I hg hm ?_ hdb) hc
  refine PySem.W.method_cls I.kIn hga (PySem.W.cls_value I.kIn hrd hfc rfl ?_)
  show wpAny _ _ (callWith pos (.ref f) [] (backTo pos (starEach (e :: es) X.env)) []) _ _ _
  refine PySem.W.callWith_K (h₀ := X.base) I.ok.mod.kin hk (thn (ha.run pos pins _ σ H _ (I.tok _) h) fun us s1 ⟨vs, H1, I1, r, q⟩ => ⟨I1.kIn, ?_⟩) he hpl
  exact run_fn F hr hb .nil hx I1 r q
end
end L2

namespace L2
open PySem PySem.Spec PyProof.Rows
/-- .. of one that stores its argument -/
def spI1 (K : PySem.W.Frag) (f : Str) : Sp := fun vs H Q _ => ∃ (a C : Addr) (y : V), vs = [.ref a, y] ∧ OexC K C ∧ PySem.W.findIn K (.ref C) f = some none ∧ H a = some (exo a C none) ∧
  ∀ dx, H dx = none → dx ≠ a → Q .non (upd (upd H dx (exd dx [(f, y)])) a (exo a C (some dx)))
end L2
namespace Cs
open PySem L2
section
variable {N : List Str} {V : List Nat} {Gs : List Str} {C : GC N V Gs}
/-! ## raise -/
/-- the class x of errors without fields -/
def E0At (C : GC N V Gs) (k : Nat) (x : Str) : Prop := ∃ (Cc fI : Addr) (fd : FuncData) (ps : List Str), OexC C.X.K Cc ∧ PySem.W.findIn C.X.K (.ref Cc) "__init__" = some (some (.ref fI)) ∧ PySem.W.typeIn C.X.K (.ref fI) = some (.type "function") ∧
  FnOk C.X.prog C.X.w C.X.K C.X.mg C.X.base (L2.CX C.X.prog C.X.w) k fI fd ps (spI0 C.X.K) ∧ Binds C.X.K fd ps [] ∧ C.X.mg x = some (.ref Cc)
def sRaise0 (x : Str) : ES := fun e => .exc ⟨x, []⟩ e
theorem s_raise0 {k : Nat} {x : Str} {p p2 pos : Pos} (hc : C.X.calm = true) (E : E0At C k x) (hr : Room (k + 1) C.X.A) (j : Nat) (hg : Gs[j]? = some x := by rfl) (hdb : (x == ("__debug__" : Str)) = false := by decide +kernel) :
    SS C (.Raise (some (.Call (.Name x p) [] [] p2)) none pos) (sRaise0 x) := by
  obtain ⟨Cc, fI, fd, ps, T, iC, tI, F1, hb, hm⟩ := E
  exact (ps_raise hc C.tk (pmk_oex0 T iC tI F1 hr hb passL (C.gl j _ hg) hm hdb)).imp fun D σ H ⟨G, e, s, q⟩ => q G σ H _ none (GE.refl _) s ⟨Cc, rfl, hm, .inl ⟨rfl, rfl⟩⟩
/-- .. with one field -/
def E1At (C : GC N V Gs) (k : Nat) (x f : Str) : Prop := ∃ (Cc fI : Addr) (fd : FuncData) (ps : List Str), OexC C.X.K Cc ∧ PySem.W.findIn C.X.K (.ref Cc) f = some none ∧ PySem.W.findIn C.X.K (.ref Cc) "__init__" = some (some (.ref fI)) ∧ PySem.W.typeIn C.X.K (.ref fI) = some (.type "function") ∧
  FnOk C.X.prog C.X.w C.X.K C.X.mg C.X.base (L2.CX C.X.prog C.X.w) k fI fd ps (spI1 C.X.K f) ∧ Binds C.X.K fd ps [] ∧ C.X.mg x = some (.ref Cc)
/-- data that leans on no heap -/
def D.plain : D → Bool
  | .non => true
  | .bl _ => true
  | .int _ => true
  | .str _ => true
  | _ => false
theorem Rep.plain {M : Mdl} {G G' : Hp} {v : L2.V} {d : D} (r : Rep M G v d) (h : d.plain = true) : Rep M G' v d := by
  cases d with
  | non => rw [r.nonV]; exact .non
  | bl b => rw [r.blV]; exact .bl b
  | int b => rw [r.intV]; exact .int b
  | str b => rw [r.strV]; exact .str b
  | _ => cases h
def sRaise1 (x f : Str) (fe : EM D) : ES := sB fe fun d e => if d.plain = true then .exc ⟨x, [(f, d)]⟩ e else .bad
theorem s_raise1 {k : Nat} {x f : Str} {a : Expr} {fe : EM D} {p p2 pos : Pos} (hc : C.X.calm = true) (E : E1At C k x f) (hr : Room (k + 1) C.X.A) (j : Nat) (ha : SE C a fe) (hg : Gs[j]? = some x := by rfl) (hdb : (x == ("__debug__" : Str)) = false := by decide +kernel)
    (he : starEach [a] C.X.env = (false, eval a C.X.env) :: starEach [] C.X.env := by rfl) :
    SS C (.Raise (some (.Call (.Name x p) [a] [] p2)) none pos) (sRaise1 x f fe) := by
  obtain ⟨Cc, fI, fd, ps, T, hno, iC, tI, F1, hb, hm⟩ := E
  refine (ps_raise hc C.tk (pmk_oex T iC tI F1 hr hb .nil passL (C.gl j _ hg) hm (a_cons ha a_nil he) hdb he rfl)).imp fun D σ H ⟨G, e, s, p⟩ => ?_
  have aux : ∀ (y : L2.V) (H1 : Hp), (∀ dx, H1 dx = none → C.W (.ref Cc) (some dx) σ (upd H1 dx (.xd [(f, y)]))) → ([y] : List L2.V).length ≤ 1000 ∧ ∀ a, H1 a = none → spI1 C.X.K f (.ref a :: ([y] ++ [])) (upd H1 a (exo a Cc none))
      (fun v H2 => v = .non ∧ ∃ (d : Addr) (fs : List (Str × L2.V)), H2 a = some (exo a Cc (some d)) ∧ H2 d = some (exd d fs) ∧ H1 d = none ∧ C.W (.ref Cc) (some d) σ (upd (del H2 a) d (.xd fs))) (fun _ _ _ => False) := by
    intro y H1 k
    refine ⟨by simp, fun a na => ⟨a, Cc, y, rfl, T, hno, upd_same, fun dx hdx hne => ⟨rfl, dx, [(f, y)], upd_same, ?_, ?_, ?_⟩⟩⟩
    · rw [upd_ne hne, upd_same]
    · rw [upd_ne hne] at hdx; exact hdx
    · have hdx1 : H1 dx = none := by rw [upd_ne hne] at hdx; exact hdx
      have e1 : upd (del (upd (upd (upd H1 a (exo a Cc none)) dx (exd dx [(f, y)])) a (exo a Cc (some dx))) a) dx (.xd [(f, y)]) = upd H1 dx (.xd [(f, y)]) := by
        funext b
        by_cases hb : b = dx
        · subst hb; rw [upd_same, upd_same]
        · rw [upd_ne hb, upd_ne hb]
          by_cases ha : b = a
          · subst ha; rw [del_same]; exact na.symm
          · rw [del_ne ha, upd_ne ha, upd_ne hb, upd_ne ha]
      rw [e1]; exact k dx hdx1
  have t : tOf (Reps C.M) C (aCons fe aNil) σ H (fun vs H1 => vs.length ≤ 1000 ∧ ∀ a, H1 a = none → spI1 C.X.K f (.ref a :: (vs ++ [])) (upd H1 a (exo a Cc none))
      (fun v H2 => v = .non ∧ ∃ (d : Addr) (fs : List (Str × L2.V)), H2 a = some (exo a Cc (some d)) ∧ H2 d = some (exd d fs) ∧ H1 d = none ∧ C.W (.ref Cc) (some d) σ (upd (del H2 a) d (.xd fs))) (fun _ _ _ => False)) := by
    refine ⟨G, e, s, ?_⟩
    unfold sRaise1 sB at p
    unfold aCons bnd
    revert p
    cases fe e with
    | bad => exact id
    | exc x e1 => exact fun p G' H' cls d g s' r => p G' σ H' cls d g s' r
    | ok d e1 =>
      intro p G' vs H' g s' r
      cases r with
      | cons r1 r2 =>
        cases r2
        have hpl : d.plain = true := by
          by_cases z : d.plain = true
          · exact z
          · have p : PostS C G (if d.plain = true then .exc ⟨x, [(f, d)]⟩ e1 else .bad) D := p
            rw [if_neg z] at p; exact p.elim
        have p : PostS C G (if d.plain = true then .exc ⟨x, [(f, d)]⟩ e1 else .bad) D := p
        rw [if_pos hpl] at p
        refine aux _ _ fun dx hdx => ?_
        obtain ⟨fp, sf⟩ := s'
        have gx := free_of_ge sf.sub hdx
        refine p G' σ _ _ _ g ⟨fp, sf.grow (GE.refl _) (fun b u q => ?_) (fun b u q => ?_) (fun b q => .inl q) sf.gnt⟩ ⟨Cc, rfl, hm, .inr ⟨dx, [_], rfl, upd_same, rfl, .cons (r1.plain hpl) .nil⟩⟩
        · rw [upd_ne (ne_of_none q gx)]; exact sf.sub b u q
        · rw [upd_ne (ne_of_none q hdx)]; exact q
  exact t
end
end Cs

set_option maxRecDepth 100000
set_option maxHeartbeats 4000000
namespace Cs
open PySem L2

/-! ## comprehensions -/
def okBlk (N : List Str) (V : List Nat) (scope : Scope) (own : List (Str × Nat)) (V' : List Nat) (Gs' : List Str) : Bool :=
  (match scope.kind with | .function => true | _ => false) && ((scope.names.all fun y => decide (scope.names.lookup y.1 = some y.2)) && ((own.all fun p => decide (N[p.2]? = some p.1)) &&
  ((scope.names.all fun y => match y.2 with
    | .free => (List.range N.length).any fun i => decide (N[i]? = some y.1) && (decide (V[i]? = some 1) || decide (V[i]? = some 3))
    | .local => decide (y.1 ∈ own.map (·.1)) || decide (y.1 ∉ N)
    | .cell => decide (y.1 ∈ own.map (·.1)) || decide (y.1 ∉ N)
    | _ => true) && ((N.length == V'.length) && (((N.zip V').all fun p => match p.2 with
    | 1 => (match scope.names.lookup p.1 with | some .free => true | _ => false)
    | 2 => (match scope.names.lookup p.1 with | some .local => true | _ => false)
    | 3 => (match scope.names.lookup p.1 with | some .cell => true | _ => false)
    | 0 => true
    | _ => false) && (Gs'.all fun x => match scope.names.lookup x with | some .globalImplicit => true | _ => false))))))

section
variable {N : List Str} {V V' : List Nat} {Gs Gs' : List Str} {scope : Scope} {own : List (Str × Nat)}
theorem okBlk_ok (C : GC N V Gs) (h : okBlk N V scope own V' Gs' = true) : BlkOk C.X.N C.X.env.scope scope own := by
  unfold okBlk at h
  simp only [Bool.and_eq_true] at h
  obtain ⟨h1, h2, h3, h4, _⟩ := h
  simp only [List.all_eq_true] at h2 h3 h4
  refine ⟨?_, fun y hy => of_decide_eq_true (h2 y hy), fun p hp => by rw [C.hN]; exact of_decide_eq_true (h3 p hp), fun y hy e => ?_, fun y hy e => ?_⟩
  · split at h1
    · assumption
    · cases h1
  · have q := h4 y hy
    rw [e] at q
    obtain ⟨i, _, q⟩ := List.any_eq_true.mp q
    rw [Bool.and_eq_true, Bool.or_eq_true] at q
    have hN := of_decide_eq_true q.1
    rcases q.2 with q | q
    · exact C.fre i _ hN (of_decide_eq_true q)
    · exact .inl (C.cel i _ hN (of_decide_eq_true q)).1
  · have q := h4 y hy
    rw [C.hN]
    rcases e with e | e <;> (rw [e] at q; rcases Bool.or_eq_true _ _ ▸ q with q | q; exact .inl (of_decide_eq_true q); exact .inr (of_decide_eq_true q))
theorem okBlk_get (h : okBlk N V scope own V' Gs' = true) {i : Nat} {x : Str} {v : Nat} (hN : N[i]? = some x) (hV : V'[i]? = some v) : match v with
    | 1 => scope.names.lookup x = some .free
    | 2 => scope.names.lookup x = some .local
    | 3 => scope.names.lookup x = some .cell
    | 0 => True
    | _ => False := by
  unfold okBlk at h
  simp only [Bool.and_eq_true] at h
  obtain ⟨_, _, _, _, _, h, _⟩ := h
  simp only [List.all_eq_true] at h
  have hm : (x, v) ∈ N.zip V' := by
    apply List.mem_of_getElem? (i := i)
    rw [List.getElem?_zip_eq_some]
    exact ⟨hN, hV⟩
  have := h (x, v) hm
  revert this
  dsimp only
  split
  · intro z; split at z
    · assumption
    · cases z
  · intro z; split at z
    · assumption
    · cases z
  · intro z; split at z
    · assumption
    · cases z
  · intro _; trivial
  · intro z; cases z
theorem okBlk_gl (h : okBlk N V scope own V' Gs' = true) {j : Nat} {x : Str} (hG : Gs'[j]? = some x) : scope.names.lookup x = some .globalImplicit := by
  unfold okBlk at h
  simp only [Bool.and_eq_true] at h
  obtain ⟨_, _, _, _, _, _, h⟩ := h
  simp only [List.all_eq_true] at h
  have := h x (List.mem_of_getElem? hG)
  revert this
  split
  · intro _; assumption
  · intro z; cases z
theorem okBlk_kind (h : okBlk N V scope own V' Gs' = true) : scope.kind = .function := by
  unfold okBlk at h
  simp only [Bool.and_eq_true] at h
  have h1 := h.1
  split at h1
  · assumption
  · cases h1

theorem relS_free {sc scope : Scope} {x : Str} (q : scope.names.lookup x = some .free) : (relS scope sc).names.lookup x = some .cell ∨ (relS scope sc).names.lookup x = some .free := by
  unfold relS
  dsimp only
  generalize scope.names = l at q
  induction l with
  | nil => cases q
  | cons a r ih =>
    obtain ⟨n, k⟩ := a
    rw [List.lookup_cons] at q
    rw [List.map_cons, List.lookup_cons]
    by_cases e : (x == n) = true
    · rw [e] at q
      cases q
      by_cases c : (NameKind.free == NameKind.free && sc.kind == ScopeKind.function && List.lookup n sc.names == some NameKind.cell) = true
      · rw [if_pos c]; dsimp only; rw [e]; exact .inl rfl
      · rw [if_neg c]; dsimp only; rw [e]; exact .inr rfl
    · rw [Bool.not_eq_true] at e
      rw [e] at q
      have e3 : (x == (if (k == NameKind.free && sc.kind == .function && sc.names.lookup n == some .cell) then (n, NameKind.cell) else (n, k)).1) = false := by split <;> exact e
      dsimp only at e3 ⊢
      rw [e3]
      exact ih q
/-- the place of a comprehension's element -/
def GC.blk (C : GC N V Gs) (h : okBlk N V scope own V' Gs' = true) (s : Shared) (H : Hp) (Ca : Addr) (cl : List (Str × Addr)) (fp : List Addr) (F : Fm) : GC N V' Gs' where
  X := C.X.blk s H scope (compEnvC scope cl Ca C.X.env) fp
  F := F
  W := fun _ _ _ _ => False
  lv := 0
  hN := C.hN
  nd := C.nd
  vis := fun i x hN hV => by
    rcases hV with hV | hV | hV
    · rcases relS_free (sc := C.X.env.scope) (okBlk_get h hN hV) with q | q
      · exact .inr (.inl q)
      · exact .inr (.inr q)
    · exact .inl (lookup_relS_keep (by decide) (okBlk_get h hN hV))
    · exact .inr (.inl (lookup_relS_keep (by decide) (okBlk_get h hN hV)))
  loc := fun i x hN hV => lookup_relS_keep (by decide) (okBlk_get h hN hV)
  cel := fun i x hN hV => ⟨lookup_relS_keep (by decide) (okBlk_get h hN hV), by
    show (scope.names.lookup x == some .cell) = true
    rw [okBlk_get h hN hV]; rfl⟩
  fre := fun i x hN hV => relS_free (sc := C.X.env.scope) (okBlk_get h hN hV)
  fun_ := by
    show PySem.Env.blockKind _ = .function
    unfold PySem.Env.blockKind
    show (if scope.kind.isAnnotationScope = true then ScopeKind.function else scope.kind) = .function
    rw [okBlk_kind h]; rfl
  gl := fun j x hg => lookup_relS_keep (by decide) (okBlk_gl h hg)
  tk := takes0
  po := PassesOwn.never
  hu := C.hu
  T := C.T
  tu := C.tu
  lam := C.lam
  gb := C.gb
  gd := C.gd
end
end Cs

set_option maxRecDepth 100000
set_option maxHeartbeats 4000000
namespace Cs
open PySem L2

/-! ### targets of a comprehension: names -/
def tgNames : List Nat → TGs
  | [] => gNil
  | i :: r => gCons (gName i) (tgNames r)
def tgt (K : PySem.W.Frag) (t : Bool) (is : List Nat) : TG := if t then gTup K is.length (tgNames is) else match is with
  | [i] => gName i
  | _ => fun _ _ _ _ => False
def setsV : List Nat → List V → St → St
  | i :: is, v :: vs, σ => setsV is vs (σ.set i (some v))
  | _, _, σ => σ
def putAll : List Nat → List D → Env → Option Env
  | [], [], e => some e
  | i :: is, d :: ds, e => match e[i]? with
    | some none => putAll is ds (e.set i (some (.val d)))
    | some (some (.val _)) => putAll is ds (e.set i (some (.val d)))
    | _ => none
  | _, _, _ => none
def tgVals (t : Bool) (n : Nat) (d : D) : Option (List D) := if t then match d with
    | .tup ds => if ds.length = n then some ds else none
    | _ => none
  else if n = 1 then some [d] else none
theorem putAll_len : ∀ {is : List Nat} {ds : List D} {e e' : Env}, putAll is ds e = some e' → is.length = ds.length ∧ e'.length = e.length
  | [], [], e, e', h => by cases h; exact ⟨rfl, rfl⟩
  | [], _ :: _, e, e', h => by cases h
  | _ :: _, [], e, e', h => by cases h
  | i :: is, d :: ds, e, e', h => by
    unfold putAll at h
    split at h
    · obtain ⟨a, b⟩ := putAll_len h; exact ⟨by simp [a], by rw [b]; simp⟩
    · obtain ⟨a, b⟩ := putAll_len h; exact ⟨by simp [a], by rw [b]; simp⟩
    · cases h
theorem Sim.putAll {M : Mdl} {F : Fm} {G : Hp} {H : Hp} : ∀ {is : List Nat} {ds : List D} {vs : List V} {e e' : Env} {σ : St}, Sim M F G e σ H → Reps M G vs ds → Cs.putAll is ds e = some e' → Sim M F G e' (setsV is vs σ) H
  | [], _, _, e, e', σ, s, .nil, h => by cases h; exact s
  | [], _, _, e, e', σ, s, .cons _ _, h => by cases h
  | _ :: _, _, _, e, e', σ, s, .nil, h => by cases h
  | i :: is, _, _, e, e', σ, s, @Reps.cons _ _ v _ vs _ r rr, h => by
    unfold Cs.putAll at h
    show Sim M F G e' (setsV is vs (σ.set i (some v))) H
    split at h
    · rename_i q
      exact Sim.putAll (s.put (lt_of_get q) (by rw [getD_of q]; exact id) r) rr h
    · rename_i q
      exact Sim.putAll (s.put (lt_of_get q) (by rw [getD_of q]; exact id) r) rr h
    · cases h
theorem tgNames_run : ∀ {is : List Nat} {vs : List V} {σ : St} {H : Hp} {Q : St → Hp → Prop}, is.length = vs.length → Q (setsV is vs σ) H → tgNames is vs σ H Q
  | [], [], σ, H, Q, _, q => ⟨rfl, q⟩
  | [], _ :: _, _, _, _, h, _ => by cases h
  | _ :: _, [], _, _, _, h, _ => by cases h
  | i :: is, v :: vs, σ, H, Q, h, q => ⟨v, vs, rfl, tgNames_run (by simpa using h) q⟩
theorem tgt_run {M : Mdl} {F : Fm} {G : Hp} {e e' : Env} {σ : St} {H : Hp} {t : Bool} {is : List Nat} {d : D} {ds : List D} {x : V} {Q : St → Hp → Prop} (s : Sim M F G e σ H) (r : Rep M G x d) (h : tgVals t is.length d = some ds) (p : putAll is ds e = some e')
    (q : ∀ vs, Reps M G vs ds → Sim M F G e' (setsV is vs σ) H → Q (setsV is vs σ) H) : tgt M.K t is x σ H Q := by
  unfold tgVals at h
  unfold tgt
  split at h
  · rename_i ht
    split at h
    · split at h
      · rename_i hl
        cases h
        obtain ⟨a, vs, rfl, h1, rr⟩ := r.tupV
        rw [if_pos ht]
        exact ⟨a, vs, rfl, sqt_ge s.sub h1, by rw [rr.length]; exact hl, tgNames_run (by rw [rr.length]; exact hl.symm) (q vs rr (s.putAll rr p))⟩
      · cases h
    · cases h
  · rename_i ht
    split at h
    · rename_i hl
      cases h
      rw [if_neg ht]
      match is, hl with
      | [i], _ => exact q [x] (.cons r .nil) (s.putAll (.cons r .nil) p)
    · cases h
theorem setsV_wipe : ∀ {is : List Nat} {vs : List V} {ws : List Nat} {σ : St}, (∀ i ∈ is, i ∈ ws) → wipe (setsV is vs σ) ws = wipe σ ws
  | [], vs, ws, σ, _ => by cases vs <;> rfl
  | _ :: _, [], ws, σ, _ => rfl
  | i :: is, v :: vs, ws, σ, h => by
    show wipe (setsV is vs (σ.set i (some v))) ws = _
    rw [setsV_wipe fun j hj => h j (List.mem_cons_of_mem _ hj)]
    have : ∀ {ws : List Nat} {σ : St}, i ∈ ws → wipe (σ.set i (some v)) ws = wipe σ ws := by
      intro ws
      induction ws with
      | nil => intro σ h; cases h
      | cons w ws ih =>
        intro σ hw
        unfold wipe
        by_cases hm : i ∈ ws
        · rw [ih hm]
        · have e : i = w := by
            rcases List.mem_cons.mp hw with e | e
            · exact e
            · exact absurd e hm
          subst e
          have c : ∀ {ws : List Nat} {σ : St}, i ∉ ws → wipe (σ.set i (some v)) ws = (wipe σ ws).set i (some v) := by
            intro ws
            induction ws with
            | nil => intro σ _; rfl
            | cons w ws ih2 =>
              intro σ hw
              unfold wipe
              rw [ih2 fun z => hw (List.mem_cons_of_mem _ z)]
              rw [List.set_comm _ _ (fun z => hw (by rw [z]; simp))]
          rw [c hm, List.set_set]
    exact this (h i (by simp))

/-! ### wiping -/
def plainSlot : Option (Option SV) → Bool
  | some none => true
  | some (some (.val _)) => true
  | _ => false
def wipeE (e : Env) : List Nat → Env
  | [] => e
  | v :: vs => (wipeE e vs).set v none
def restE (e e' : Env) : List Nat → Env
  | [] => e'
  | v :: vs => (restE e e' vs).set v (e.getD v none)
theorem wipeE_len {e : Env} : ∀ {vs : List Nat}, (wipeE e vs).length = e.length
  | [] => rfl
  | v :: vs => by unfold wipeE; rw [List.length_set]; exact wipeE_len
theorem restE_len {e e' : Env} : ∀ {vs : List Nat}, (restE e e' vs).length = e'.length
  | [] => rfl
  | v :: vs => by unfold restE; rw [List.length_set]; exact restE_len
theorem wipeE_plain {e : Env} : ∀ {vs : List Nat} {v : Nat}, plainSlot e[v]? = true → plainSlot (wipeE e vs)[v]? = true
  | [], v, h => h
  | w :: vs, v, h => by
    unfold wipeE
    by_cases z : v = w
    · subst z
      have : v < (wipeE e vs).length := by
        rw [wipeE_len]
        cases q : e[v]? with
        | none => rw [q] at h; cases h
        | some _ => exact lt_of_get q
      rw [List.getElem?_set_self this]; rfl
    · rw [List.getElem?_set_ne (Ne.symm z)]; exact wipeE_plain h
theorem plain_nb {e : Env} {v : Nat} (h : plainSlot e[v]? = true) : v < e.length ∧ ¬ IsBor (e.getD v none) := by
  cases q : e[v]? with
  | none => rw [q] at h; cases h
  | some z =>
    refine ⟨lt_of_get q, ?_⟩
    rw [getD_of q]
    rw [q] at h
    cases z with
    | none => exact id
    | some w => cases w with
                | val _ => exact id
                | own _ => cases h
                | bor _ => cases h
                | pin => cases h
theorem Sim.wipe {M : Mdl} {F : Fm} {G : Hp} {H : Hp} {e : Env} {σ : St} (s : Sim M F G e σ H) : ∀ {vs : List Nat}, (∀ v ∈ vs, plainSlot e[v]? = true) → Sim M F G (wipeE e vs) (wipe σ vs) H
  | [], _ => s
  | v :: vs, h => by
    have s' := Sim.wipe s (vs := vs) fun w hw => h w (List.mem_cons_of_mem _ hw)
    obtain ⟨a, b⟩ := plain_nb (wipeE_plain (vs := vs) (h v (by simp)))
    exact s'.drop a b
/-- the outer values of the block's names come back -/
theorem Sim.rest {M : Mdl} {F F' : Fm} {G0 G : Hp} {H0 H : Hp} {e e' : Env} {σ : St} (s0 : Sim M F' G0 e σ H0) (g : GE G0 G) : ∀ {vs : List Nat} {σ' : St}, (∀ v ∈ vs, plainSlot e[v]? = true) → (∀ v ∈ vs, plainSlot e'[v]? = true) → e'.length = e.length → Sim M F G e' σ' H →
    Sim M F G (restE e e' vs) (vs.foldr (fun v τ => τ.set v (σ.getD v none)) σ') H
  | [], σ', _, _, _, s => s
  | v :: vs, σ', h, h', hl, s => by
    have s' := Sim.rest s0 g (vs := vs) (σ' := σ') (fun w hw => h w (List.mem_cons_of_mem _ hw)) (fun w hw => h' w (List.mem_cons_of_mem _ hw)) hl s
    have hv := h v (by simp)
    obtain ⟨a, b⟩ := plain_nb hv
    have hp : plainSlot (restE e e' vs)[v]? = true := by
      have : ∀ {ws : List Nat}, plainSlot (restE e e' ws)[v]? = true := by
        intro ws
        induction ws with
        | nil => exact h' v (by simp)
        | cons w ws ih =>
          unfold restE
          by_cases z : v = w
          · subst z
            rw [List.getElem?_set_self (by rw [restE_len, hl]; exact a)]
            cases q : e[v]? with
            | none => rw [q] at hv; cases hv
            | some x => rw [getD_of q]; rw [q] at hv; exact hv
          · rw [List.getElem?_set_ne (Ne.symm z)]; exact ih
      exact this
    obtain ⟨a', b'⟩ := plain_nb hp
    show Sim M F G ((restE e e' vs).set v (e.getD v none)) ((vs.foldr (fun v τ => τ.set v (σ.getD v none)) σ').set v (σ.getD v none)) H
    cases q : e[v]? with
    | none => rw [q] at hv; cases hv
    | some x =>
      rw [getD_of q]
      rw [q] at hv
      cases x with
      | none => exact s'.drop a' b'
      | some w =>
        cases w with
        | val d =>
          obtain ⟨u, hu, r⟩ := s0.val q
          rw [getD_of hu]
          exact s'.put a' b' (r.mono g)
        | own _ => cases hv
        | bor _ => cases hv
        | pin => cases hv
theorem foldr_wipe {σ : St} : ∀ {vs : List Nat}, (∀ v ∈ vs, v < σ.length) → vs.foldr (fun v τ => τ.set v (σ.getD v none)) (wipe σ vs) = σ := by
  intro vs hv
  apply List.ext_getElem?
  intro i
  have hw : ∀ {ws : List Nat}, (ws.foldr (fun v τ => τ.set v (σ.getD v none)) (wipe σ vs))[i]? = if i ∈ ws ∧ i < σ.length then some (σ.getD i none) else (wipe σ vs)[i]? := by
    intro ws
    induction ws with
    | nil => simp
    | cons w ws ih =>
      show ((ws.foldr (fun v τ => τ.set v (σ.getD v none)) (wipe σ vs)).set w (σ.getD w none))[i]? = _
      have hlen : ∀ {ws : List Nat}, (ws.foldr (fun v τ => τ.set v (σ.getD v none)) (wipe σ vs)).length = σ.length := by
        intro ws
        induction ws with
        | nil => exact wipe_length σ vs
        | cons a r ih => show (List.set _ _ _).length = _; rw [List.length_set]; exact ih
      by_cases z : i = w
      · subst z
        by_cases hi : i < σ.length
        · rw [List.getElem?_set_self (by rw [hlen]; exact hi), if_pos ⟨by simp, hi⟩]
        · rw [List.getElem?_eq_none (by rw [List.length_set, hlen]; omega), if_neg (fun z => hi z.2), List.getElem?_eq_none (by rw [wipe_length]; omega)]
      · rw [List.getElem?_set_ne (Ne.symm z), ih]
        by_cases hm : i ∈ ws ∧ i < σ.length
        · rw [if_pos hm, if_pos ⟨List.mem_cons_of_mem _ hm.1, hm.2⟩]
        · rw [if_neg hm, if_neg fun y => hm ⟨(List.mem_cons.mp y.1).resolve_left z, y.2⟩]
  rw [hw]
  by_cases hi : i ∈ vs
  · have := hv i hi
    rw [if_pos ⟨hi, this⟩, List.getD_eq_getElem?_getD, List.getElem?_eq_getElem this]; rfl
  · rw [if_neg fun y => hi y.1]; exact wipe_out hi
end Cs

set_option maxRecDepth 100000
set_option maxHeartbeats 4000000
namespace Cs
open PySem L2

def Fm.with (F : Fm) (a : Addr) (o : HO) : Fm := { F with pro := (a, o) :: F.pro }
section
variable {M : Mdl} {F : Fm} {G : Hp} {e : Env} {σ : St} {H : Hp}
theorem Sim.addPro {p : Addr} {ob : HO} (s : Sim M F G e σ H) (hp : H p = none) (ht : ist ob = false := by rfl) : Sim M (F.with p ob) G e σ (upd H p ob) := by
  have gp := free_of_ge s.sub hp
  obtain ⟨fp, s⟩ := s
  have k := s.grow (G' := G) (H' := upd H p ob) (GE.refl _) (fun b u q => by rw [upd_ne (ne_of_none q gp)]; exact s.sub b u q) (fun b u q => by rw [upd_ne (ne_of_none q hp)]; exact q) (fun b q => .inl q) s.gnt
  have kp : ∀ q ∈ (F.with p ob).pro, upd H p ob q.1 = some q.2 ∧ G q.1 = none ∧ ∀ i, q.1 ∉ fp i := fun q m => by
    rcases List.mem_cons.mp m with rfl | m
    · exact ⟨upd_same, gp, fun i m' => (s.at_ i).there m' hp⟩
    · exact k.pro q m
  have kq : ∀ q ∈ (F.with p ob).pro, ist q.2 = false := fun q m => by
    rcases List.mem_cons.mp m with rfl | m
    · exact ht
    · exact k.pnt q m
  exact ⟨fp, { len := k.len, low := k.low, hnt := k.hnt, sub := k.sub, frm := k.frm, dom := k.dom, new := k.new, at_ := k.at_, dj := k.dj, own := k.own, bor := k.bor, gnt := k.gnt, tab := k.tab, kep := k.kep, pin := k.pin, pnt := kq, pro := kp }⟩
theorem Sim.setPro {p : Addr} {ob ob' : HO} (s : Sim M (F.with p ob) G e σ H) (h0 : F.H0 p = none) (hn : ∀ q ∈ F.pro, q.1 ≠ p) (ho : ownk ob = true := by rfl) (ht : ist ob' = false := by rfl) : Sim M (F.with p ob') G e σ (upd H p ob') := by
  obtain ⟨fp, s⟩ := s
  obtain ⟨hH, hG, hf⟩ := s.pro (p, ob) (by simp [Fm.with])
  dsimp only at hH hG hf
  exact ⟨fp, {
    len := s.len
    sub := fun b u q => by
      have : b ≠ p := fun z => by rw [z, hG] at q; cases q
      rw [upd_ne this]; exact s.sub b u q
    low := s.low
    hnt := s.hnt
    frm := fun a o h n => by
      have : a ≠ p := fun z => by
        have h : F.H0 a = some o := h
        rw [z, h0] at h; cases h
      rw [upd_ne this]; exact s.frm a o h n
    gnt := s.gnt
    pin := s.pin
    tab := tabs_but (f := [p]) s.tab (fun a m => by rw [List.mem_singleton.mp m]; exact ⟨ob, hH, ho⟩) fun a o q n => by rw [upd_ne (fun z => n (by rw [z]; simp))]; exact q
    kep := fun q m => by
      obtain ⟨x, y, z⟩ := s.kep q m
      have : q.1 ≠ p := fun w => by rw [w, hH] at x; cases x; rw [ho] at z; cases z
      exact ⟨by rw [upd_ne this]; exact x, y, z⟩
    pnt := fun q m => by
      rcases List.mem_cons.mp m with rfl | m
      · exact ht
      · exact s.pnt q (List.mem_cons_of_mem _ m)
    dom := fun a h => nt_upd ht a (s.dom a h)
    new := s.new
    at_ := fun i => (s.at_ i).mono (GE.refl _) fun a m => by
      have : a ≠ p := fun z => hf i (z ▸ m)
      rw [upd_ne this]
    dj := s.dj
    own := s.own
    bor := s.bor
    pro := fun q m => by
      rcases List.mem_cons.mp m with rfl | m
      · exact ⟨upd_same, hG, hf⟩
      · obtain ⟨x, y, z⟩ := s.pro q (List.mem_cons_of_mem _ m)
        exact ⟨by rw [upd_ne (hn q m)]; exact x, y, z⟩ }⟩
theorem Sim.dropPro {p : Addr} {ob : HO} (s : Sim M (F.with p ob) G e σ H) : Sim M F G e σ H := by
  obtain ⟨fp, s⟩ := s
  exact ⟨fp, { len := s.len, low := s.low, hnt := s.hnt, sub := s.sub, frm := s.frm, dom := s.dom, new := s.new, at_ := s.at_, dj := s.dj, own := s.own, bor := s.bor, gnt := s.gnt, tab := s.tab, kep := s.kep, pin := s.pin, pnt := fun q m => s.pnt q (List.mem_cons_of_mem _ m), pro := fun q m => s.pro q (List.mem_cons_of_mem _ m) }⟩
theorem Sim.lenSt (s : Sim M F G e σ H) : e.length = σ.length := let ⟨_, s⟩ := s; s.len
end

theorem wipe_wipe {ws : List Nat} {τ : L2.St} : wipe (wipe τ ws) ws = wipe τ ws := by
  apply List.ext_getElem?
  intro j
  by_cases hj : j ∈ ws
  · have nn : ∀ {τ : L2.St}, (wipe τ ws)[j]? = if j < τ.length then some none else none := by
      intro τ
      by_cases hjl : j < τ.length
      · rw [if_pos hjl]
        cases q : (wipe τ ws)[j]? with
        | none => rw [List.getElem?_eq_none_iff, wipe_length] at q; omega
        | some z =>
          cases z with
          | none => rfl
          | some y => exact absurd hj (wipe_some q).2
      · rw [if_neg hjl, List.getElem?_eq_none (by rw [wipe_length]; omega)]
    rw [nn, nn, wipe_length]
  · rw [wipe_out hj]
section
variable {N : List Str} {V V' : List Nat} {Gs Gs' : List Str} {C : GC N V Gs}
/-- a reading in a block: no exception leaves it -/
def tOfB {α β : Type} (rep : Hp → β → α → Prop) (M : Mdl) (f : EM α) (σ : L2.St) (H : Hp) (Q : β → Hp → Prop) : Prop :=
  ∃ F G e, Sim M F G e σ H ∧ ∃ a e', f e = .ok a e' ∧ ∀ G' v H', GE G G' → Sim M F G' e' σ H' → rep G' v a → Q v H'
/-- the targets of a comprehension -/
def CT (C : GC N V Gs) (tg : Expr) (t : Bool) (is : List Nat) : Prop := PG C.X tg (tgt C.X.K t is)
def CTs (C : GC N V Gs) (tgs : List Expr) (is : List Nat) : Prop := PGs C.X tgs (tgNames is)
theorem ct_name (i : Nat) {x : Str} {pos : Pos} (hN : N[i]? = some x := by rfl) (hV : V[i]? = some 2 ∨ V[i]? = some 3 := by first | exact .inl rfl | exact .inr rfl) : CT C (.Name x pos) false [i] :=
  pg_name (i := i) C.nd (by rw [C.hN]; exact hN) (GC.stoLoc hN hV).1 (GC.stoLoc hN hV).2
theorem cts_nil : CTs C [] [] := pgs_nil
theorem cts_cons (i : Nat) {x : Str} {pos : Pos} {es : List Expr} {is : List Nat} (h : CTs C es is) (hN : N[i]? = some x := by rfl) (hV : V[i]? = some 2 ∨ V[i]? = some 3 := by first | exact .inl rfl | exact .inr rfl)
    (hs : (assignEach (.Name x pos :: es) C.X.env).map (·.2) = assign (.Name x pos) C.X.env :: (assignEach es C.X.env).map (·.2) := by rfl) : CTs C (.Name x pos :: es) (i :: is) :=
  pgs_cons (pg_name (i := i) C.nd (by rw [C.hN]; exact hN) (GC.stoLoc hN hV).1 (GC.stoLoc hN hV).2) h hs
theorem ct_tup {es : List Expr} {k : Nat} {pos : Pos} {is : List Nat} (hc : C.X.calm = true) (h : CTs C es is) (hn : (assignEach es C.X.env).length = is.length := by rfl) (hst : (assignEach es C.X.env).findIdx? (·.1) = none := by rfl) : CT C (.Tuple es k pos) true is :=
  pg_tup hc h hn hst

def STs (C : GC N V Gs) (ifs : List Expr) (f : EM Bool) : Prop := PTs C.X ifs (tOf (fun _ b c => b = c) C f)
theorem ts_nil : STs C [] (ret true) := ⟨fun pins s σ H Q I h => pts_nil.run pins s σ H Q I (by obtain ⟨G, e, t⟩ := h; exact t.done rfl)⟩
theorem ts_one {c : Expr} {f : EM Bool} (h : ST C c f) : STs C [c] f := pts_one h

def lcL (vs : List Nat) (t : Bool) (is : List Nat) (c : EM Bool) (f : EM D) : List D → List D → Env → Option (List D × Env)
  | [], acc, e => some (acc, e)
  | d :: ds, acc, e => match tgVals t is.length d with
    | none => none
    | some xs => match putAll is xs e with
      | none => none
      | some e1 => match c e1 with
        | .ok b e2 => if b = true then match f e2 with
            | .ok y e3 => if acc.length < sz ∧ vs.all (fun v => plainSlot e3[v]?) = true then lcL vs t is c f ds (acc ++ [y]) (wipeE e3 vs) else none
            | _ => none
          else if vs.all (fun v => plainSlot e2[v]?) = true then lcL vs t is c f ds acc (wipeE e2 vs) else none
        | _ => none
/-- [elt for target in iter if ..]; vs: the block's own names, is: those of the target -/
def oLc (vs : List Nat) (t : Bool) (is : List Nat) (fi : EM (List D)) (c : EM Bool) (f : EM D) : EM OO := bnd fi fun ds => fun e =>
  if vs.all (fun v => plainSlot e[v]?) = true then match lcL vs t is c f ds [] (wipeE e vs) with
    | some (acc, e') => if vs.all (fun v => plainSlot e'[v]?) = true then .ok (.lst acc) (restE e e' vs) else .bad
    | none => .bad
  else .bad
theorem tOf_B {α β : Type} {rep : Hp → β → α → Prop} {f : EM α} {C' : GC N V Gs} {σ : L2.St} {H : Hp} {Q : β → Hp → Prop} (hW : C'.W = fun _ _ _ _ => False) {F : Fm} {G : Hp} {e : Env} (hF : C'.F = F) (s : Sim C'.M F G e σ H) (h : ∃ a e', f e = .ok a e' ∧ ∀ G' v H', GE G G' → Sim C'.M F G' e' σ H' → rep G' v a → Q v H') : tOf rep C' f σ H Q := by
  subst hF
  obtain ⟨a, e', q, k⟩ := h
  refine ⟨G, e, s, ?_⟩
  rw [q]
  exact k

theorem lc_run {vs : List Nat} {t : Bool} {is : List Nat} {fi : EM (List D)} {c : EM Bool} {f : EM D} (his' : ∀ i ∈ is, i ∈ vs) (σ : L2.St) (H : Hp) (Q : VK) (p0 : tOfO C (oLc vs t is fi c f) σ H Q) :
    tLc (tOfI C fi) (tgt C.X.K t is) (tOfB (fun _ b c => b = c) C.M c) (tOfB (Rep C.M) C.M f) vs σ H Q := by
  obtain ⟨G, e, s, p⟩ := p0
  unfold oLc bnd at p
  refine ⟨G, e, s, ?_⟩
  revert p
  cases fi e with
  | bad => exact id
  | exc x e1 => exact id
  | ok ds e1 =>
    intro p G' H' J g s' it
    have p : PostO C G (if vs.all (fun v => plainSlot e1[v]?) = true then match lcL vs t is c f ds [] (wipeE e1 vs) with
      | some (acc, e') => if vs.all (fun v => plainSlot e'[v]?) = true then .ok (.lst acc) (restE e1 e' vs) else .bad
      | none => .bad
      else .bad) σ Q := p
    split at p
    · rename_i hpl
      have hpl' : ∀ v ∈ vs, plainSlot e1[v]? = true := fun v hv => List.all_eq_true.mp hpl v hv
      split at p
      · rename_i acc e' hl
        split at p
        · rename_i hpe
          have hpe' : ∀ v ∈ vs, plainSlot e'[v]? = true := fun v hv => List.all_eq_true.mp hpe v hv
          intro Dn hD
          have f0 : C.F.H0 Dn = none := by
            obtain ⟨fp, sf⟩ := s'
            cases q : C.F.H0 Dn with
            | none => rfl
            | some u => exact absurd (nt_none hD) (sf.dom Dn (by rw [q]; simp))
          have npr : ∀ q ∈ C.F.pro, q.1 ≠ Dn := fun q hq z => by
            obtain ⟨fp, sf⟩ := s'
            have := (sf.pro q hq).1
            rw [z, hD] at this; cases this
          have hlen : e1.length = σ.length := s'.lenSt
          have hvl : ∀ v ∈ vs, v < σ.length := fun v hv => by rw [← hlen]; exact (plain_nb (hpl' v hv)).1
          refine ⟨fun i m H2 => m = ds.length - i ∧ ∃ G2 e2 ac ws, GE G' G2 ∧ Reps C.M G2 ws ac ∧ Sim C.M (C.F.with Dn (.lst ws)) G2 e2 (wipe σ vs) H2 ∧ lcL vs t is c f (ds.drop i) ac e2 = some (acc, e'), ⟨_, rfl, G', wipeE e1 vs, [], [], GE.refl _, .nil, (s'.wipe hpl').addPro hD, hl⟩, ?_⟩
          rintro i m H2 ⟨rfl, G2, e2, ac, ws, g2, rw_, s2, l2⟩
          by_cases hlt : i < ds.length
          · refine .inr ⟨it.go i H2 (g2.trans s2.sub) hlt, fun H3 => ∃ G2 e2 ac ws, GE G' G2 ∧ Reps C.M G2 ws ac ∧ Sim C.M (C.F.with Dn (.lst ws)) G2 e2 (wipe σ vs) H3 ∧ lcL vs t is c f (ds.drop (i + 1)) ac e2 = some (acc, e'), fun H3 z => ⟨ds.length - (i + 1), by omega, rfl, z⟩, fun x H3 hy => ?_⟩
            have hd : ds[i]? = some ds[i] := List.getElem?_eq_getElem hlt
            obtain ⟨G3, g3, s3, r3⟩ := it.yld _ i _ x G2 e2 (wipe σ vs) H2 H3 hd g2 s2 hy
            rw [List.drop_eq_getElem_cons hlt] at l2
            unfold lcL at l2
            split at l2
            · cases l2
            · rename_i xs hx
              split at l2
              · cases l2
              · rename_i e3 hp3
                refine tgt_run s3 r3 hx hp3 fun us rus s4 => ⟨(setsV_wipe his').trans wipe_wipe, ?_⟩
                split at l2
                · rename_i b e4 hc4
                  refine ⟨_, G3, e3, s4, b, e4, hc4, fun G5 v H5 g5 s5 hv => ?_⟩
                  subst hv
                  have hw5 : wipe (setsV is us (wipe σ vs)) vs = wipe σ vs := by
                    rw [setsV_wipe his']
                    exact wipe_wipe
                  cases v with
                  | false =>
                    rw [if_neg Bool.false_ne_true] at l2 ⊢
                    split at l2
                    · rename_i hp5
                      refine ⟨G5, wipeE e4 vs, ac, ws, g2.trans (g3.trans g5), rw_.mono (g3.trans g5), ?_, l2⟩
                      have := s5.wipe (vs := vs) fun v hv => List.all_eq_true.mp hp5 v hv
                      rw [hw5] at this; exact this
                    · cases l2
                  | true =>
                    rw [if_pos rfl] at l2 ⊢
                    split at l2
                    · rename_i y e5 hf5
                      split at l2
                      · rename_i hz
                        refine ⟨_, G5, e4, s5, y, e5, hf5, fun G6 v H6 g6 s6 rv => ?_⟩
                        have hDn : H6 Dn = some (.lst ws) := by
                          obtain ⟨fp, sf⟩ := s6
                          exact (sf.pro (Dn, .lst ws) (by simp [Fm.with])).1
                        refine ⟨ws, hDn, sz_lt (by rw [rw_.length]; exact hz.1), G6, wipeE e5 vs, ac ++ [y], ws ++ [v], g2.trans (g3.trans (g5.trans g6)), (rw_.mono (g3.trans (g5.trans g6))).append (.cons rv .nil), ?_, l2⟩
                        have := (s6.setPro (ob' := .lst (ws ++ [v])) f0 npr).wipe (vs := vs) fun v hv => List.all_eq_true.mp hz.2 v hv
                        rw [hw5] at this; exact this
                      · cases l2
                    · cases l2
                · cases l2
          · refine .inl ⟨it.stop i H2 (g2.trans s2.sub) (by omega), ?_⟩
            rw [List.drop_eq_nil_of_le (by omega)] at l2
            unfold lcL at l2
            cases l2
            obtain ⟨hH, hG, hf⟩ : H2 Dn = some (.lst ws) ∧ G2 Dn = none ∧ True := by
              obtain ⟨fp, sf⟩ := s2
              obtain ⟨a, b, _⟩ := sf.pro (Dn, .lst ws) (by simp [Fm.with])
              exact ⟨a, b, trivial⟩
            have s3 := Sim.rest s' g2 (vs := vs) hpl' hpe' (by rw [s2.lenSt, wipe_length, hlen]) s2
            rw [foldr_wipe hvl] at s3
            obtain ⟨fp, sf⟩ := s3
            have hfp := (sf.pro (Dn, .lst ws) (by simp [Fm.with])).2.2
            obtain ⟨fp', sf'⟩ : Sim C.M C.F G2 (restE e1 e' vs) σ H2 := Sim.dropPro ⟨fp, sf⟩
            refine p G2 (.ref Dn) H2 (g.trans g2) ⟨fp, [Dn], ?_, ⟨Dn, ws, rfl, rfl, hH, rw_⟩, fun a m => ?_⟩
            · exact { len := sf.len, low := sf.low, hnt := sf.hnt, sub := sf.sub, frm := sf.frm, dom := sf.dom, new := sf.new, at_ := sf.at_, dj := sf.dj, own := sf.own, bor := sf.bor, gnt := sf.gnt, tab := sf.tab, kep := sf.kep, pin := sf.pin, pnt := fun q m => sf.pnt q (List.mem_cons_of_mem _ m), pro := fun q m => sf.pro q (List.mem_cons_of_mem _ m) }
            · have : a = Dn := by simpa using m
              subst this
              exact ⟨hG, f0, hfp, npr⟩
        · exact p.elim
      · exact p.elim
    · exact p.elim

theorem sAsgO_run {f : EM OO} {i : Nat} {D : Ends} {σ : L2.St} {H : Hp} (p : tOfS C (sAsgO f i) D σ H) : tOfO C f σ H (fun v H' => gName i v σ H' D.nx) := by
  obtain ⟨G, e, s, p⟩ := p
  refine ⟨G, e, s, ?_⟩
  unfold sAsgO sB bnd at p
  revert p
  cases f e with
  | ok o e1 =>
    intro p G' v H' g s'
    show D.nx (σ.set i (some v)) H'
    have p : PostS C G ((putO i o e1).s fun _ e => .next e) D := p
    unfold putO at p
    split at p
    · exact p.elim
    · exact p.elim
    · exact p.elim
    · rename_i sv hn hn2 q
      refine p G' _ H' g (s'.put (lt_of_get q) fun z => ?_)
      rw [getD_of q] at z
      cases sv with
      | none => exact z
      | some w => cases w with
                  | val _ => exact z
                  | own _ => exact z
                  | bor o => exact hn o rfl
                  | pin => exact hn2 rfl
  | exc x e1 => exact fun p G' H' cls d g s' r => p G' σ H' cls d g s' r
  | bad => exact id
theorem o_lc {scope : Scope} {elt tg iter : Expr} {ifs : List Expr} {pos : Pos} {t : Bool} {is : List Nat} {fi : EM (List D)} {c : EM Bool} {f : EM D} (own : List (Str × Nat)) (V') (Gs') (hc : C.X.calm = true) (ok : okBlk N V scope own V' Gs' = true)
    (hi : SI C tg iter fi)
    (hg : ∀ s H Ca cl fp F, CT (C.blk ok s H Ca cl fp F) tg t is) (ht : ∀ s H Ca cl fp F, STs (C.blk ok s H Ca cl fp F) ifs c) (he : ∀ s H Ca cl fp F, SE (C.blk ok s H Ca cl fp F) elt f)
    (his : (is.all fun i => (own.map (·.2)).contains i) = true := by decide) (hs : ∀ x, foldedSetIterable iter C.X.env x = pure x := by intro _; rfl) :
    SO C (.ListComp elt [⟨tg, iter, ifs, 0⟩] scope pos) (oLc (own.map (·.2)) t is fi c f) := by
  have his' : ∀ i ∈ is, i ∈ own.map (·.2) := fun i hi => by
    have := List.all_eq_true.mp his i hi
    simpa using this
  refine PE.imp (pe_lc (g := tgt C.X.K t is) (own := own) (te := tOfB (Rep C.M) C.M f) (tt := tOfB (fun _ b c => b = c) C.M c) hc C.nd hi (okBlk_ok C ok) (fun s H Ca cl fp => hg s H Ca cl fp C.F) (fun s H Ca cl fp => ⟨fun pins s' σ H' Q I q => ?_⟩) (fun s H Ca cl fp => ⟨fun pins s' σ H' Q I q => ?_⟩) hs) ?_
  · obtain ⟨F, G, e, sm, q⟩ := q
    exact (ht s H Ca cl fp F).run pins s' σ H' Q I (tOf_B (C' := C.blk ok s H Ca cl fp F) rfl rfl sm q)
  · obtain ⟨F, G, e, sm, q⟩ := q
    exact (he s H Ca cl fp F).run pins s' σ H' Q I (tOf_B (C' := C.blk ok s H Ca cl fp F) rfl rfl sm q)
  · exact fun σ H Q p => lc_run his' σ H Q p

theorem s_setLc (i : Nat) {y : Str} {scope : Scope} {elt tg iter : Expr} {ifs : List Expr} {pos spos py : Pos} {t : Bool} {is : List Nat} {fi : EM (List D)} {c : EM Bool} {f : EM D} (own : List (Str × Nat)) (V') (Gs') (hc : C.X.calm = true) (ok : okBlk N V scope own V' Gs' = true)
    (hi : SI C tg iter fi)
    (hg : ∀ s H Ca cl fp F, CT (C.blk ok s H Ca cl fp F) tg t is) (ht : ∀ s H Ca cl fp F, STs (C.blk ok s H Ca cl fp F) ifs c) (he : ∀ s H Ca cl fp F, SE (C.blk ok s H Ca cl fp F) elt f)
    (hN : N[i]? = some y := by rfl) (hV : V[i]? = some 2 := by rfl) (hl : (py.line == spos.line) = true := by rfl) (hn : (py.line == pos.line) = true := by rfl) (ha : (scope.names.any fun (n, k) => n == y && (k == .local || k == .cell)) = false := by decide +kernel)
    (his : (is.all fun i => (own.map (·.2)).contains i) = true := by decide) (hs : ∀ x, foldedSetIterable iter C.X.env x = pure x := by intro _; rfl) :
    SS C (.Assign [.Name y py] (.ListComp elt [⟨tg, iter, ifs, 0⟩] scope pos) spos) (sAsgO (oLc (own.map (·.2)) t is fi c f) i) := by
  have his' : ∀ i ∈ is, i ∈ own.map (·.2) := fun i hi => by
    have := List.all_eq_true.mp his i hi
    simpa using this
  have hk : C.X.env.scope.names.lookup y = some .local := C.loc i y hN hV
  have hsw : swapsWith (.ListComp elt [⟨tg, iter, ifs, 0⟩] scope pos) (some (.Name y py)) spos.line C.X.env = pure true := by
    have ky : C.X.env.kindOf y = some .local := hk
    unfold swapsWith
    simp only [C.fun_, ky, ha, Expr.pos, hn]
    rfl
  refine PS.imp (ps_setLc (i := i) (g := tgt C.X.K t is) (own := own) (te := tOfB (Rep C.M) C.M f) (tt := tOfB (fun _ b c => b = c) C.M c) hc C.nd (by rw [C.hN]; exact hN) hk hsw hi (okBlk_ok C ok) (fun s H Ca cl fp => hg s H Ca cl fp C.F) (fun s H Ca cl fp => ⟨fun pins s' σ H' Q I q => ?_⟩) (fun s H Ca cl fp => ⟨fun pins s' σ H' Q I q => ?_⟩) hs) ?_
  · obtain ⟨F, G, e, sm, q⟩ := q
    exact (ht s H Ca cl fp F).run pins s' σ H' Q I (tOf_B (C' := C.blk ok s H Ca cl fp F) rfl rfl sm q)
  · obtain ⟨F, G, e, sm, q⟩ := q
    exact (he s H Ca cl fp F).run pins s' σ H' Q I (tOf_B (C' := C.blk ok s H Ca cl fp F) rfl rfl sm q)
  · exact fun D σ H p => lc_run his' σ H _ (sAsgO_run p)
end
end Cs

set_option maxRecDepth 100000
set_option maxHeartbeats 4000000
namespace Cs
open PySem L2

/-! ## isinstance -/
section
variable {N : List Str} {V : List Nat} {Gs : List Str} {C : GC N V Gs}
/-- an expression that is a class -/
def ClsE (X : Cx) (e : Expr) (cv : Value) : Prop := ∃ v, ClsV v cv ∧ PE X e (tC v)
theorem cl_own {x : Str} {pos : Pos} {Ct : Addr} (C : GC N V Gs) (j : Nat) (hm : C.X.mg x = some (.ref Ct)) (hg : Gs[j]? = some x := by rfl) (hdb : (x == ("__debug__" : Str)) = false := by decide +kernel) : ClsE C.X (.Name x pos) (.ref Ct) :=
  ⟨.ref Ct, .own Ct, pe_glob (C.gl j _ hg) hm rfl hdb⟩
theorem cl_ty {x : Str} {pos : Pos} {n : String} (C : GC N V Gs) (j : Nat) (hm : C.X.mg x = none) (hv : bootBuiltins x = some (.type n)) (hg : Gs[j]? = some x := by rfl) (hn : x ≠ "__name__" := by decide +kernel) (hdb : (x == ("__debug__" : Str)) = false := by decide +kernel) : ClsE C.X (.Name x pos) (.type n) :=
  ⟨.ty n, .ty n, pe_bltn (C.gl j _ hg) hm hv rfl hn hdb⟩
inductive Ty where
  | int | bool | str | tuple | list | dict | none
deriving DecidableEq
def Ty.nm : Ty → String
  | .int => "int" | .bool => "bool" | .str => "str" | .tuple => "tuple" | .list => "list" | .dict => "dict" | .none => "NoneType"
def D.ty : D → Option Ty
  | .non => some .none
  | .bl _ => some .bool
  | .int _ => some .int
  | .str _ => some .str
  | .tup _ => some .tuple
  | .lst _ => some .list
  | .scr _ => some .list
  | .dic _ => some .dict
  | _ => none
theorem RepH.tyX {G H : Hp} {v : L2.V} {d : D} {M : Mdl} {t : Ty} (r : RepH M G H v d) (s : GE G H) (h : d.ty = some t) : TyX M.K H v (.type t.nm) := by
  have own : ∀ (o : OO) (fp : List Addr), OwnAt M G H o v fp → o.fr.ty = some t → TyX M.K H v (.type t.nm) := fun o fp ow q => by
    cases o with
    | lst ds => obtain ⟨a, vs, rfl, rfl, h', _⟩ := ow; cases q; exact .base (.lst h')
    | dicK ds => obtain ⟨a, vs, rfl, rfl, h', _⟩ := ow; cases q; exact .base (.dK h')
    | dicT ds => obtain ⟨a, vs, rfl, rfl, h', _⟩ := ow; cases q; exact .base (.dT h')
    | ins c ds => cases q
  rcases r with r | ⟨o, fp, ow, rfl⟩
  · cases r with
    | non => cases h; exact .base .non
    | bl b => cases h; exact .base (.bl b)
    | int b => cases h; exact .base (.int b)
    | str b => cases h; exact .base (.str b)
    | tup q r =>
      cases h
      rcases sqt_ge s q with (q | ⟨o, q⟩) | ⟨o, its, n, h1, h2, _⟩
      · exact .base (.tup q)
      · exact .fTuple q
      · exact .kTuple h1 h2
    | lst q r => cases h; exact .base (.lst (s _ _ q))
    | scr q r =>
      cases h
      rcases sql_ge s q with (q | ⟨o, q⟩) | ⟨o, its, n, h1, h2, _⟩
      · exact .base (.lst q)
      · exact .base (.frz q)
      · exact .kList h1 h2
    | dicK q r => cases h; exact .base (.dK (s _ _ q))
    | dicT q r => cases h; exact .base (.dT (s _ _ q))
    | ins q m r => cases h
    | fn q => cases h
  · exact own o fp ow h
/-- what one must know of the class cv to ask for it: its answers for the built-in kinds, for own classes (by tab) -/
structure IsiK (C : GC N V Gs) (cv : Value) (ty : Ty → Bool) (tab : List (Str × Bool)) : Prop where
  ty : ∀ t : Ty, PySem.W.kitOne C.X.K (.type t.nm) cv = some (ty t)
  own : ∀ p ∈ tab, ∃ Ca, C.X.mg p.1 = some (.ref Ca) ∧ Cls C.X.K Ca ∧ PySem.W.findIn C.X.K (.ref Ca) "__class__" = some (some (.builtin "object.__class__")) ∧ PySem.W.specialIn C.X.K (.builtin "object.__class__") "__get__" = some (some (.builtin "getset_descriptor.__get__")) ∧
    PySem.W.takesIn C.X.K (.builtin "object.__class__") = some true ∧ PySem.W.mroIn C.X.K Ca (.type "object") = some true ∧ PySem.W.kitOne C.X.K (.ref Ca) cv = some p.2
def isiD (ty : Ty → Bool) (tab : List (Str × Bool)) (d : D) : Option Bool := match d with
  | .ins c _ => tab.lookup c
  | d => d.ty.map ty
theorem lookup_mem' {α β : Type} [BEq α] [LawfulBEq α] {a : α} {b : β} : ∀ {l : List (α × β)}, l.lookup a = some b → (a, b) ∈ l
  | [], h => by cases h
  | (x, y) :: r, h => by
    rw [List.lookup_cons] at h
    split at h
    · rename_i q; cases h; rw [eq_of_beq q]; simp
    · exact List.mem_cons_of_mem _ (lookup_mem' h)
/-- d's type -/
def TV (C : GC N V Gs) (d : D) (t : Value) : Prop := (∃ ty, d.ty = some ty ∧ t = .type ty.nm) ∨ ∃ c fs Ca, d = .ins c fs ∧ C.X.mg c = some (.ref Ca) ∧ t = .ref Ca
theorem TV.kit {d : D} {t cv : Value} {ty : Ty → Bool} {tab : List (Str × Bool)} {b : Bool} (h : TV C d t) (k : IsiK C cv ty tab) (q : isiD ty tab d = some b) : PySem.W.kitOne C.X.K t cv = some b := by
  rcases h with ⟨u, hu, rfl⟩ | ⟨c, fs, Ca, rfl, hm, rfl⟩
  · have : d.ty.map ty = some b := by
      cases d with
      | ins c fs => cases hu
      | _ => exact q
    rw [hu] at this; cases this
    exact k.ty u
  · obtain ⟨Cb, hm', _, _, _, _, _, h5⟩ := k.own _ (lookup_mem' q)
    dsimp only at hm'
    rw [hm] at hm'; cases hm'
    exact h5
theorem RepH.isi {G H : Hp} {v : L2.V} {d : D} {cv : Value} {ty : Ty → Bool} {tab : List (Str × Bool)} {b : Bool} (k : IsiK C cv ty tab) (r : RepH C.M G H v d) (s : GE G H) (h : isiD ty tab d = some b) : ∃ t, TyX C.X.K H v t ∧ TV C d t := by
  have gen : ∀ t, d.ty = some t → ∃ t, TyX C.X.K H v t ∧ TV C d t := fun t ht => ⟨_, r.tyX s ht, .inl ⟨t, ht, rfl⟩⟩
  cases d with
  | ins c fs =>
    obtain ⟨Ca, hm, cl, h1, h2, h3, h4, h5⟩ := k.own _ (lookup_mem' h)
    have key : ∃ a dx fs', v = .ref a ∧ H a = some (.ins Ca dx fs') := by
      rcases r with r | ⟨o, fp, ow, e⟩
      · cases r with
        | ins q m r =>
          have : C.X.mg c = _ := m
          dsimp only at hm
          rw [hm] at this
          cases this
          exact ⟨_, _, _, rfl, s _ _ q⟩
      · cases o with
        | lst _ => cases e
        | dicK _ => cases e
        | dicT _ => cases e
        | ins c' ds =>
          cases e
          obtain ⟨a, Cb, dx, vs, rfl, rfl, m, q, _⟩ := ow
          have : C.X.mg c = _ := m
          dsimp only at hm
          rw [hm] at this
          cases this
          exact ⟨_, _, _, rfl, q⟩
    obtain ⟨a, dx, fs', rfl, q⟩ := key
    exact ⟨_, .base (.ins q cl h1 h2 h3 h4), .inr ⟨_, _, _, rfl, hm, rfl⟩⟩
  | non => exact gen _ rfl
  | bl _ => exact gen _ rfl
  | int _ => exact gen _ rfl
  | str _ => exact gen _ rfl
  | tup _ => exact gen _ rfl
  | lst _ => exact gen _ rfl
  | scr _ => exact gen _ rfl
  | dic _ => exact gen _ rfl
  | fn _ => cases h
def eIsi (f : EM Rd) (g : D → Option Bool) : EM D := bnd f fun r => rdG r fun d => ofO ((g d).map .bl)
/-- isinstance(a, T) -/
theorem d_isi {x : Str} {a t : Expr} {p pos : Pos} {f : EM Rd} {cv : Value} {ty : Ty → Bool} {tab : List (Str × Bool)} (j : Nat) (hm : C.X.mg x = none) (k : IsiK C cv ty tab) (hx : x = "isinstance" := by rfl) (ha : SB C a f) (ht : ClsE C.X t cv) (hg : Gs[j]? = some x := by rfl)
    (he : starEach [a, t] C.X.env = (false, eval a C.X.env) :: starEach [t] C.X.env := by rfl) (he2 : starEach [t] C.X.env = (false, eval t C.X.env) :: starEach [] C.X.env := by rfl) (hpl : (backTo pos (starEach [t] C.X.env)).any (·.1) = false := by rfl) :
    SE C (.Call (.Name x p) [a, t] [] pos) (eIsi f (isiD ty tab)) := by
  subst hx
  obtain ⟨cvv, kc, hc⟩ := ht
  refine (pe_callB (r := rIsi C.X.K) call_isi (C.gl j _ hg) hm (by decide +kernel) (pa_cons ha (pa_cons hc pa_nil he2) he) (by decide +kernel) (by decide +kernel) he hpl).imp fun σ H Q ⟨G, e, t⟩ => ?_
  refine (Run.bind t).imp fun v H1 ⟨r, G1, e1, g1, r1, t1⟩ => ?_
  obtain ⟨d, q, t2⟩ := t1.rdG
  obtain ⟨bd, q2, s, kk⟩ := t2.ofO
  cases q3 : isiD ty tab d with
  | none => rw [q3] at q2; cases q2
  | some b =>
    rw [q3] at q2
    cases q2
    obtain ⟨tt, h1, h2⟩ := (r1.now s q).isi k s.sub q3
    exact ⟨v, cvv, tt, cv, b, rfl, kc, h1, h2.kit k q3, kk G1 _ H1 (GE.refl _) s (.bl b)⟩
/-- isinstance(a, (T1, T2, ..)) -/
inductive ClsEs (X : Cx) : List Expr → List Value → Prop
  | nil : ClsEs X [] []
  | cons {e : Expr} {es : List Expr} {cv : Value} {cvs : List Value} : ClsE X e cv → ClsEs X es cvs → starEach (e :: es) X.env = (false, eval e X.env) :: starEach es X.env → ClsEs X (e :: es) (cv :: cvs)
theorem clsEs_run {X : Cx} : ∀ {es : List Expr} {cvs : List Value}, ClsEs X es cvs → ∃ vs, Paired ClsV vs cvs ∧ PA X es (fun σ H Q => Q vs H)
  | _, _, .nil => ⟨[], .nil, pa_nil⟩
  | _, _, .cons ⟨v, k, h⟩ t hs => by
    obtain ⟨vs, p, h'⟩ := clsEs_run t
    exact ⟨v :: vs, .cons k p, pa_cons h h' hs⟩
theorem paired_len {α β : Type} {R : α → β → Prop} : ∀ {l : List α} {l' : List β}, Paired R l l' → l.length = l'.length
  | _, _, .nil => rfl
  | _, _, .cons _ t => by rw [List.length_cons, List.length_cons, paired_len t]
theorem Sim.growH {M : Mdl} {F : Fm} {G H : Hp} {e : Env} {σ : L2.St} {p : Addr} {ob : HO} (s : Sim M F G e σ H) (hp : H p = none) : Sim M F G e σ (upd H p ob) := by
  have gp := free_of_ge s.sub hp
  obtain ⟨fp, s⟩ := s
  exact ⟨fp, s.grow (G' := G) (H' := upd H p ob) (GE.refl _) (fun b u q => by rw [upd_ne (ne_of_none q gp)]; exact s.sub b u q) (fun b u q => by rw [upd_ne (ne_of_none q hp)]; exact q) (fun b q => .inl q) s.gnt⟩
def isiAny : List (D → Option Bool) → D → Option Bool
  | [], _ => some false
  | g :: gs, d => match g d with
    | some true => some true
    | some false => isiAny gs d
    | none => none
inductive IsiKs (C : GC N V Gs) : List Value → List (D → Option Bool) → Prop
  | nil : IsiKs C [] []
  | cons {cv : Value} {ty : Ty → Bool} {tab : List (Str × Bool)} {cvs : List Value} {gs : List (D → Option Bool)} : IsiK C cv ty tab → IsiKs C cvs gs → IsiKs C (cv :: cvs) (isiD ty tab :: gs)
theorem IsiKs.kit {d : D} {t : Value} (h : TV C d t) : ∀ {cvs : List Value} {gs : List (D → Option Bool)} {b : Bool}, IsiKs C cvs gs → isiAny gs d = some b → PySem.W.kitAny C.X.K t cvs = some b
  | _, _, _, .nil, q => by cases q; rfl
  | _, _, b, .cons (ty := ty) (tab := tab) k ks, q => by
    unfold isiAny at q
    unfold PySem.W.kitAny
    split at q
    · rename_i q1; cases q; rw [h.kit k q1]
    · rename_i q1; rw [h.kit k q1]; exact IsiKs.kit h ks q
    · cases q
theorem d_isiT {x : Str} {a : Expr} {ts : List Expr} {n : Nat} {p p2 pos : Pos} {f : EM Rd} {cvs : List Value} {gs : List (D → Option Bool)} (j : Nat) (hm : C.X.mg x = none) (k : IsiKs C cvs gs) (hx : x = "isinstance" := by rfl) (ha : SB C a f) (ht : ClsEs C.X ts cvs) (hg : Gs[j]? = some x := by rfl)
    (hne : gs ≠ [] := by simp) (he : starEach [a, .Tuple ts n p2] C.X.env = (false, eval a C.X.env) :: starEach [.Tuple ts n p2] C.X.env := by rfl) (he2 : starEach [.Tuple ts n p2] C.X.env = (false, eval (.Tuple ts n p2) C.X.env) :: starEach [] C.X.env := by rfl) (hpl : (backTo pos (starEach [.Tuple ts n p2] C.X.env)).any (·.1) = false := by rfl) (hl : cvs.length ≤ sizeLine := by rw [sizeLine_eq]; decide) :
    SE C (.Call (.Name x p) [a, .Tuple ts n p2] [] pos) (eIsi f (isiAny gs)) := by
  subst hx
  obtain ⟨vs, pv, hc⟩ := clsEs_run ht
  refine (pe_callB (r := rIsiT C.X.K) call_isiT (C.gl j _ hg) hm (by decide +kernel) (pa_cons ha (pa_cons (pe_tup hc) pa_nil he2) he) (by decide +kernel) (by decide +kernel) he hpl).imp fun σ H Q ⟨G, e, t⟩ => ?_
  refine (Run.bind t).imp fun v H1 ⟨r, G1, e1, g1, r1, t1⟩ => ?_
  obtain ⟨d, q, t2⟩ := t1.rdG
  obtain ⟨bd, q2, s, kk⟩ := t2.ofO
  cases q3 : isiAny gs d with
  | none => rw [q3] at q2; cases q2
  | some b =>
    rw [q3] at q2
    cases q2
    refine ⟨by rw [paired_len pv]; exact hl, fun pa hpa => ?_⟩
    have s2 : Sim C.M C.F G1 e1 σ (upd H1 pa (.tup vs)) := s.growH hpa
    have rh := r1.now s2 q
    obtain ⟨tt, h1, h2⟩ : ∃ t, TyX C.X.K (upd H1 pa (.tup vs)) v t ∧ TV C d t := by
      cases k with
      | nil => exact absurd rfl hne
      | cons k ks =>
        unfold isiAny at q3
        split at q3
        · rename_i q4; exact rh.isi k s2.sub q4
        · rename_i q4; exact rh.isi k s2.sub q4
        · cases q3
    exact ⟨v, pa, vs, tt, cvs, b, rfl, upd_same, pv, h1, k.kit h2 q3, kk G1 _ _ (GE.refl _) s2 (.bl b)⟩
end
end Cs

set_option maxRecDepth 100000
set_option maxHeartbeats 4000000
namespace L2
open PySem PySem.Spec PyProof.Rows
/-- isinstance(e, c), e the exception that the suite holds, with or without a dict -/
def rIsED (K : PySem.W.Frag) (D a : Addr) (d : Option Addr) : List V → Hp → VK → Prop := fun xs H Q => ∃ (c : V) (cv : Value) (b : Bool), xs = [.ref a, c] ∧ (∀ u, RelV c u → u = cv) ∧ (d = none ∨ ∃ dd fs, d = some dd ∧ H dd = some (.xd fs)) ∧ PySem.W.kitOne K (.ref D) cv = some b ∧ Q (.bl b) H
theorem call_isED {X : Cx} {a D : Addr} {d : Option Addr} {oe : Obj} {pn : List (Addr × Obj)} (C : ExcC X.K D) (hz : Zc (.ref D) d oe) (hf : ∃ vs, oe.data = .fields vs) : CallR (X.suite a ((a, oe) :: pn)) (.builtin "isinstance") (rIsED X.K D a d) := by
  intro pins s σ H xs us Q I r h
  obtain ⟨c, cv, b, rfl, hcv, hd, e, q⟩ := h
  cases r with
  | cons rx rr =>
    cases rr with
    | cons rt rr =>
      cases rr
      cases rx
      have ec := hcv _ rt
      subst ec
      obtain ⟨hget, _⟩ := I.pin (a, oe) (List.mem_append.mpr (.inl List.mem_cons_self))
      obtain ⟨vs, hv⟩ := hf
      obtain ⟨od, J⟩ : ∃ od, PySem.W.InstAt s.heap a oe D od := by
        rcases hd with rfl | ⟨dd, fs, rfl, ha⟩
        · refine ⟨none, hget, hz.1, ?_, ?_⟩
          · unfold PySem.W.notCls; rw [hv] <;> rfl
          · rw [hz.2]; trivial
        · have hx : ObjOk X.prog X.w H s.heap dd (.xd fs) := I.hok dd _ ha
          obtain ⟨mA, hns, hr⟩ := hx
          obtain ⟨od, ho, hl⟩ := lookIn_ns hns
          exact ⟨some od, hget, hz.1, by unfold PySem.W.notCls; rw [hv] <;> rfl, by rw [hz.2]; exact ho⟩
      have hcl : (PySem.W.clsIn X.K D).isSome = true := by
        obtain ⟨cd, hc, _⟩ := PySem.W.any_some C.hd
        rw [hc]; rfl
      exact PySem.W.kia_one (PySem.W.kitx_exc hcl C.hg C.hk C.hs C.ha C.hn C.ht C.hm) I.kIn J e (fun z => nomatch z) fun tk => ⟨.bl b, H, I.kept (t' := tk) fun _ _ z => z, rfl, q⟩
end L2
namespace Cs
open PySem L2

/-! ## try .. except X as n -/
def PostW (M : Mdl) (F : Fm) (W : WX) (G : Hp) (r : SR) (D : Ends) : Prop :=
  match r with
  | .next e => ∀ G' σ' H', GE G G' → Sim M F G' e σ' H' → D.nx σ' H'
  | .ret d e => ∀ G' σ' v H', GE G G' → Sim M F G' e σ' H' → Rep M G' v d → D.rt v H'
  | .retO o e => ∀ G' σ' v H', GE G G' → SimO M F G' e σ' H' o v → D.rt v H'
  | .exc x e => ∀ G' σ' H' cls d, GE G G' → Sim M F G' e σ' H' → ExcAt M G' H' cls d x → W cls d σ' H'
  | .bad => False
def kepX (d : Option Addr) (x : XV) (vs : List V) : List (Addr × HO) := match d with
  | some dx => [(dx, .xd ((x.fs.map (·.1)).zip vs))]
  | none => []
/-- the frame while the error x is in hand, at a, in slot i -/
def Fm.su (F : Fm) (i : Nat) (a : Addr) (d : Option Addr) (x : XV) (vs : List V) : Fm := { F with pin := (i, .ref a) :: F.pin, kep := kepX d x vs ++ F.kep }
section
variable {M : Mdl} {F : Fm} {G : Hp} {e : Env} {σ : L2.St} {H : Hp}
theorem Sim.pinIn {i : Nat} {a : Addr} {d : Option Addr} {x : XV} {vs : List V} (s : Sim M F G e σ H) (hi : plainSlot e[i]? = true) (hk : ∀ p ∈ kepX d x vs, H p.1 = some p.2) :
    Sim M (F.su i a d x vs) G (e.set i (some .pin)) (σ.set i (some (.ref a))) H := by
  obtain ⟨fp, s⟩ := s
  obtain ⟨il, nb⟩ := plain_nb hi
  have hx : ∀ p ∈ kepX d x vs, ist p.2 = false ∧ ownk p.2 = false := fun p hp => by
    cases d with
    | none => cases hp
    | some dx => rw [List.mem_singleton.mp hp]; exact ⟨rfl, rfl⟩
  refine ⟨fps fp i [], ?_⟩
  exact {
    len := by simpa using s.len
    sub := s.sub
    frm := s.frm
    low := s.low
    hnt := s.hnt
    gnt := s.gnt
    tab := s.tab
    dom := s.dom
    new := s.new
    at_ := fun j => by
      by_cases z : j = i
      · subst z; rw [getD_set_eq il, fps_eq]; rfl
      · rw [getD_set_ne z, getD_set_ne z, fps_ne z]; exact s.at_ j
    dj := fun j k b njk m => by
      by_cases zj : j = i
      · subst zj; rw [fps_eq] at m; cases m
      · rw [fps_ne zj] at m
        by_cases zk : k = i
        · subst zk; rw [fps_eq]; intro m'; cases m'
        · rw [fps_ne zk]; exact s.dj j k b njk m
    own := fun j b m => by
      by_cases z : j = i
      · subst z; rw [fps_eq] at m; cases m
      · rw [fps_ne z] at m; rw [getD_set_ne z]; exact s.own j b m
    bor := fun p hp => by
      obtain ⟨x, y⟩ := s.bor p hp
      have : p.1 ≠ i := fun z => nb (z ▸ x.bor)
      rw [getD_set_ne this, getD_set_ne this]; exact ⟨x, y⟩
    pin := fun p hp => by
      rcases List.mem_cons.mp hp with rfl | hp
      · exact ⟨getD_set_eq il, getD_set_eq (by rw [← s.len]; exact il)⟩
      · obtain ⟨x, y⟩ := s.pin p hp
        have : p.1 ≠ i := fun z => nb (by rw [← z, x]; trivial)
        rw [getD_set_ne this, getD_set_ne this]; exact ⟨x, y⟩
    pnt := s.pnt
    kep := fun p hp => by
      rcases List.mem_append.mp hp with hp | hp
      · exact ⟨hk p hp, hx p hp⟩
      · exact s.kep p hp
    pro := fun p hp => by
      obtain ⟨x, y, z⟩ := s.pro p hp
      refine ⟨x, y, fun j m => ?_⟩
      by_cases zj : j = i
      · subst zj; rw [fps_eq] at m; cases m
      · rw [fps_ne zj] at m; exact z j m }
theorem Sim.unsu {i : Nat} {a : Addr} {d : Option Addr} {x : XV} {vs : List V} (s : Sim M (F.su i a d x vs) G e σ H) : Sim M F G e σ H := by
  obtain ⟨fp, s⟩ := s
  exact ⟨fp, { len := s.len, sub := s.sub, frm := s.frm, low := s.low, hnt := s.hnt, dom := s.dom, new := s.new, at_ := s.at_, dj := s.dj, own := s.own, bor := s.bor, gnt := s.gnt, tab := s.tab, pnt := s.pnt, kep := fun q m => s.kep q (List.mem_append_right _ m), pin := fun q m => s.pin q (List.mem_cons_of_mem _ m), pro := s.pro }⟩
theorem SimO.unsu {i : Nat} {a : Addr} {d : Option Addr} {x : XV} {vs : List V} {o : OO} {v : V} (s : SimO M (F.su i a d x vs) G e σ H o v) : SimO M F G e σ H o v := by
  obtain ⟨fp, f, s, r⟩ := s
  exact ⟨fp, f, { len := s.len, sub := s.sub, frm := s.frm, low := s.low, hnt := s.hnt, dom := s.dom, new := s.new, at_ := s.at_, dj := s.dj, own := s.own, bor := s.bor, gnt := s.gnt, tab := s.tab, pnt := s.pnt, kep := fun q m => s.kep q (List.mem_append_right _ m), pin := fun q m => s.pin q (List.mem_cons_of_mem _ m), pro := s.pro }, r⟩
/-- the slot is forgotten behind the suite -/
theorem Sim.unpin {i : Nat} {v : Option V} (s : Sim M F G e σ H) (h : e.getD i none = some .pin) (hp : ∀ p ∈ F.pin, p.1 ≠ i) : Sim M F G (e.set i none) (σ.set i v) H := by
  obtain ⟨fp, s⟩ := s
  have il : i < e.length := lt_of_get (get_of_getD h)
  refine ⟨fps fp i [], ?_⟩
  exact {
    len := by simpa using s.len
    sub := s.sub
    frm := s.frm
    low := s.low
    hnt := s.hnt
    gnt := s.gnt
    tab := s.tab
    dom := s.dom
    new := s.new
    at_ := fun j => by
      by_cases z : j = i
      · subst z; rw [getD_set_eq il, fps_eq]; rfl
      · rw [getD_set_ne z, getD_set_ne z, fps_ne z]; exact s.at_ j
    dj := fun j k b njk m => by
      by_cases zj : j = i
      · subst zj; rw [fps_eq] at m; cases m
      · rw [fps_ne zj] at m
        by_cases zk : k = i
        · subst zk; rw [fps_eq]; intro m'; cases m'
        · rw [fps_ne zk]; exact s.dj j k b njk m
    own := fun j b m => by
      by_cases z : j = i
      · subst z; rw [fps_eq] at m; cases m
      · rw [fps_ne z] at m; rw [getD_set_ne z]; exact s.own j b m
    bor := fun p hp => by
      obtain ⟨x, y⟩ := s.bor p hp
      have : p.1 ≠ i := fun z => by rw [z, h] at x; exact x
      rw [getD_set_ne this, getD_set_ne this]; exact ⟨x, y⟩
    pin := fun p hpp => by
      obtain ⟨x, y⟩ := s.pin p hpp
      rw [getD_set_ne (hp p hpp), getD_set_ne (hp p hpp)]; exact ⟨x, y⟩
    pnt := s.pnt
    kep := s.kep
    pro := fun p hp => by
      obtain ⟨x, y, z⟩ := s.pro p hp
      refine ⟨x, y, fun j m => ?_⟩
      by_cases zj : j = i
      · subst zj; rw [fps_eq] at m; cases m
      · rw [fps_ne zj] at m; exact z j m }
end
section
variable {N : List Str} {V : List Nat} {Gs : List Str} {C : GC N V Gs}
theorem postS_w {G : Hp} {r : SR} {D : Ends} : PostS C G r D ↔ PostW C.M C.F C.W G r D := by cases r <;> exact Iff.rfl
/-- the body's place -/
def GC.tr (C : GC N V Gs) (W : WX) (pn : List (Addr × Obj)) (xe : Value → Shared → Prop) (tk : Takes (C.X.tr pn xe) W) (po : PassesOwn (model C.X.prog C.X.w) C.X.A C.X.env xe) : GC N V Gs :=
  { C with X := C.X.tr pn xe, W := W, tk := tk, po := po }
/-- the suite's place -/
def GC.su (C : GC N V Gs) (i : Nat) (a : Addr) (oe : Obj) (pn : List (Addr × Obj)) (d : Option Addr) (x : XV) (vs : List L2.V) : GC N V Gs :=
  { C with X := C.X.suite a ((a, oe) :: pn), F := C.F.su i a d x vs, W := fun _ _ _ _ => False, tk := takes0, po := PassesOwn.never }
/-- what is known of the error -/
structure SuOk (C : GC N V Gs) (oe : Obj) (d : Option Addr) (x : XV) (vs : List L2.V) : Prop where
  cls : ∃ Cx : Addr, C.X.mg x.cls = some (.ref Cx) ∧ Zc (.ref Cx) d oe
  dat : ∃ ws, oe.data = .fields ws
  fld : (x.fs = [] ∧ d = none) ∨ (∃ dx, d = some dx ∧ vs.length = x.fs.length ∧ Reps C.M emp vs (x.fs.map (·.2)))
/-- the clause's answer for each class -/
def CatOk (C : GC N V Gs) (c : Value) (tab : List (Str × Bool)) : Prop := ∀ p ∈ tab, ∀ Cx : Addr, C.X.mg p.1 = some (.ref Cx) → PySem.W.exmOne C.X.K (.ref Cx) c = some p.2
def isPin : Option SV → Bool
  | some .pin => true
  | _ => false
theorem isPin_eq {s : Option SV} (h : isPin s = true) : s = some .pin := by
  cases s with
  | none => cases h
  | some z => cases z <;> first | rfl | cases h
def unpinR (i : Nat) : SR → SR
  | .next e => if isPin (e.getD i none) then .next (e.set i none) else .bad
  | .ret d e => .ret d e
  | .retO o e => .retO o e
  | .exc _ _ => .bad
  | .bad => .bad
def sTry (tab : List (Str × Bool)) (i : Nat) (f : ES) (g : XV → ES) : ES := fun e => match f e with
  | .exc x e1 => match tab.lookup x.cls with
    | some true => if plainSlot e1[i]? then unpinR i (g x (e1.set i (some .pin))) else .bad
    | some false => .exc x e1
    | none => .bad
  | r => r
theorem s_try {x n : Str} {c : Value} {body suite : List Stmt} {b₀ : Stmt} {np pos pos' : Pos} {tab : List (Str × Bool)} {f : ES} {g : XV → ES} (i : Nat) (hs : C.X.stack = C.X.env :: C.X.outer) (hf : C.X.env.frame = some C.X.env.locals) (hc : Names C.X x c) (ht : CatOk C c tab)
    (hb : ∀ W pn xe tk po, SSs (C.tr W pn xe tk po) body f) (hg : ∀ a oe pn d y vs, SuOk C oe d y vs → SSs (C.su i a oe pn d y vs) (b₀ :: suite) (g y)) (hN : N[i]? = some n := by rfl) (hV : V[i]? = some 2 := by rfl) :
    SS C (.Try body [.ExceptHandler (some (.Name x np)) (some n) (b₀ :: suite) pos'] [] [] pos) (sTry tab i f g) := by
  refine (ps_try_as (i := i) (Wout := C.W) (tb := fun W D σ H => ∃ G e, Sim C.M C.F G e σ H ∧ PostW C.M C.F W G (f e) D)
    (ts := fun a cls d D σ H => ∃ G e y vs, (∃ Cx : Addr, cls = .ref Cx ∧ C.X.mg y.cls = some (.ref Cx)) ∧ ((y.fs = [] ∧ d = none) ∨ (∃ dx, d = some dx ∧ vs.length = y.fs.length ∧ Reps C.M emp vs (y.fs.map (·.2)))) ∧ Sim C.M (C.F.su i a d y vs) G e σ H ∧ PostW C.M (C.F.su i a d y vs) (fun _ _ _ _ => False) G (g y e) D)
    hs hf C.nd (by rw [C.hN]; exact hN) (C.loc i n hN hV) hc C.tk (fun W pn xe tk po => ?_) (fun a oe cls d pn hz hd => ?_)).imp fun D σ H ⟨G, e, s, p⟩ => ⟨G, e, s, ?_⟩
  · exact (hb W pn xe tk po).imp fun D σ H ⟨G, e, s, p⟩ => ⟨G, e, s, postS_w.mpr p⟩
  · refine ⟨fun pins s σ H D I q => ?_⟩
    obtain ⟨G, e, y, vs, ⟨Cx, rfl, hm⟩, hfl, sm, p⟩ := q
    have sok : SuOk C oe d y vs := ⟨⟨Cx, hm, hz⟩, hd, hfl⟩
    exact (hg a oe pn d y vs sok).run pins s σ H D I ⟨G, e, sm, postS_w.mpr p⟩
  · unfold sTry at p
    cases q : f e with
    | next e1 => rw [q] at p; exact p
    | ret d e1 => rw [q] at p; exact p
    | retO o e1 => rw [q] at p; exact p
    | bad => rw [q] at p; exact p.elim
    | exc y e1 =>
      rw [q] at p
      dsimp only at p
      intro G' σ' H' cls d ge s' ex
      obtain ⟨Cx, rfl, hm, hfl⟩ := id ex
      cases q2 : tab.lookup y.cls with
      | none => rw [q2] at p; exact p.elim
      | some b =>
        rw [q2] at p
        refine ⟨b, ht _ (lookup_mem' q2) Cx hm, fun hb a na => ?_, fun hb => ?_⟩
        · subst hb
          dsimp only at p
          split at p
          · rename_i hpl
            obtain ⟨vs, hfl2, hk⟩ : ∃ vs, ((y.fs = [] ∧ d = none) ∨ (∃ dx, d = some dx ∧ vs.length = y.fs.length ∧ Reps C.M emp vs (y.fs.map (·.2)))) ∧ ∀ p ∈ kepX d y vs, H' p.1 = some p.2 := by
              rcases hfl with ⟨h1, h2⟩ | ⟨dx, vs, h1, h2, h3, h4⟩
              · exact ⟨[], .inl ⟨h1, h2⟩, fun p hp => by rw [h2] at hp; cases hp⟩
              · refine ⟨vs, .inr ⟨dx, h1, h3, h4⟩, fun p hp => ?_⟩
                rw [h1] at hp
                rw [List.mem_singleton.mp hp]; exact h2
            have hnp : ∀ p ∈ C.F.pin, p.1 ≠ i := fun p hp z => by
              obtain ⟨fp, sf⟩ := s'
              have := (sf.pin p hp).1
              exact (plain_nb hpl).2 (by rw [← z, this]; trivial)
            refine ⟨G', e1.set i (some .pin), y, vs, ⟨Cx, rfl, hm⟩, hfl2, s'.pinIn hpl hk, ?_⟩
            have p := p.mono ge
            revert p
            cases g y (e1.set i (some .pin)) with
            | next e2 =>
              intro p G2 σ2 H2 g2 s2
              have p : PostS C G' (if isPin (e2.getD i none) then .next (e2.set i none) else .bad) D := p
              split at p
              · rename_i hpin
                exact p G2 _ H2 g2 (s2.unsu.unpin (isPin_eq hpin) hnp)
              · exact p.elim
            | ret d2 e2 => exact fun p G2 σ2 v H2 g2 s2 r2 => p G2 σ2 v H2 g2 s2.unsu r2
            | retO o2 e2 => exact fun p G2 σ2 v H2 g2 s2 => p G2 σ2 v H2 g2 s2.unsu
            | exc _ _ => exact fun p => p.elim
            | bad => exact fun p => p.elim
          · exact p.elim
        · subst hb
          exact p G' σ' H' _ d ge s' ex

/-! ### in the suite -/
/-- isinstance(error, T) -/
def IsEOk (C : GC N V Gs) (cv : Value) (tab : List (Str × Bool)) : Prop := ∀ p ∈ tab, ∀ Cx : Addr, C.X.mg p.1 = some (.ref Cx) → ExcC C.X.K Cx ∧ PySem.W.kitOne C.X.K (.ref Cx) cv = some p.2
def eIsE (tab : List (Str × Bool)) (x : XV) : EM D := ofO ((tab.lookup x.cls).map .bl)
theorem d_isE {x n : Str} {t : Expr} {p p1 pos : Pos} {cv : Value} {tab : List (Str × Bool)} {i : Nat} {a : Addr} {oe : Obj} {pn : List (Addr × Obj)} {d : Option Addr} {y : XV} {vs : List L2.V} (j : Nat) (so : SuOk C oe d y vs) (k : IsEOk C cv tab) (hm : C.X.mg x = none) (ht : ClsE (C.su i a oe pn d y vs).X t cv) (hx : x = "isinstance" := by rfl) (hg : Gs[j]? = some x := by rfl) (hN : N[i]? = some n := by rfl) (hV : V[i]? = some 2 := by rfl)
    (hdd : (n == ("__debug__" : Str)) = false := by decide +kernel) (hcd : (n == ("__classdict__" : Str)) = false := by decide +kernel)
    (he : starEach [.Name n p1, t] C.X.env = (false, eval (.Name n p1) C.X.env) :: starEach [t] C.X.env := by rfl) (he2 : starEach [t] C.X.env = (false, eval t C.X.env) :: starEach [] C.X.env := by rfl) (hpl : (backTo pos (starEach [t] C.X.env)).any (·.1) = false := by rfl) :
    SE (C.su i a oe pn d y vs) (.Call (.Name x p) [.Name n p1, t] [] pos) (eIsE tab y) := by
  subst hx
  obtain ⟨cvv, kc, hc⟩ := ht
  obtain ⟨Cx, hmx, hz⟩ := so.cls
  cases q : tab.lookup y.cls with
  | none => exact ⟨fun pins s σ H Q I ⟨G, e, s', p⟩ => by unfold eIsE at p; rw [q] at p; exact p.elim⟩
  | some b =>
    obtain ⟨ec, hb⟩ := k _ (lookup_mem' q) Cx hmx
    refine (pe_callB (r := rIsED C.X.K Cx a d) (call_isED ec hz so.dat) (C.gl j _ hg) hm (by decide +kernel) (pa_cons (pe_var (i := i) (by show C.X.N[i]? = _; rw [C.hN]; exact hN) (.inl (C.loc i n hN hV)) hdd hcd) (pa_cons hc pa_nil he2) he) (by decide +kernel) (by decide +kernel) he hpl).imp fun σ H Q ⟨G, e, s, p⟩ => ?_
    unfold eIsE at p
    rw [q] at p
    obtain ⟨fp, sf⟩ := id s
    obtain ⟨_, h2⟩ := sf.pin (i, .ref a) (by simp [GC.su, Fm.su])
    refine ⟨.ref a, get_of_getD h2, cvv, cv, b, rfl, fun u r => kc.eq r, ?_, hb, p G _ H (GE.refl _) s (.bl b)⟩
    rcases so.fld with ⟨_, h⟩ | ⟨dx, h, _⟩
    · exact .inl h
    · exact .inr ⟨dx, (y.fs.map (·.1)).zip vs, h, (sf.kep (dx, .xd ((y.fs.map (·.1)).zip vs)) (List.mem_append_left _ (by rw [h]; simp [kepX]))).1⟩
/-- error.f -/
def eXf (cs : List Str) (f : Str) (x : XV) : EM D := if cs.contains x.cls then ofO (x.fs.lookup f) else fail
def XfOk (C : GC N V Gs) (cs : List Str) (f : Str) : Prop := ∀ c ∈ cs, ∀ Cx : Addr, C.X.mg c = some (.ref Cx) → XfC C.X.K Cx ∧ PySem.W.findIn C.X.K (.ref Cx) f = some none
theorem lookup_zip {f : Str} {d : D} : ∀ {fs : List (Str × D)} {vs : List L2.V} {M : Mdl} {G : Hp}, vs.length = fs.length → Reps M G vs (fs.map (·.2)) → fs.lookup f = some d → ∃ v, ((fs.map (·.1)).zip vs).lookup f = some v ∧ Rep M G v d
  | [], _, _, _, _, _, h => by cases h
  | (a, b) :: r, [], _, _, hl, _, _ => by cases hl
  | (a, b) :: r, v :: vs, M, G, hl, .cons r1 r2, h => by
    rw [List.lookup_cons] at h
    show ∃ v', List.lookup f ((a, v) :: (r.map (·.1)).zip vs) = some v' ∧ _
    rw [List.lookup_cons]
    split at h
    · rename_i q; cases h; exact ⟨v, rfl, r1⟩
    · rename_i q; exact lookup_zip (by simpa using hl) r2 h
theorem d_xf {n f : Str} {p1 pos : Pos} {cs : List Str} {i : Nat} {a : Addr} {oe : Obj} {pn : List (Addr × Obj)} {d : Option Addr} {y : XV} {vs : List L2.V} (so : SuOk C oe d y vs) (k : XfOk C cs f) (hN : N[i]? = some n := by rfl) (hV : V[i]? = some 2 := by rfl)
    (hdd : (n == ("__debug__" : Str)) = false := by decide +kernel) (hcd : (n == ("__classdict__" : Str)) = false := by decide +kernel) (hb : attributeBase (.Name n p1) f C.X.env (eval (.Name n p1) C.X.env) = eval (.Name n p1) C.X.env := by rfl) :
    SE (C.su i a oe pn d y vs) (.Attribute (.Name n p1) f pos) (eXf cs f y) := by
  obtain ⟨Cx, hmx, hz⟩ := so.cls
  by_cases hc : cs.contains y.cls = true
  · obtain ⟨T, hno⟩ := k y.cls (by simpa using hc) Cx hmx
    refine (pe_xf T hno hz so.dat (pe_var (i := i) (by show C.X.N[i]? = _; rw [C.hN]; exact hN) (.inl (C.loc i n hN hV)) hdd hcd) hb).imp fun σ H Q ⟨G, e, s, p⟩ => ?_
    unfold eXf at p
    rw [if_pos hc] at p
    obtain ⟨fp, sf⟩ := id s
    obtain ⟨_, h2⟩ := sf.pin (i, .ref a) (by simp [GC.su, Fm.su])
    cases q : y.fs.lookup f with
    | none => rw [q] at p; exact p.elim
    | some df =>
      rw [q] at p
      rcases so.fld with ⟨h, _⟩ | ⟨dx, h, hl, hr⟩
      · rw [h] at q; cases q
      · obtain ⟨v, hv, rv⟩ := lookup_zip hl hr q
        have hx := (sf.kep (dx, .xd ((y.fs.map (·.1)).zip vs)) (List.mem_append_left _ (by rw [h]; simp [kepX]))).1
        exact ⟨.ref a, get_of_getD h2, rfl, rfl, dx, _, v, h, hx, hv, p G v H (GE.refl _) s (rv.mono (GE.emp G))⟩
  · exact ⟨fun pins s σ H Q I ⟨G, e, s', p⟩ => by unfold eXf at p; rw [if_neg hc] at p; exact p.elim⟩
end
end Cs

set_option maxRecDepth 100000
set_option maxHeartbeats 4000000
/-! lambdas that are handed to a def -/
namespace LamX
open PySem PySem.Spec PyProof.Rows L2
section
variable {X : Cx} {pins : List (Addr × Obj)} {σ : L2.St} {H : Hp} {s : Shared}
/-- x() in the def that got the lambda; its errors by the slots where it stands -/
theorem pe_actS {Eg : XK} {CXg : CXT} {Ng : List Str} {qg : Str} {sg : Scope} {g f c' : Addr} {cdg pm ctv : Value} {params : Arguments} {body : Expr} {scope : Scope} {k i : Nat} {a : Str} {pn : List (Addr × Obj)} {xe : Value → Shared → Prop} {W : WX} {tb : XK → TE} {p1 p2 : Pos}
    (I : Inv X pins σ H s) (L : LamS X.env.scope scope) (hf : s.heap.get? f = some (PySem.W.kla_obj "<lambda>" (X.env.qual ++ "<lambda>") params body scope (cloFrom X.env.cells scope.names []) pm c' ctv)) (hfn : H f = none) (hfr : f ∉ frs X.stack)
    (hbind : bindArgs (PySem.W.kla_fn "<lambda>" (X.env.qual ++ "<lambda>") params body scope (cloFrom X.env.cells scope.names []) pm (.ref c') ctv) ⟨[], []⟩ = pure [])
    (tk : Takes ((cxOf CXg X.prog X.w X.K X.mg X.base Ng qg sg g cdg X.A X.stack s H Eg).tr pn xe) W) (hr : Room (k + 1) (X.A.deeper (envOfC qg sg s.heap.objs.size g cdg)))
    (hbody : ∀ (E : XK) (A : Around) (outer : List Env) (s : Shared) (H : Hp), A.guards = X.A.guards → Room k (A.deeper (lamEnv X scope s.heap.objs.size f c')) → PE (lamCx X A outer s H E scope f c') body (tb E))
    (hN : Ng[i]? = some a) (hv : Vis sg a) (hd : (a == ("__debug__" : Str)) = false) (hcd : (a == ("__classdict__" : Str)) = false) :
    PE ((cxOf CXg X.prog X.w X.K X.mg X.base Ng qg sg g cdg X.A X.stack s H Eg).tr pn xe) (.Call (.Name a p1) [] [] p2)
      (fun σZ HZ Q => σZ[i]? = some (some (.ref f)) ∧ HZ c' = some (CodeO c' (X.env.qual ++ "<lambda>")) ∧ tb (fun cls d H' => W cls d σZ H') σ HZ Q) := by
  constructor
  intro pz sz σz Hz Q Iz ⟨hs, hc, ht⟩
  refine wpAny_Call_Name_kw (thn ((pe_var (pos := p1) (i := i) hN hv hd hcd).run pz sz σz Hz (fun v H1 => v = .ref f ∧ H1 = Hz) Iz ⟨.ref f, hs, rfl, rfl⟩) ?_)
  rintro u s1 ⟨v, H1, I1, r1, rfl, rfl⟩
  obtain rfl : u = Value.ref f := r1
  have of1 := I1.base.keep f _ hf hfn hfr (fun z => nomatch (show f ∈ ([] : List Addr) from z))
  refine PySem.W.callWith_F0 ⟨_, _, _, _, of1⟩ ?_
  obtain ⟨⟨oc, vs, t, hoc, hdc, hvc⟩, _, _⟩ := I1.hok c' _ hc
  have rc : codeAny (model X.prog X.w) (X.A.deeper (envOfC qg sg s.heap.objs.size g cdg)) (.call (.ref f) ⟨[], []⟩) (CR (L2.CX X.prog X.w) (envOfC qg sg s.heap.objs.size g cdg :: X.stack) X.prog X.w H1 s1 Q (fun cls d H' => W cls d σz H')) s1 := by
    refine PySem.W.kla_callFunE hr.depth of1 rfl L.co L.gen rfl ⟨c', oc, vs, t, rfl, hoc, hdc, hvc⟩ ?_
    rw [hbind]
    refine wpAny_pure (wpAny_newFunctionEnv (fun y hy => (L.own y hy).2) (fun y hy => absurd hy (by simp)) (fun h₁ hns hsb => ⟨I1.nolimit.fresh _ hsb, ?_⟩) L.kind)
    show codeAny _ _ (.expr body (lamEnv X scope s1.heap.objs.size f c')) _ _
    have J := lam_start2 (A := X.A.deeper (envOfC qg sg s.heap.objs.size g cdg)) (outer := envOfC qg sg s.heap.objs.size g cdg :: X.stack) (f := f) (c' := c') (tk := s1.toks + ([] : List (Str × Value)).length) (E := fun cls d H' => W cls d σz H') I L I1.env0 hr.hd I1.base hns fun b o e => hsb.extBut b o (Nat.ne_of_lt (Heap.lt_size e)) (Heap.get?_push_of_some _ e)
    refine PySem.W.kla_codeExpr (wpAny_mono ((hbody _ (X.A.deeper (envOfC qg sg s.heap.objs.size g cdg)) _ s1 H1 rfl (hr.deeper _)).run [] _ _ H1 Q J ht) ?_ fun e s' hq => hq)
    rintro v s' ⟨w', H', J', rv, q⟩
    exact ⟨w', H', J'.os, J'.bare, J'.base, J'.hok, rv, q⟩
  refine wpAny_call (codeAny_mono rc fun r s' hq => ?_)
  cases r with
  | error e => exact tk e s' (XE.of_call I1 (fun cls d H' h => h) hq)
  | ok fl =>
    cases fl with
    | ret u => exact I1.after hq
    | next => exact False.elim hq
    | brk => exact False.elim hq
    | cont => exact False.elim hq
end
/-- the def that calls what it got -/
def GivesS (X : Cx) (Ng : List Str) (x : Str) (sg : Scope) (g : Addr) (cdg : Value) (bg : List Stmt) (a : Str) (q : Str) (TT : (XK → Hp → VK → Prop) → Hp → VK → Prop) : Prop :=
  ∀ (f c' : Addr) (s : Shared) (H : Hp) (Q : VK) (tl : XK → Hp → VK → Prop), X.A.units + 67 < cLine →
    (∀ (W : WX) (pn : List (Addr × Obj)) (xe : Value → Shared → Prop) (p1 p2 : Pos), Takes ((cxOf C8.CX0 X.prog X.w X.K X.mg X.base Ng x sg g cdg X.A X.stack s H C8.E0).tr pn xe) W →
      PE ((cxOf C8.CX0 X.prog X.w X.K X.mg X.base Ng x sg g cdg X.A X.stack s H C8.E0).tr pn xe) (.Call (.Name a p1) [] [] p2) (fun σZ HZ Q => σZ[0]? = some (some (.ref f)) ∧ HZ c' = some (CodeO c' q) ∧ tl (fun cls d H' => W cls d σZ H') HZ Q)) →
    H c' = some (CodeO c' q) → TT tl H Q →
    ∃ t, PSs (cxOf C8.CX0 X.prog X.w X.K X.mg X.base Ng x sg g cdg X.A X.stack s H C8.E0).nox bg t ∧ t { nx := fun _ H' => Q .non H', rt := Q } (L2.start Ng [.ref f]) H
section
variable {X : Cx}
/-- x(lambda: body) -/
theorem pe_lamcallS {T : List (Addr × Str)} {TT : (XK → Hp → VK → Prop) → Hp → VK → Prop} {x a : Str} {g c P : Addr} {k : Nat} {pg : Arguments} {bg : List Stmt} {sg : Scope} {dV kV doc pm cdv ct oc : Value} {an od : Option Addr} {osl : Array (Option Value)} {Ng : List Str}
    {params : Arguments} {body : Expr} {scope : Scope} {t : XK → TE} {p lpos pos : Pos} (hg : Gl X x) (hm : X.mg x = some (.ref g)) (hk : PySem.W.keepIn X.K (.ref g) = true)
    (lk : X.K.lookup g = some ⟨oc, od, .func (PySem.W.fnOf x x pg bg sg dV kV doc pm an cdv ct), osl⟩) (hcg : PySem.W.codeIn X.K cdv x = true) (hb : L2.Binds X.K (PySem.W.fnOf x x pg bg sg dV kV doc pm an cdv ct) [a] []) (Sg : FnScope Ng [a] sg) (hNg : Ng[0]? = some a) (hva : Vis sg a)
    (hG : GivesS X Ng x sg g cdv bg a (X.env.qual ++ "<lambda>") TT)
    (TB : TabB X.base X.mg c P) (hcode : X.env.code = .ref c) (hmT : (P, X.env.qual ++ "<lambda>") ∈ T) (hu : ∀ p ∈ T, p.1 = P → p.2 = X.env.qual ++ "<lambda>") (hr : Room (k + 2) X.A) (L : LamS X.env.scope scope) (hdef : defaultsOf params X.env = ([], []))
    (hbind : ∀ (q : Str) (cl : List (Str × Addr)) (pm cv ctv : Value), bindArgs (PySem.W.kla_fn "<lambda>" q params body scope cl pm cv ctv) ⟨[], []⟩ = pure [])
    (hbody : ∀ (E : XK) (A : Around) (outer : List Env) (s : Shared) (H : Hp) (f c' : Addr), A.guards = X.A.guards → Room k (A.deeper (lamEnv X scope s.heap.objs.size f c')) → PE (lamCx X A outer s H E scope f c') body (t E))
    (hdb : (x == ("__debug__" : Str)) = false) (hd : (a == ("__debug__" : Str)) = false) (hcd : (a == ("__classdict__" : Str)) = false) :
    PE X (.Call (.Name x p) [.Lambda params body scope lpos] [] pos) (tLam T TT t) := by
  constructor
  intro pins s σ H Q I ⟨hT, h⟩
  refine wpAny_Call_Name_kw (ld_glob I hg hm ?_ hdb)
  refine PySem.W.callWith_K (h₀ := X.base) I.ok.mod.kin hk ?_ (by rfl) (by rfl)
  show wpAny _ _ (spliced ((false, eval (.Lambda params body scope lpos) X.env) :: backTo pos (starEach [] X.env))) _ _ s
  refine Calls.spliced_cons (lam_make2 I TB hcode hmT hu hT hdef (L.has I.ok) fun f c' pm' ctv H1 s' I1 eN T1 hf hfn hfr hco => ?_)
  refine Calls.spliced_nil ⟨I1.kIn, ?_⟩
  have rc : codeAny (model X.prog X.w) X.A (.call (.ref g) ⟨[.ref f], []⟩) (CR C8.CX0 X.stack X.prog X.w H1 s' Q C8.E0) s' := by
    refine run_ofS (N := Ng) (ps := [a]) (us := [.ref f]) (vs := [.ref f]) lk hcg Sg hr I1.env0 (hb s' [.ref f] I1.kIn rfl) (.cons rfl .nil) rfl fun hr' => ?_
    obtain ⟨t', ht', hq'⟩ := hG f c' s' H1 Q (fun E H' Q' => t E σ H' Q') (by have := hr.un; omega) (fun W pn xe p1 p2 tk => pe_actS (i := 0) I1 L hf hfn hfr (hbind _ _ _ _ _) tk hr' (fun E A outer s H hg2 hr2 => hbody E A outer s H f c' hg2 hr2) hNg hva hd hcd) hco (h H1 eN T1)
    exact ⟨t', ht'.nox, hq'⟩
  refine wpAny_call (codeAny_mono rc fun r s2 hq => ?_)
  cases r with
  | error e => exact (show False from hq).elim
  | ok fl =>
    cases fl with
    | ret u => exact I1.after hq
    | next => exact False.elim hq
    | brk => exact False.elim hq
    | cont => exact False.elim hq
end
end LamX

set_option maxRecDepth 100000
set_option maxHeartbeats 4000000
namespace Cs
open PySem L2 PyProof.Rows

/-! ## lambdas -/
def okLam (N : List Str) (V : List Nat) (scope : Scope) (V' : List Nat) (Gs' : List Str) : Bool :=
  decide (scope.kind = .function) && (!scope.isCoroutine && (!scope.isGenerator && ((scope.names.all fun y => match y.2 with
    | .local => false
    | .cell => false
    | .free => (List.range N.length).any fun i => decide (N[i]? = some y.1) && (decide (V[i]? = some 1) || decide (V[i]? = some 3))
    | _ => true) && (((N.zip V').all fun p => match p.2 with
    | 1 => (match scope.names.lookup p.1 with | some .free => true | _ => false)
    | 0 => true
    | _ => false) && (Gs'.all fun x => match scope.names.lookup x with | some .globalImplicit => true | _ => false)))))
section
variable {N : List Str} {V V' : List Nat} {Gs Gs' : List Str} {scope : Scope}
theorem okLam_ok (C : GC N V Gs) (h : okLam N V scope V' Gs' = true) : LamX.LamS C.X.env.scope scope := by
  unfold okLam at h
  simp only [Bool.and_eq_true, Bool.not_eq_true', decide_eq_true_eq] at h
  obtain ⟨h1, h2, h3, h4, _⟩ := h
  simp only [List.all_eq_true] at h4
  refine ⟨h1, h2, h3, fun y hy => ?_, fun y hy e => ?_⟩
  · have q := h4 y hy
    constructor <;> (intro e; rw [e] at q; cases q)
  · have q := h4 y hy
    rw [e] at q
    obtain ⟨i, _, q⟩ := List.any_eq_true.mp q
    rw [Bool.and_eq_true, Bool.or_eq_true] at q
    have hN := of_decide_eq_true q.1
    rcases q.2 with q | q
    · exact C.fre i _ hN (of_decide_eq_true q)
    · exact .inl (C.cel i _ hN (of_decide_eq_true q)).1
theorem okLam_get (h : okLam N V scope V' Gs' = true) {i : Nat} {x : Str} {v : Nat} (hN : N[i]? = some x) (hV : V'[i]? = some v) : match v with
    | 1 => scope.names.lookup x = some .free
    | 0 => True
    | _ => False := by
  unfold okLam at h
  simp only [Bool.and_eq_true] at h
  obtain ⟨_, _, _, _, h, _⟩ := h
  simp only [List.all_eq_true] at h
  have hm : (x, v) ∈ N.zip V' := by
    apply List.mem_of_getElem? (i := i)
    rw [List.getElem?_zip_eq_some]
    exact ⟨hN, hV⟩
  have := h (x, v) hm
  revert this
  dsimp only
  split
  · intro z; split at z
    · assumption
    · cases z
  · intro _; trivial
  · intro z; cases z
theorem okLam_gl (h : okLam N V scope V' Gs' = true) {j : Nat} {x : Str} (hG : Gs'[j]? = some x) : scope.names.lookup x = some .globalImplicit := by
  unfold okLam at h
  simp only [Bool.and_eq_true] at h
  obtain ⟨_, _, _, _, _, h⟩ := h
  simp only [List.all_eq_true] at h
  have := h x (List.mem_of_getElem? hG)
  revert this
  split
  · intro _; assumption
  · intro z; cases z
/-- the place of a lambda's body -/
def GC.lm (C : GC N V Gs) (ok : okLam N V scope V' Gs' = true) (A : Around) (outer : List PySem.Env) (s : Shared) (H : Hp) (E : XK) (f c' : Addr) (F : Fm) (hu : (A.deeper (LamX.lamEnv C.X scope s.heap.objs.size f c')).units + 64 < cLine)
    (hnl : ∀ P, (P, ((C.X.env.qual ++ "<lambda>") ++ ".<locals>.") ++ "<lambda>") ∉ C.T) (gA : A.guards = C.X.A.guards) : GC N V' Gs' where
  X := LamX.lamCx C.X A outer s H E scope f c'
  F := F
  W := fun cls d _ H => E cls d H
  lv := 0
  hN := C.hN
  nd := C.nd
  vis := fun i x hN hV => by
    rcases hV with hV | hV | hV
    · exact .inr (.inr (okLam_get ok hN hV))
    · exact (okLam_get ok hN hV).elim
    · exact (okLam_get ok hN hV).elim
  loc := fun i x hN hV => (okLam_get ok hN hV).elim
  cel := fun i x hN hV => (okLam_get ok hN hV).elim
  fre := fun i x hN hV => .inr (okLam_get ok hN hV)
  fun_ := by
    show PySem.Env.blockKind _ = .function
    unfold PySem.Env.blockKind
    have hk := (okLam_ok C ok).kind
    show (if scope.kind.isAnnotationScope = true then ScopeKind.function else scope.kind) = .function
    rw [hk]; rfl
  gl := fun j x h => okLam_gl ok h
  tk := takes_of rfl rfl rfl rfl
  po := passes_of rfl
  hu := hu
  T := C.T
  tu := C.tu
  lam := fun P h => (hnl P h).elim
  gb := C.gb
  gd := fun h => gA.trans (C.gd h)
end
/-- behind: nothing lent -/
def postL (M : Mdl) (G H : Hp) (r : R D) (E : XK) (Q : VK) : Prop := match r with
  | .ok d _ => ∀ G' v H', Exit M G H G' H' [] [] → Rep M G' v d → Q v H'
  | .exc x _ => ∀ G' H' cls d, Exit M G H G' H' [] [] → ExcAt M G' H' cls d x → E cls d H'
  | .bad => False
/-- what a lambda sees of its maker's slots -/
def capE : Env → List Nat → Env
  | [], _ => []
  | _ :: r, [] => none :: capE r []
  | s :: r, v :: vs => (if v = 1 then (match s with | some (.val d) => some (.val d) | _ => none) else none) :: capE r vs
theorem capE_len : ∀ {e : Env} {vs : List Nat}, (capE e vs).length = e.length
  | [], _ => rfl
  | _ :: r, [] => by unfold capE; simp [capE_len]
  | s :: r, v :: vs => by unfold capE; simp [capE_len]
theorem capE_val : ∀ {e : Env} {vs : List Nat} (i : Nat), (capE e vs).getD i none = none ∨ ∃ d, (capE e vs).getD i none = some (.val d) ∧ e.getD i none = some (.val d)
  | [], _, i => .inl (by unfold capE; simp)
  | s :: r, [], 0 => .inl rfl
  | s :: r, [], i + 1 => capE_val (e := r) (vs := []) i
  | s :: r, v :: vs, 0 => by
    by_cases z : v = 1
    · cases s with
      | none => left; unfold capE; rw [if_pos z]; rfl
      | some w =>
        cases w with
        | val d => right; refine ⟨d, ?_, rfl⟩; unfold capE; rw [if_pos z]; rfl
        | own _ => left; unfold capE; rw [if_pos z]; rfl
        | bor _ => left; unfold capE; rw [if_pos z]; rfl
        | pin => left; unfold capE; rw [if_pos z]; rfl
    · left; unfold capE; rw [if_neg z]; rfl
  | s :: r, v :: vs, i + 1 => capE_val (e := r) (vs := vs) i
/-- the slots of a lambda: values only -/
structure LSim (M : Mdl) (G : Hp) (e : Env) (σ : L2.St) (H : Hp) : Prop where
  len : e.length = σ.length
  sub : GE G H
  gnt : ∀ a o, G a = some o → ist o = false
  tab : LamX.Tabs M.T H
  at_ : ∀ i, e.getD i none = none ∨ ∃ d v, e.getD i none = some (.val d) ∧ σ.getD i none = some v ∧ Rep M G v d
theorem LSim.grow {M : Mdl} {G G' H' : Hp} {e : Env} {σ : L2.St} {H : Hp} (s : LSim M G e σ H) (g : GE G G') (sub : GE G' H') (gnt : ∀ a o, G' a = some o → ist o = false) (tab : LamX.Tabs M.T H') : LSim M G' e σ H' :=
  ⟨s.len, sub, gnt, tab, fun i => (s.at_ i).imp id fun ⟨d, v, a, b, c⟩ => ⟨d, v, a, b, c.mono g⟩⟩
def fm0 (G H : Hp) : Fm := ⟨nt H, G, [], [], [], [], []⟩
theorem LSim.sim {M : Mdl} {G : Hp} {e : Env} {σ : L2.St} {H : Hp} (s : LSim M G e σ H) : Sim M (fm0 G H) G e σ H := ⟨fun _ => [], {
  len := s.len
  sub := s.sub
  low := GE.refl _
  hnt := fun a o h => (nt_some h).2
  frm := fun a o h _ => (nt_some h).1
  gnt := s.gnt
  tab := s.tab
  dom := fun a h => h
  new := fun a h => .inl h
  at_ := fun i => by
    rcases s.at_ i with h | ⟨d, v, a, b, c⟩
    · rw [h]; rfl
    · rw [a, b]; exact ⟨rfl, v, rfl, c⟩
  dj := fun i j a _ m => by cases m
  own := fun i a m => by cases m
  bor := fun p m => by cases m
  pin := fun p m => by cases m
  pro := fun p m => by cases m
  pnt := fun p m => by cases m
  kep := fun p m => by cases m }⟩
theorem exit0_of {M : Mdl} {F : Fm} {G H G' H' : Hp} {e : Env} {σ : L2.St} (g : GE G G') (h0 : F.H0 = nt H) (hg : F.G0 = G) (hio : F.io = []) (s : Sim M F G' e σ H') : Exit M G H G' H' [] [] := by
  obtain ⟨fp, s⟩ := s
  exact ⟨g, s.sub, fun a o h _ n => s.frm a o (by rw [h0]; exact nt_of h n) (by rw [hio]; simp), s.gnt, s.tab, fun a h => s.dom a (by rw [h0]; exact h), fun a h => by rw [← hg, ← h0]; exact s.new a h, .nil⟩
section
variable {N : List Str} {V V' : List Nat} {Gs Gs' : List Str} {scope : Scope}
/-- a lambda's reading -/
def tL (M : Mdl) (fl : EM D) (E : XK) : TE := fun σ H Q => ∃ G e, LSim M G e σ H ∧ postL M G H (fl e) E Q
theorem lam_body {body : Expr} {fl : EM D} {k : Nat} (C : GC N V Gs) (ok : okLam N V scope V' Gs' = true) (hnl : ∀ P, (P, ((C.X.env.qual ++ "<lambda>") ++ ".<locals>.") ++ "<lambda>") ∉ C.T)
    (hb : ∀ A outer s H E f c' F hu gA, Room k (A.deeper (LamX.lamEnv C.X scope s.heap.objs.size f c')) → SE (C.lm ok A outer s H E f c' F hu hnl gA) body fl)
    (E : XK) (A : Around) (outer : List PySem.Env) (s : Shared) (H : Hp) (f c' : Addr) (gA : A.guards = C.X.A.guards) (hr : Room k (A.deeper (LamX.lamEnv C.X scope s.heap.objs.size f c'))) : PE (LamX.lamCx C.X A outer s H E scope f c') body (tL C.M fl E) := by
  refine ⟨fun pins s' σ H' Q I ⟨G, e, ls, p⟩ => ?_⟩
  refine (hb A outer s H E f c' (fm0 G H') (by have := hr.un; omega) gA hr).run pins s' σ H' Q I ⟨G, e, ls.sim, ?_⟩
  revert p
  cases fl e with
  | ok d e1 => exact fun p G' v H2 g s2 r => p G' v H2 (exit0_of (F := fm0 G H') g rfl rfl rfl s2) r
  | exc x e1 => exact fun p G' H2 cls d g s2 r => p G' H2 cls d (exit0_of (F := fm0 G H') g rfl rfl rfl s2) r
  | bad => exact fun p => p
end

/-! ### the def that is handed one -/
/-- what it makes of the lambda's result r: a value -/
def TTg (M : Mdl) (gs : R D → R D) : (XK → Hp → VK → Prop) → Hp → VK → Prop := fun tl H Q => ∃ G r, GE G H ∧ (∀ a o, G a = some o → ist o = false) ∧ LamX.Tabs M.T H ∧
  (∀ GZ HZ E Q', Exit M G H GZ HZ [] [] → postL M GZ HZ r E Q' → tl E HZ Q') ∧ postL M G H (gs r) (fun _ _ _ => False) Q
/-- the call of what was handed in -/
def eAct (r : R D) : EM D := fun e => match r with
  | .ok d _ => .ok d e
  | .exc x _ => .exc x e
  | .bad => .bad
/-- the body's run -/
def runAct (n : Nat) (b : ES) : R D := match b (some .pin :: List.replicate (n - 1) none) with
  | .next _ => .ok .non []
  | .ret d _ => .ok d []
  | _ => .bad
section
variable {P : Program} {w : World} {K : PySem.W.Frag} {mg : Str → Option Value} {base : Heap}
/-- the place of such a def's body -/
def gcAct {N : List Str} {V : List Nat} {Gs : List Str} {sg : Scope} {a : Str} (S : FnScope N [a] sg) (ok : okScope sg N V Gs = true) (qual : Str) (f : Addr) (cd : Value) (A : Around) (outer : List PySem.Env) (s : Shared) (H : Hp) (F : Fm)
    (hu : (A.deeper (envOfC qual sg s.heap.objs.size f cd)).units + 64 < cLine) (T : List (Addr × Str)) (tu : ∀ p ∈ T, ∀ q ∈ T, p.1 = q.1 → p.2 = q.2) (hnl : ∀ Pt, (Pt, (qual ++ ".<locals>.") ++ "<lambda>") ∉ T) (gb : Bool) (gd : gb = true → A.guards = some []) : GC N V Gs where
  X := (cxOf C8.CX0 P w K mg base N qual sg f cd A outer s H C8.E0).nox
  F := F
  W := fun _ _ _ _ => False
  lv := 0
  hN := rfl
  nd := S.nd
  vis := fun i x hN hV => by
    rcases hV with hV | hV | hV
    · exact (okScope_get ok hN hV).elim
    · exact .inl (okScope_get ok hN hV)
    · exact .inr (.inl (okScope_get ok hN hV))
  loc := fun i x hN hV => okScope_get ok hN hV
  cel := fun i x hN hV => ⟨okScope_get ok hN hV, rfl⟩
  fre := fun i x hN hV => (okScope_get ok hN hV).elim
  fun_ := by
    show PySem.Env.blockKind _ = .function
    unfold PySem.Env.blockKind
    show (if sg.kind.isAnnotationScope = true then ScopeKind.function else sg.kind) = .function
    rw [S.kind]
    rfl
  gl := fun j x h => okScope_gl ok h
  tk := takes0
  po := PassesOwn.never
  hu := hu
  T := T
  tu := tu
  lam := fun P h => (hnl P h).elim
  gb := gb
  gd := gd
end
/-- such a call at a place: the pinned slot 0 -/
def ActAt {N : List Str} {V : List Nat} {Gs : List Str} (C : GC N V Gs) (a : Str) (r : R D) : Prop := ∀ p1 p2, SE C (.Call (.Name a p1) [] [] p2) (eAct r)
section
variable {N : List Str} {V : List Nat} {Gs : List Str} {C : GC N V Gs}
/-- that a def makes gs of what it is handed -/
structure LamDef (C : GC N V Gs) (x : Str) (gs : R D → R D) : Prop where
  ex : ∃ (g : Addr) (a : Str) (st : Stmt) (fd : FuncData) (Ng : List Str) (Vg : List Nat) (Gg : List Str) (n : Nat) (b : R D → ES) (S : FnScope Ng [a] (defScope st)) (ok : okScope (defScope st) Ng Vg Gg = true) (hnl : ∀ Pt, (Pt, (x ++ ".<locals>.") ++ "<lambda>") ∉ C.T),
    C.X.mg x = some (.ref g) ∧ Fun C.X.K x x st g fd ∧ Binds C.X.K fd [a] [] ∧ Ng[0]? = some a ∧ Vg[0]? = some 2 ∧ Ng.length = n ∧ (a == ("__debug__" : Str)) = false ∧ (a == ("__classdict__" : Str)) = false ∧ gs = (fun r => runAct n (b r)) ∧
    ∀ (cd : Value) (A : Around) (outer : List PySem.Env) (s : Shared) (H : Hp) (F : Fm) hu gd (r : R D) ,
      (∀ W pn xe tk po, ActAt ((gcAct (P := C.X.prog) (w := C.X.w) (K := C.X.K) (mg := C.X.mg) (base := C.X.base) S ok x g cd A outer s H F hu C.T C.tu hnl C.gb gd).tr W pn xe tk po) a r) →
      SSs (gcAct (P := C.X.prog) (w := C.X.w) (K := C.X.K) (mg := C.X.mg) (base := C.X.base) S ok x g cd A outer s H F hu C.T C.tu hnl C.gb gd) (defBody st) (b r)
theorem after0 {M : Mdl} {F : Fm} {G G' H H' : Hp} {e : Env} {σ : L2.St} (s : Sim M F G e σ H) (x : Exit M G H G' H' [] []) : Sim M F G' e σ H' := by
  obtain ⟨fp, s⟩ := s
  exact ⟨fp, s.after (ks := []) List.nodup_nil .nil x rfl⟩
theorem lamDef_gives {x : Str} {gs : R D → R D} (L : LamDef C x gs) (hq : Str) : ∃ (g : Addr) (a : Str) (st : Stmt) (fd : FuncData) (Ng : List Str) (S : FnScope Ng [a] (defScope st)),
    C.X.mg x = some (.ref g) ∧ Fun C.X.K x x st g fd ∧ Binds C.X.K fd [a] [] ∧ Ng[0]? = some a ∧ Vis (defScope st) a ∧ (a == ("__debug__" : Str)) = false ∧ (a == ("__classdict__" : Str)) = false ∧
    ∀ cdv : Value, LamX.GivesS C.X Ng x (defScope st) g cdv (defBody st) a hq (TTg C.M gs) := by
  obtain ⟨g, a, st, fd, Ng, Vg, Gg, n, b, S, ok, hnl, h1, h2, h3, h4, h5, h6, h7, h8, rfl, hb⟩ := L.ex
  refine ⟨g, a, st, fd, Ng, S, h1, h2, h3, h4, .inl (okScope_get ok h4 h5), h7, h8, fun cdv => ?_⟩
  intro f c' s H Q tl hun act hc ⟨G, r, sub, gnt, tab, lg, pq⟩
  have hu : (C.X.A.deeper (envOfC x (defScope st) s.heap.objs.size g cdv)).units + 64 < cLine := by
    show C.X.A.units + 3 + 64 < _; omega
  have hne : Ng.length ≠ 0 := fun z => by rw [List.length_eq_zero_iff.mp z] at h4; cases h4
  let F : Fm := ⟨nt H, G, [], [], [], [(c', LamX.CodeO c' hq)], [(0, .ref f)]⟩
  refine ⟨_, hb cdv C.X.A C.X.stack s H F hu C.gd r fun W pn xe tk po p1 p2 => ⟨fun pins s' σ HZ Q' I ⟨GZ, e, sm, p⟩ => ?_⟩, G, some .pin :: List.replicate (n - 1) none, ⟨fun _ => [], ?_⟩, ?_⟩
  · have sm : Sim C.M F GZ e σ HZ := sm
    obtain ⟨fp, sf⟩ := id sm
    refine (act W pn xe p1 p2 tk).run pins s' σ HZ Q' I ⟨get_of_getD (sf.pin (0, .ref f) (by simp [F])).2, (sf.kep (c', LamX.CodeO c' hq) (by simp [F])).1, ?_⟩
    refine lg GZ HZ _ Q' (exit0_of (F := F) sf.low rfl rfl rfl sm) ?_
    revert p
    cases r with
    | ok d e1 => exact fun p G' v H' ex rv => p G' v H' ex.ge (after0 sm ex) rv
    | exc y e1 => exact fun p G' H' cls d ex rx => p G' H' cls d ex.ge (after0 sm ex) rx
    | bad => exact fun p => p
  · exact {
      len := by simp [L2.start]; omega
      sub := sub
      low := GE.refl _
      hnt := fun a o h => (nt_some h).2
      frm := fun a o h _ => (nt_some h).1
      gnt := gnt
      tab := tab
      dom := fun a h => h
      new := fun a h => .inl h
      at_ := fun i => by
        cases i with
        | zero => rfl
        | succ i =>
          have : (some SV.pin :: List.replicate (n - 1) none : Env).getD (i + 1) none = none := by
            show (List.replicate (n - 1) (none : Option SV)).getD i none = none
            rw [List.getD_eq_getElem?_getD]
            cases q : (List.replicate (n - 1) (none : Option SV))[i]? with
            | none => rfl
            | some z => have := List.mem_of_getElem? q; rw [List.mem_replicate] at this; rw [this.2]; rfl
          rw [this]; rfl
      dj := fun i j a _ m => by cases m
      own := fun i a m => by cases m
      bor := fun p m => by cases m
      pin := fun p m => by rw [List.mem_singleton.mp m]; exact ⟨rfl, rfl⟩
      pro := fun p m => by cases m
      pnt := fun p m => by cases m
      kep := fun p m => by rw [List.mem_singleton.mp m]; exact ⟨hc, rfl, rfl⟩ }
  · have pq : postL C.M G H (runAct n (b r)) (fun _ _ _ => False) Q := pq
    unfold runAct at pq
    revert pq
    generalize b r (some .pin :: List.replicate (n - 1) none) = z
    cases z with
    | next e => exact fun pq G' σ' H' g s' => pq G' _ H' (exit0_of (F := F) g rfl rfl rfl s') .non
    | ret d e => exact fun pq G' σ' v H' g s' rv => pq G' _ H' (exit0_of (F := F) g rfl rfl rfl s') rv
    | retO o e => exact fun pq => pq.elim
    | exc y e => exact fun pq => pq.elim
    | bad => exact fun pq => pq.elim
def eLam (V' : List Nat) (fl : EM D) (gs : R D → R D) : EM D := fun e => match gs (fl (capE e V')) with
  | .ok d _ => .ok d e
  | _ => .bad
/-- x(lambda: body) -/
theorem d_lam {scope : Scope} {x : Str} {gs : R D → R D} {params : Arguments} {body : Expr} {p lpos pos : Pos} {fl : EM D} {k : Nat} (V' : List Nat) (Gs' : List Str) (L : LamDef C x gs) (j : Nat) (ok : okLam N V scope V' Gs' = true) (hr : Room (k + 2) C.X.A)
    (hT : ∃ P, (P, C.X.env.qual ++ "<lambda>") ∈ C.T) (hnl : ∀ P, (P, ((C.X.env.qual ++ "<lambda>") ++ ".<locals>.") ++ "<lambda>") ∉ C.T)
    (hb : ∀ A outer s H E f c' F hu gA, Room k (A.deeper (LamX.lamEnv C.X scope s.heap.objs.size f c')) → SE (C.lm ok A outer s H E f c' F hu hnl gA) body fl)
    (hg : Gs[j]? = some x := by rfl) (hdef : defaultsOf params C.X.env = ([], []) := by rfl)
    (hbind : ∀ (q : Str) (cl : List (Str × Addr)) (pm cv ctv : Value), bindArgs (PySem.W.kla_fn "<lambda>" q params body scope cl pm cv ctv) ⟨[], []⟩ = pure [] := by intros; rfl) (hdb : (x == ("__debug__" : Str)) = false := by decide +kernel) :
    SE C (.Call (.Name x p) [.Lambda params body scope lpos] [] pos) (eLam V' fl gs) := by
  obtain ⟨g, a, st, fd, Ng, S, h1, h2, h3, h4, hv, h7, h8, hG⟩ := lamDef_gives L (C.X.env.qual ++ "<lambda>")
  obtain ⟨oc, od, kV, doc, pm, an, cdv, ct, osl, rfl, lk, hcd⟩ := h2.ex
  obtain ⟨Pt, hP⟩ := hT
  obtain ⟨c, hcode, TB⟩ := C.lam Pt hP
  refine (LamX.pe_lamcallS (T := C.T) (TT := TTg C.M gs) (t := fun E => tL C.M fl E) (C.gl j _ hg) h1 h2.kp lk hcd h3 S h4 hv (hG cdv) TB hcode hP (fun p hp e => C.tu _ hp _ hP e) hr (okLam_ok C ok) hdef hbind
    (fun E A outer s H f c' gA hr' => lam_body C ok hnl hb E A outer s H f c' gA hr') hdb h7 h8).imp fun σ H Q ⟨G, e, s, p⟩ => ?_
  obtain ⟨fp, sf⟩ := id s
  refine ⟨sf.tab, fun H1 eN T1 => ?_⟩
  have g1 : GE G H1 := fun a o h => eN _ _ (sf.sub a o h) (no_ist (sf.gnt a o h))
  have s1 : Sim C.M C.F G e σ H1 := ⟨fp, sf.growN (GE.refl _) g1 (fun a o h n => eN a o h (no_ist n)) T1 sf.gnt fun a h => .inl h⟩
  refine ⟨G, fl (capE e V'), g1, sf.gnt, T1, fun GZ HZ E Q' ex pl => ⟨GZ, capE e V', ?_, pl⟩, ?_⟩
  · refine ⟨by rw [capE_len]; exact sf.len, ex.sub, ex.gnt, ex.tab, fun i => ?_⟩
    rcases capE_val (e := e) (vs := V') i with h | ⟨d, h, h'⟩
    · exact .inl h
    · have := sf.at_ i
      rw [h'] at this
      obtain ⟨_, v, hv, r⟩ := this
      exact .inr ⟨d, v, h, hv, r.mono ex.ge⟩
  · unfold eLam at p
    revert p
    cases gs (fl (capE e V')) with
    | ok d e1 => exact fun p G' v H' ex r => p G' v H' ex.ge (after0 s1 ex) r
    | exc y e1 => exact fun p => p.elim
    | bad => exact fun p => p.elim
end
end Cs

set_option maxRecDepth 100000
set_option maxHeartbeats 4000000
namespace Cs
open PySem L2
section
variable {N : List Str} {V : List Nat} {Gs : List Str} {C : GC N V Gs}

/-! ## slices -/
def SP (C : GC N V Gs) (e : Option Expr) (f : EM (Option Int)) : Prop := PO C.X e (tOf (fun _ a b => a = b) C f)
def pNone : EM (Option Int) := ret none
def pInt (f : EM D) : EM (Option Int) := bnd f fun d => match d with
  | .int i => ret (some i)
  | _ => fail
theorem _root_.L2.PO.imp {X : Cx} {e : Option Expr} {t t' : TO} (h : PO X e t) (i : ∀ σ H Q, t' σ H Q → t σ H Q) : PO X e t' :=
  ⟨fun pins s σ H Q I q => h.run pins s σ H Q I (i σ H Q q)⟩
theorem p_none : SP C none pNone := po_none.imp fun σ H Q ⟨G, e, t⟩ => t.done (rep := fun _ a b => a = b) rfl
theorem p_int {e : Expr} {f : EM D} (h : SE C e f) : SP C (some e) (pInt f) := (po_some h).imp fun σ H Q ⟨G, e, t⟩ => by
  refine (Run.bind t).imp fun x H1 ⟨d, G1, e1, g1, r1, t1⟩ => ?_
  cases d with
  | int i => exact ⟨i, r1.intV, t1.done (rep := fun _ a b => a = b) rfl⟩
  | _ => exact t1.2.elim
/-- which place a bound means -/
def sIxD (n d : Nat) : Option Int → Nat
  | none => d
  | some v => if v < 0 then (v + (n : Int)).toNat else min v.toNat n
theorem sIxD_eq (n d : Nat) (o : Option Int) : sIxD n d o = HT.sIx n d o := by cases o <;> rfl
def cutD (xs : List D) (lo hi : Option Int) : List D := (xs.drop (sIxD xs.length 0 lo)).take (sIxD xs.length xs.length hi - sIxD xs.length 0 lo)
theorem cut_full {xs : List D} {lo hi : Option Int} (h : sIxD xs.length 0 lo = 0 ∧ sIxD xs.length xs.length hi = xs.length) : cutD xs lo hi = xs := by
  unfold cutD; rw [h.1, h.2]; simp
theorem Reps.cut {M : Mdl} {G : Hp} {vs : List L2.V} {xs : List D} (r : Reps M G vs xs) (lo hi : Option Int) : Reps M G (cutV vs lo hi) (cutD xs lo hi) := by
  unfold cutV cutD
  rw [sIxD_eq, sIxD_eq, r.length]
  exact (r.drop _).take _
def slD (d : D) (lo hi : Option Int) : Option D := match d with
  | .tup xs => some (.tup (cutD xs lo hi))
  | .lst xs => some (.lst (cutD xs lo hi))
  | .scr xs => some (.lst (cutD xs lo hi))
  | _ => none
def eSl (f : EM Rd) (fl fh : EM (Option Int)) : EM D := bnd f fun r => bnd fl fun lo => bnd fh fun hi => rdG r fun d => ofO (slD d lo hi)
theorem d_sl {a : Expr} {lo hi : Option Expr} {p2 pos : Pos} {f : EM Rd} {fl fh : EM (Option Int)} (ha : SB C a f) (hl : SP C lo fl) (hh : SP C hi fh) : SE C (.Subscript a (.Slice lo hi none p2) pos) (eSl f fl fh) :=
  (pe_slice (SlR.or sl_list sl_tupA) ha hl hh).imp fun σ H Q ⟨G, e, t⟩ => by
    refine (Run.bind t).imp fun x H1 ⟨r, G1, e1, g1, r1, t1⟩ => ?_
    refine (Run.bind t1).imp fun ol H2 ⟨lo', G2, e2, g2, r2, t2⟩ => ?_
    subst r2
    refine (Run.bind t2).imp fun oh H3 ⟨hi', G3, e3, g3, r3, t3⟩ => ?_
    subst r3
    obtain ⟨d, q, t4⟩ := t3.rdG
    obtain ⟨dd, q2, s, k⟩ := t4.ofO
    have rh := (r1.mono (g2.trans g3)).now s q
    unfold slD at q2
    split at q2
    · rename_i xs
      cases q2
      obtain ⟨b, vs, rfl, hv, rv⟩ := rh.tupV s.sub
      refine .inr ⟨b, vs, rfl, hv, fun h => ?_, fun h p hp => ?_⟩
      · have h' : sIxD xs.length 0 ol = 0 ∧ sIxD xs.length xs.length oh = xs.length := by rw [sIxD_eq, sIxD_eq, ← rv.length]; exact h
        rw [cut_full h'] at k
        exact k G3 _ H3 (GE.refl _) s ((rh.of fun o => by cases o <;> (intro z; cases z)))
      · obtain ⟨g4, s4, r4⟩ := s.newTup hp (rv.cut ol oh)
        exact k _ _ _ g4 s4 r4
    · rename_i xs
      cases q2
      obtain ⟨b, vs, rfl, hv, rv⟩ := rh.lstV s.sub
      refine .inl ⟨b, vs, rfl, .inl (.inl hv), fun p hp => ?_⟩
      obtain ⟨g4, s4, r4⟩ := s.newLst hp (rv.cut ol oh)
      exact k _ _ _ g4 s4 r4
    · rename_i xs
      cases q2
      obtain ⟨b, vs, rfl, hv, rv⟩ := rh.scrV s.sub
      refine .inl ⟨b, vs, rfl, hv, fun p hp => ?_⟩
      obtain ⟨g4, s4, r4⟩ := s.newLst hp (rv.cut ol oh)
      exact k _ _ _ g4 s4 r4
    · cases q2
/-- xs[::-1], a list -/
def revD (d : D) : Option D := match d with
  | .lst xs => some (.lst xs.reverse)
  | .scr xs => some (.lst xs.reverse)
  | _ => none
theorem Reps.reverse {M : Mdl} {G : Hp} : ∀ {vs : List L2.V} {xs : List D}, Reps M G vs xs → Reps M G vs.reverse xs.reverse
  | _, _, .nil => .nil
  | _, _, .cons h t => by rw [List.reverse_cons, List.reverse_cons]; exact (Reps.reverse t).append (.cons h .nil)
def eRev (f : EM Rd) : EM D := bnd f fun r => rdG r fun d => ofO (revD d)
theorem d_revL {a : Expr} {k : Nat} {p1 p2 p3 pos : Pos} {f : EM Rd} (ha : SB C a f) : SE C (.Subscript a (.Slice none none (some (.UnaryOp .USub (.Constant (.int 1) k p1) p2)) p3) pos) (eRev f) :=
  (pe_revL ha).imp fun σ H Q ⟨G, e, t⟩ => by
    refine (Run.bind t).imp fun x H1 ⟨r, G1, e1, g1, r1, t1⟩ => ?_
    obtain ⟨d, q, t4⟩ := t1.rdG
    obtain ⟨dd, q2, s, k⟩ := t4.ofO
    have rh := r1.now s q
    unfold revD at q2
    split at q2
    · rename_i xs
      cases q2
      obtain ⟨b, vs, rfl, hv, rv⟩ := rh.lstV s.sub
      refine ⟨b, vs, rfl, .inl (.inl hv), fun p hp => ?_⟩
      obtain ⟨g4, s4, r4⟩ := s.newLst hp rv.reverse
      exact k _ _ _ g4 s4 r4
    · rename_i xs
      cases q2
      obtain ⟨b, vs, rfl, hv, rv⟩ := rh.scrV s.sub
      refine ⟨b, vs, rfl, hv, fun p hp => ?_⟩
      obtain ⟨g4, s4, r4⟩ := s.newLst hp rv.reverse
      exact k _ _ _ g4 s4 r4
    · cases q2

/-! ## x, y = a, b -/
def sPar (i j : Nat) (fa : EM (List D)) : ES := sB fa fun ds => match ds with
  | [a, b] => sB (putV i a) fun _ => sB (putV j b) fun _ e => .next e
  | _ => fun _ => .bad
def sPar3 (i j l : Nat) (fa : EM (List D)) : ES := sB fa fun ds => match ds with
  | [a, b, c] => sB (putV i a) fun _ => sB (putV j b) fun _ => sB (putV l c) fun _ e => .next e
  | _ => fun _ => .bad
def isStar : Expr → Bool
  | .Starred .. => true
  | _ => false
/-- the names are locals: so the model's test goes -/
theorem par_names {x y : Str} {px py pt : Pos} {kt k2 : Nat} {pt2 : Pos} {a b : Expr} (hx : C.X.env.scope.names.lookup x = some .local) (hy : C.X.env.scope.names.lookup y = some .local) (hl : (px.line == py.line) = true) (hxy : (y == x) = false)
    (ha : isStar a = false) (hb : isStar b = false) (h1 : [a, b].all (foldedForSure 8) = false) (h2 : [a, b].all (constantsAlone 8) = false) :
    swappedStores [.Tuple [.Name x px, .Name y py] kt pt] (.Tuple [a, b] k2 pt2) C.X.env = pure (some [x, y]) := by
  have kx : C.X.env.kindOf x = some .local := hx
  have ky : C.X.env.kindOf y = some .local := hy
  have hb' := C.fun_
  have hl' : px.line = py.line := by simpa using hl
  have hd : (List.eraseDups [x, y]).length = 2 := by simp [List.eraseDups, List.eraseDupsBy, List.eraseDupsBy.loop, hxy]
  unfold swappedStores
  simp only [List.eraseDups] at hd
  simp [hb', kx, ky, hl', h1, h2, Expr.pos, List.eraseDups, hd]
  intro h
  exfalso
  rcases h with h | h
  · revert h ha; cases a <;> simp [isStar]
  · revert h hb; cases b <;> simp [isStar]
theorem par_names3 {x y z : Str} {px py pz pt : Pos} {kt k2 : Nat} {pt2 : Pos} {a b c : Expr} (hx : C.X.env.scope.names.lookup x = some .local) (hy : C.X.env.scope.names.lookup y = some .local) (hz : C.X.env.scope.names.lookup z = some .local) (hl : (px.line == py.line) = true) (hl2 : (px.line == pz.line) = true) (hxy : (y == x) = false) (hxz : (z == x) = false) (hyz : (z == y) = false)
    (ha : isStar a = false) (hb : isStar b = false) (hc : isStar c = false) (h1 : [a, b, c].all (foldedForSure 8) = false) (h2 : [a, b, c].all (constantsAlone 8) = false) :
    swappedStores [.Tuple [.Name x px, .Name y py, .Name z pz] kt pt] (.Tuple [a, b, c] k2 pt2) C.X.env = pure (some [x, y, z]) := by
  have kx : C.X.env.kindOf x = some .local := hx
  have ky : C.X.env.kindOf y = some .local := hy
  have kz : C.X.env.kindOf z = some .local := hz
  have hb' := C.fun_
  have hl' : px.line = py.line := by simpa using hl
  have hl2' : px.line = pz.line := by simpa using hl2
  have hd : (List.eraseDups [x, y, z]).length = 3 := by simp [List.eraseDups, List.eraseDupsBy, List.eraseDupsBy.loop, hxy, hxz, hyz]
  unfold swappedStores
  simp only [List.eraseDups] at hd
  have hl3 : pz.line = py.line := hl2'.symm.trans hl'
  simp [hb', kx, ky, kz, hl', hl3, h1, h2, Expr.pos, List.eraseDups, hd]
  intro h
  exfalso
  rcases h with h | h | h
  · revert h ha; cases a <;> simp [isStar]
  · revert h hb; cases b <;> simp [isStar]
  · revert h hc; cases c <;> simp [isStar]
theorem sPar_run {i j : Nat} {fa : EM (List D)} {D : Ends} {σ : L2.St} {H : Hp} (t : tOfS C (sPar i j fa) D σ H) : tPar i j (tOf (Reps C.M) C fa) D σ H := by
  obtain ⟨G, e, s, p⟩ := t
  refine (Run.sB (rep := Reps C.M) s p).imp fun x H1 ⟨ds, G1, e1, ge, r, s1, p1⟩ => ?_
  split at p1
  · rename_i a b
    cases r with
    | cons r1 r =>
      cases r with
      | cons r2 r =>
        cases r
        refine ⟨_, _, rfl, ?_⟩
        have q := (PostS.ofT p1).imp fun σ' H' ⟨G2, e2, g2, s2, p2⟩ => (⟨G2, e2, g2, s2, p2⟩ : ∃ G' e, GE G1 G' ∧ Sim C.M C.F G' e σ' H' ∧ PostS C G' (sB (putV j b) (fun _ e => .next e) e) D)
        obtain ⟨G2, e2, g2, s2, p2⟩ := putV_ok r1 s1 q
        exact putV_ok (r2.mono g2) s2 ((PostS.ofT p2).imp fun σ' H' ⟨G2, e2, g2, s2, p2⟩ => p2 G2 σ' H' (GE.refl _) s2)
  · exact p1.elim
theorem s_par (i j : Nat) {x y : Str} {px py pt pos : Pos} {kt k2 : Nat} {pt2 : Pos} {a b : Expr} {fa : EM (List D)} (hc : C.X.calm = true) (ha : SA C [a, b] fa) (hi : N[i]? = some x := by rfl) (hj : N[j]? = some y := by rfl) (hVi : V[i]? = some 2 := by rfl) (hVj : V[j]? = some 2 := by rfl) (hij : i ≠ j := by decide)
    (hl : (px.line == py.line) = true := by rfl) (hxy : (y == x) = false := by decide +kernel) (sa : isStar a = false := by rfl) (sb : isStar b = false := by rfl) (h1 : [a, b].all (foldedForSure 8) = false := by rfl) (h2 : [a, b].all (constantsAlone 8) = false := by rfl)
    (hs : swapsWithSole [.Tuple [.Name x px, .Name y py] kt pt] (.Tuple [a, b] k2 pt2) pos.line C.X.env = pure false := by rfl) : SS C (.Assign [.Tuple [.Name x px, .Name y py] kt pt] (.Tuple [a, b] k2 pt2) pos) (sPar i j fa) :=
  (ps_par hc C.nd (by rw [C.hN]; exact hi) (by rw [C.hN]; exact hj) hij (C.loc i x hi hVi) (C.loc j y hj hVj) ha (par_names (C.loc i x hi hVi) (C.loc j y hj hVj) hl hxy sa sb h1 h2) hs).imp fun D σ H t => sPar_run t
/-- constants alone: the pair goes whole -/
theorem par_consts {x y : Str} {px py pt : Pos} {kt k2 : Nat} {pt2 : Pos} {a b : Expr} (hx : C.X.env.scope.names.lookup x = some .local) (hy : C.X.env.scope.names.lookup y = some .local) (hl : (px.line == py.line) = true) (hxy : (y == x) = false)
    (ha : isStar a = false) (hb : isStar b = false) (h1 : [a, b].all (foldedForSure 8) = true) :
    swappedStores [.Tuple [.Name x px, .Name y py] kt pt] (.Tuple [a, b] k2 pt2) C.X.env = pure none := by
  have kx : C.X.env.kindOf x = some .local := hx
  have ky : C.X.env.kindOf y = some .local := hy
  have hb' := C.fun_
  have hl' : px.line = py.line := by simpa using hl
  have hd : (List.eraseDups [x, y]).length = 2 := by simp [List.eraseDups, List.eraseDupsBy, List.eraseDupsBy.loop, hxy]
  unfold swappedStores
  simp only [List.eraseDups] at hd
  simp [hb', kx, ky, hl', h1, Expr.pos, List.eraseDups, hd]
/-- a target that is no plain local: the pair goes whole -/
theorem par_cell {x y : Str} {px py pt : Pos} {kt k2 : Nat} {pt2 : Pos} {a b : Expr} (hx : C.X.env.scope.names.lookup x = some .cell ∨ C.X.env.scope.names.lookup y = some .cell) :
    swappedStores [.Tuple [.Name x px, .Name y py] kt pt] (.Tuple [a, b] k2 pt2) C.X.env = pure none := by
  have hb' := C.fun_
  rcases hx with hx | hx
  · have kx : C.X.env.kindOf x = some .cell := hx
    unfold swappedStores
    by_cases ky : C.X.env.kindOf y = some .local ∧ py.line = px.line <;> simp [hb', kx, ky, Expr.pos]
  · have kx : C.X.env.kindOf y = some .cell := hx
    unfold swappedStores
    by_cases ky : C.X.env.kindOf x = some .local <;> simp [hb', kx, ky, Expr.pos]
end
end Cs

set_option maxRecDepth 100000
set_option maxHeartbeats 4000000
namespace Cs
open PySem L2

/-! ## repr -/
def reprOk (p : PyData) : Bool := p.showable && (decide (p.depth ≤ 50) && (decide (p.shown.length ≤ sz) && !p.hasDict))
def rRepr (K : PySem.W.Frag) : List L2.V → Hp → VK → Prop := fun xs H Q => ∃ x p, xs = [x] ∧ Dp K H x p ∧ reprOk p = true ∧ Q (.str p.shown) H
theorem call_repr {X : Cx} (hg : X.A.guards = some []) (hu : X.A.units + 64 < cLine) : CallR X (.builtin "repr") (rRepr X.K) := by
  intro pins s σ H xs us Q I r h
  obtain ⟨x, p, rfl, hd, ok, q⟩ := h
  cases r with
  | cons rx rr =>
    cases rr
    rename_i u
    unfold reprOk at ok
    simp only [Bool.and_eq_true, decide_eq_true_eq, Bool.not_eq_true'] at ok
    obtain ⟨h1, h2, h3, h4⟩ := ok
    have h3 := sz_le h3
    cases hd with
    | non => cases (show u = Value.none from rx); exact PySem.P.repr_of_none ⟨.str _, H, I.tok _, ⟨_, rfl⟩, q⟩
    | bl b => cases (show u = Value.bool b from rx); exact PySem.P.repr_of_bool ⟨.str _, H, I.tok _, ⟨_, rfl⟩, q⟩
    | int i =>
      obtain ⟨t, z⟩ := (show ∃ t, u = Value.int i t from rx)
      cases z
      exact PySem.P.repr_of_int (by simpa [PyData.showable] using h1) ⟨.str _, H, I.tok _, ⟨_, rfl⟩, q⟩
    | str y =>
      obtain ⟨t, z⟩ := (show ∃ t, u = Value.str y t from rx)
      cases z
      exact PySem.P.repr_of_str ⟨.str _, H, I.tok _, ⟨_, rfl⟩, q⟩ (by simpa only [PyData.shown] using h3)
    | @lst a ys ds hs hall =>
      obtain ⟨as, hr⟩ := Dp.reads I _ _ _ (Dp.lst hs hall) rx
      cases (show u = Value.ref a from rx)
      refine repr_of_reads' hr h1 (fun z => by rw [h4] at z; cases z) hg (by omega) (fun _ _ e => e) (fun h' u tk hk => ?_) h3
      exact ⟨.str _, H, I.kept (t' := tk) hk, ⟨_, rfl⟩, q⟩
    | @tup a ys ds hs hall =>
      obtain ⟨as, hr⟩ := Dp.reads I _ _ _ (Dp.tup hs hall) rx
      cases (show u = Value.ref a from rx)
      refine repr_of_reads' hr h1 (fun z => by rw [h4] at z; cases z) hg (by omega) (fun _ _ e => e) (fun h' u tk hk => ?_) h3
      exact ⟨.str _, H, I.kept (t' := tk) hk, ⟨_, rfl⟩, q⟩
section
variable {N : List Str} {V : List Nat} {Gs : List Str} {C : GC N V Gs}
def reprD : List D → Option D
  | [d] => match d.pd with
    | some p => if reprOk p = true then some (.str p.shown) else none
    | none => none
  | _ => none
theorem ch_repr : CallH C (rRepr C.X.K) reprD := by
  intro ds d vs G e σ H Q h rr s k
  unfold reprD at h
  split at h
  · rename_i dd
    obtain ⟨v, rfl, r⟩ := rr.one
    split at h
    · rename_i p hp
      split at h
      · rename_i ok
        cases h
        exact ⟨v, p, rfl, r.dp s.sub hp, ok, k _ _ _ (GE.refl _) s (.str _)⟩
      · cases h
    · cases h
  · cases h
theorem d_repr {x : Str} {a : Expr} {p pos : Pos} {f : EM Rd} (j : Nat) (hgb : C.gb = true) (hm : C.X.mg x = none) (ha : SB C a f) (hx : x = "repr" := by rfl) (hg : Gs[j]? = some x := by rfl)
    (he : starEach [a] C.X.env = (false, eval a C.X.env) :: starEach [] C.X.env := by rfl) (hpl : (backTo pos (starEach [] C.X.env)).any (·.1) = false := by rfl) :
    SE C (.Call (.Name x p) [a] [] pos) (eCall reprD (bCons f bNil)) := by
  subst hx
  exact d_callB (call_repr (C.gd hgb) C.hu) ch_repr j hg hm (by decide +kernel) (b_cons ha b_nil he) (by decide +kernel) (by decide +kernel) he hpl
/-- {} -/
def eDic0 : EM D := ret (.dic [])
theorem d_dic0 {pos : Pos} : SE C (.Dict [] [] pos) eDic0 := pe_dnewK.imp fun σ H Q ⟨G, e, s, p⟩ p0 hp => by
  obtain ⟨g, s'⟩ := s.laid (ob := .dK []) hp
  exact p _ _ _ g s' (.dicK (kvs := []) (ds := []) upd_same .nil)
end
end Cs

set_option maxRecDepth 100000
set_option maxHeartbeats 4000000
/-! the end of a law, where reprs are made -/
namespace Cs
open PySem PySem.Spec PyProof.Rows L2
/-- what is tracked at the call of the law: the tables; the script, where it is no written object -/
def startH (ts : List Addr) (K : PySem.W.Frag) (a : Addr) (vs : List Value) (ns : List Int) : Hp := fun b =>
  if b ∈ ts then some (.tbl #[]) else if b = a ∧ K.lookup a = none then some (.frz { cls := .type "list", data := .seq vs.toArray } (.lst (ns.map V.int))) else none
section
variable {ts : List Addr} {K : PySem.W.Frag} {a : Addr} {vs : List Value} {ns : List Int}
theorem startH_cases (b : Addr) (u : HO) (h : startH ts K a vs ns b = some u) : (b ∈ ts ∧ u = .tbl #[]) ∨ (b ∉ ts ∧ b = a ∧ K.lookup a = none ∧ u = .frz { cls := .type "list", data := .seq vs.toArray } (.lst (ns.map V.int))) := by
  unfold startH at h
  split at h
  · rename_i m; cases h; exact .inl ⟨m, rfl⟩
  · rename_i m
    split at h
    · rename_i z; cases h; exact .inr ⟨m, z.1, z.2, rfl⟩
    · cases h
theorem startH_tab {b : Addr} (h : b ∈ ts) : startH ts K a vs ns b = some (.tbl #[]) := if_pos h
end
theorem law_callB {P : Program} {w : World} {K : PySem.W.Frag} {mg mb : Str → Option Value} {k : Nat} {fa a : Addr} {cs : List (Addr × Addr)} {fd : FuncData} {x : Str} {sp : Sp} {s₁ : Shared} {vs : List Value} {ns : List Int}
    (KX : K.In s₁.heap) (hns : s₁.heap.Ns mainGlobals mg) (hb : s₁.heap.Ns builtinsNs mb) (hbb : ∀ x : Str, x ≠ "__name__" → mb x = bootBuiltins x) (hlim : s₁.heap.NoLimit) (hg : s₁.gens = #[])
    (hT : ∀ p ∈ cs, s₁.heap.get? p.2 = some { cls := .none, data := .fields #[] }) (nT : ∀ p ∈ cs, K.lookup p.2 = none) (C : ∀ p ∈ cs, PySem.W.CodeHd s₁.heap p.1 p.2)
    (hbm : ∃ (bm : Addr) (ob : Obj), mg "__builtins__" = some (.ref bm) ∧ bm ≠ builtinsNs ∧ s₁.heap.get? bm = some ob ∧ ob.cls = .type "module" ∧ ob.dict = some builtinsNs ∧ ob.data = .plain)
    (ha : s₁.heap.get? a = some { cls := .type "list", data := .seq vs.toArray }) (hi : IntsAre vs ns) (hl : ns.length ≤ sizeLine) (hr : Room k callerA)
    (F : ∀ base : Heap, K.In base → base.Ns mainGlobals mg → (∀ p ∈ cs, LamX.TabB base mg p.1 p.2) → FnOkB true P w K mg base k fa fd [x] sp) (hbind : ∀ (s : Shared) (u : Value), BindsTo s fd ⟨[u], []⟩ [(x, u)])
    (hsp : ∀ H : Hp, (∀ p ∈ cs, H p.2 = some (.tbl #[])) → SqL K H a (ns.map V.int) → sp [.ref a] H (fun v _ => v = .bl true) fun _ _ _ => False) :
    codeAny (model P w) callerA (.call (.ref fa) ⟨[.ref a], []⟩) (fun r s' => r = .ok (.ret (.bool true)) ∧ OldK s₁.heap s'.heap ∧ s'.os = s₁.os ∧ AllBare s'.gens) s₁ := by
  have rv := vals_ints hi
  let ts := cs.map (·.2)
  have inT : ∀ b, b ∈ ts → ∃ p ∈ cs, p.2 = b := fun b h => by
    obtain ⟨p, hp, e⟩ := List.mem_map.mp h; exact ⟨p, hp, e⟩
  have atT : ∀ b, b ∈ ts → s₁.heap.get? b = some { cls := .none, data := .fields #[] } ∧ K.lookup b = none := fun b h => by
    obtain ⟨p, hp, rfl⟩ := inT b h; exact ⟨hT p hp, nT p hp⟩
  have memT : ∀ p ∈ cs, p.2 ∈ ts := fun p hp => List.mem_map.mpr ⟨p, hp, rfl⟩
  have aT : a ∉ ts := fun h => by
    have q := (atT a h).1
    rw [ha] at q
    have q' := congrArg Obj.data (Option.some.inj q)
    cases q'
  let H : Hp := startH ts K a vs ns
  have hok : HOk P w H s₁.heap := fun b u h => by
    rcases startH_cases b u h with ⟨m, rfl⟩ | ⟨_, rfl, _, rfl⟩
    · exact (atT b m).1
    · exact ⟨ha, by rw [List.length_map]; exact hl, vs, _, rv, ha⟩
  -- what is hidden: a's object, the tables
  have vis : ∀ {b : Addr} {o : Obj}, s₁.heap.get? b = some o → o.data ≠ .fields #[] → (b = a → K.lookup a ≠ none) → (hidT s₁.heap H).get? b = some o := fun {b o} e h1 h2 => by
    refine hidT_get e ?_
    cases q : H b with
    | none => rfl
    | some u =>
      rcases startH_cases b u q with ⟨m, _⟩ | ⟨_, rfl, hk, _⟩
      · rw [(atT b m).1] at e; cases e; exact absurd rfl h1
      · exact absurd hk (h2 rfl)
  have visD : ∀ {b : Addr} {o : Obj}, s₁.heap.get? b = some o → o.data ≠ .fields #[] → (∀ its n, o.data ≠ .seq its n) → (hidT s₁.heap H).get? b = some o := fun {b o} e h1 h2 =>
    vis e h1 fun z => by rw [z, ha] at e; cases e; exact absurd rfl (h2 _ _)
  have visN : ∀ {b : Addr} {m : Str → Option Value}, s₁.heap.Ns b m → (hidT s₁.heap H).Ns b m := fun {b m} ⟨o, es, ep, e, d, r⟩ =>
    ⟨o, es, ep, visD e (by rw [d]; intro z; cases z) (by rw [d]; intro _ _ z; cases z), d, r⟩
  have kIn : K.In (hidT s₁.heap H) := fun b o e => by
    refine hidT_get (KX b o e) ?_
    cases q : H b with
    | none => rfl
    | some u =>
      rcases startH_cases b u q with ⟨m, _⟩ | ⟨_, rfl, hk, _⟩
      · rw [(atT b m).2] at e; cases e
      · rw [hk] at e; cases e
  have hM : L2.Mod K mg (hidT s₁.heap H) := ⟨kIn, visN hns, ⟨mb, visN hb, hbb⟩, let ⟨mc, h1, h2⟩ := hlim; ⟨mc, visN h1, h2⟩⟩
  have TB : ∀ p ∈ cs, LamX.TabB (hidT s₁.heap H) mg p.1 p.2 := fun p hp => by
    refine ⟨?_, ?_, fun z => ?_⟩
    · obtain ⟨o, us, file, tf, flags, tg, inF, text, tt, e1, r1, r2, r3, r4, r5, r6, r7, r8, hne⟩ := C p hp
      refine ⟨o, us, file, tf, flags, tg, inF, text, tt, visD e1 (fun z => ?_) (fun _ _ z => ?_), r1, r2, r3, r4, r5, r6, r7, r8, hne⟩
      · rw [r2] at z; cases z; simp at r3
      · rw [r2] at z; cases z
    · obtain ⟨bm, ob, b1, b2, b3, b4, b5, b6⟩ := hbm
      refine ⟨bm, ob, b1, b2, fun q => ?_, fun q => ?_, visD b3 (by rw [b6]; intro z; cases z) (by rw [b6]; intro _ _ z; cases z), b4, b5, b6⟩
      · obtain ⟨o, es, ep, e, hd, _⟩ := hns
        rw [q, e] at b3; cases b3; rw [hd] at b6; cases b6
      · rw [q, hT p hp] at b3; cases b3; cases b6
    · obtain ⟨o, es, ep, e, hd, _⟩ := hns
      rw [z, hT p hp] at e; cases e; cases hd
  have e0 : Env0 P w K mg (hidT s₁.heap H) callerA [] s₁ H := ⟨rfl, hM, fun b o e => of_hidT e, Nat.le_of_eq (hidT_size _ _), trivial, fun b hb => absurd (show b ∈ ([] : List Addr) from hb) (by simp), hok, .of_eq hg⟩
  have hS : SqL K H a (ns.map V.int) := by
    cases q : K.lookup a with
    | none => exact .inl (.inr ⟨_, (if_neg aT).trans (if_pos ⟨rfl, q⟩)⟩)
    | some o =>
      have e := KX a o q
      rw [ha] at e; cases e
      exact .inr ⟨_, vs.toArray, _, q, rfl, rfl, rfl, by rw [List.size_toArray, hi.length]; exact hl, by simpa using rv⟩
  refine codeAny_mono ((F _ kIn (visN hns) TB).run callerA [] s₁ H ⟨[.ref a], []⟩ [.ref a] [.ref a] _ _ (fun _ => rfl) hr e0 (hbind s₁ (.ref a)) (.cons rfl .nil) (hsp H (fun p hp => startH_tab (memT p hp)) hS)) fun r s' h => ?_
  cases r with
  | error e =>
    obtain ⟨_, _, _, _, _, _, _, _, _, _, _, _, z⟩ := (show L2.CX P w [] H s₁ (fun _ _ _ => False) e s' from h)
    exact z.elim
  | ok fl =>
    cases fl with
    | next => exact False.elim h
    | brk => exact False.elim h
    | cont => exact False.elim h
    | ret u =>
      obtain ⟨v, H', os, bare, un, hok', r', q⟩ := h
      obtain rfl : v = .bl true := q
      obtain rfl : u = Value.bool true := r'
      have old : ∀ b o, b ∉ ts → s₁.heap.get? b = some o → s'.heap.get? b = some o := fun b o nb e => by
        cases q : H b with
        | none => exact un.keep b o e q (fun z => absurd (show b ∈ ([] : List Addr) from z) (by simp)) (by simp)
        | some w' =>
          rcases startH_cases b w' q with ⟨m, _⟩ | ⟨_, rfl, _, rfl⟩
          · exact absurd m nb
          · obtain ⟨e2, _⟩ := hok' b _ (un.frzs b _ _ q)
            rw [ha] at e; cases e
            exact e2
      have new : ∀ b, b ∈ ts → ∃ more : Array Value, s'.heap.get? b = some { cls := .none, data := .fields more } := fun b m => by
        obtain ⟨more, z⟩ := un.tbls b #[] (startH_tab m)
        exact ⟨_, hok' b _ z⟩
      refine ⟨rfl, ⟨fun b o e => ?_, fun b o e => ?_⟩, os, bare⟩
      · by_cases m : b ∈ ts
        · obtain ⟨more, hm⟩ := new b m
          obtain ⟨p, hp, rfl⟩ := inT b m
          rw [hT p hp] at e; cases e
          exact .inr (.inl ⟨((C p hp).tab (hT p hp)).isCodeTable, rfl, #[], more, rfl, by rw [Array.empty_append]; exact hm⟩)
        · exact .inl (old b o m e)
      · by_cases m : b ∈ ts
        · obtain ⟨more, hm⟩ := new b m
          exact ⟨_, hm⟩
        · exact ⟨o, old b o m e⟩
/-- what is known of the law's promise at the head's heap -/
def LawAtB (l : PySem.W.OpenLaw) (w : World) (K : PySem.W.Frag) (k n : Nat) (x : Str) (mg : Str → Option Value) (fa : Addr) (h : Heap) : Prop :=
  ∃ (fd : FuncData) (cs : List (Addr × Addr)) (sp : Sp), (∀ p ∈ cs, h.get? p.2 = some { cls := .none, data := .fields #[] }) ∧ (∀ p ∈ cs, K.lookup p.2 = none) ∧ (∀ p ∈ cs, PySem.W.CodeHd h p.1 p.2) ∧ (∀ (s : Shared) (u : Value), BindsTo s fd ⟨[u], []⟩ [(x, u)]) ∧
    (∀ (H : Hp) (a : Addr) (ns : List Int), ns.length ≤ n → (∀ z ∈ ns, Builtin.Int.intBits z ≤ 1048576) → (∀ p ∈ cs, H p.2 = some (.tbl #[])) → SqL K H a (ns.map V.int) → sp [.ref a] H (fun v _ => v = .bl true) fun _ _ _ => False) ∧
    ∀ base : Heap, K.In base → base.Ns mainGlobals mg → (∀ p ∈ cs, LamX.TabB base mg p.1 p.2) → FnOkB true l.prog w K mg base k fa fd [x] sp
theorem walk_ofB {l : PySem.W.OpenLaw} {n k : Nat} {q : Program} {loose : List Str} {XP : (Str → Option Value) → Heap → Prop} {YP : World → Heap → Prop} {d : DefRec} {K : Params → PySem.W.Frag} {x : Str}
    (hn : l.most = some n) (hn2 : n ≤ sizeLine) (hdf : d.params.defaults = []) (hr : Room k callerA) (hY : ∀ (w : World) (h : Heap), YP w h → (K w.params).In h)
    (F : ∀ (w : World) (mg : Str → Option Value) (fa : Addr) (h : Heap), YP w h → (K w.params).In h → h.Ns mainGlobals mg → mg d.name = some (.ref fa) → LawAtB l w (K w.params) k n x mg fa h) :
    PySem.W.WalkO q loose XP YP l.row.toRowW d [] (fun f vs => PySem.call f vs) := by
  refine Att.attach_callB hn hdf fun w s₀ s₁ mg mb fa o pm cd doc a vs ns G Y ho hd hcd hmg hobj hints hlen hbits hg => ?_
  obtain ⟨fd, cs, sp, hT, nT, C, hb, hsp, hF⟩ := F w mg fa _ Y (hY w _ Y) G.T.g hmg
  exact law_callB (hY w _ Y) G.T.g G.T.b G.T.builtins G.T.nolimit hg hT nT C G.T.bmain hobj hints (Nat.le_trans hlen hn2) hr hF hb fun H hH hS => hsp H a ns hlen hbits hH hS
end Cs

set_option maxRecDepth 100000
set_option maxHeartbeats 4000000
namespace Cs
open PySem L2 PyProof.Rows
section
variable {N : List Str} {V : List Nat} {Gs : List Str} {C : GC N V Gs}

/-! ## constants of the module -/
def GlobD (K : PySem.W.Frag) (mg : Str → Option Value) (x : Str) (d : D) : Prop := ∃ u v, mg x = some u ∧ RelV v u ∧ ∀ T G, Rep ⟨K, mg, T⟩ G v d
theorem globInt {K : PySem.W.Frag} {mg : Str → Option Value} {x : Str} {i : Int} (h : ∃ t, mg x = some (.int i t)) : GlobD K mg x (.int i) := by
  obtain ⟨t, h⟩ := h
  exact ⟨_, .int i, h, ⟨t, rfl⟩, fun T G => .int i⟩
theorem globStr {K : PySem.W.Frag} {mg : Str → Option Value} {x y : Str} (h : ∃ t, mg x = some (.str y t)) : GlobD K mg x (.str y) := by
  obtain ⟨t, h⟩ := h
  exact ⟨_, .str y, h, ⟨t, rfl⟩, fun T G => .str y⟩
theorem d_glob {x : Str} {pos : Pos} {d : D} (j : Nat) (h : GlobD C.X.K C.X.mg x d) (hg : Gs[j]? = some x := by rfl) (hdb : (x == ("__debug__" : Str)) = false := by decide +kernel) : SE C (.Name x pos) (eC d) := by
  obtain ⟨u, v, hm, rv, rd⟩ := h
  exact (pe_glob (C.gl j _ hg) hm rv hdb).imp fun σ H Q ⟨G, e, t⟩ => t.done (rd C.T G)

/-! ## isinstance of built-in kinds -/
def isTy (t : Ty) : Ty → Bool := fun u => u == t || (t == .int && u == .bool)
theorem isiK_ty (t : Ty) (ht : (t == .none) = false) : IsiK C (.type t.nm) (isTy t) [] where
  ty := fun u => by
    cases t <;> first | (cases ht; done) | (cases u <;> exact kit_ty (by decide +kernel))
  own := fun p m => by cases m
theorem cl_T (t : Ty) {x : Str} {pos : Pos} (C : GC N V Gs) (j : Nat) (hm : C.X.mg x = none) (ht : (t == .none) = false := by rfl) (hx : x = Str.ofString t.nm := by rfl) (hg : Gs[j]? = some x := by rfl) : ClsE C.X (.Name x pos) (.type t.nm) := by
  subst hx
  exact cl_ty C j hm (by cases t <;> first | (cases ht; done) | decide +kernel) hg (by cases t <;> decide +kernel) (by cases t <;> decide +kernel)

/-! ## defs, as the whole knows them -/
structure DefIs (K : PySem.W.Frag) (mg : Str → Option Value) (x : Str) (st : Stmt) (ps : List Str) : Prop where
  ex : ∃ fa fd, mg x = some (.ref fa) ∧ Fun K x x st fa fd ∧ Binds K fd ps []
/-- one that holds lambdas: its code object stands at c -/
structure DefIsL (K : PySem.W.Frag) (mg : Str → Option Value) (x : Str) (st : Stmt) (ps : List Str) (c : Addr) : Prop where
  ex : ∃ fa fd, mg x = some (.ref fa) ∧ Fun K x x st fa fd ∧ Binds K fd ps [] ∧ fd.code = .ref c
structure FnIs (gb : Bool) (P : Program) (w : World) (K : PySem.W.Frag) (mg : Str → Option Value) (base : Heap) (T : List (Addr × Str)) (k : Nat) (x : Str) (n : Nat) (f : List SV → FR) : Prop where
  ex : ∃ fa fd ps, FnOkB gb P w K mg base k fa fd ps (spF ⟨K, mg, T⟩ n f) ∧ mg x = some (.ref fa) ∧ PySem.W.keepIn K (.ref fa) = true ∧ Binds K fd ps []
theorem FnIs.at {k n : Nat} {x : Str} {f : List SV → FR} (h : FnIs C.gb C.X.prog C.X.w C.X.K C.X.mg C.X.base C.T k x n f) : FnAt C k x n f := ⟨h.ex⟩
theorem FnIs.up {gb : Bool} {P : Program} {w : World} {K : PySem.W.Frag} {mg : Str → Option Value} {base : Heap} {T : List (Addr × Str)} {k n : Nat} {x : Str} {f : List SV → FR} (h : FnIs false P w K mg base T k x n f) : FnIs gb P w K mg base T k x n f := by
  obtain ⟨fa, fd, ps, F, r⟩ := h.ex
  exact ⟨fa, fd, ps, F.up, r⟩
end
section
variable {gb : Bool} {P : Program} {w : World} {K : PySem.W.Frag} {mg : Str → Option Value} {base : Heap} {T : List (Addr × Str)}
theorem fn_is {x : Str} {st : Stmt} {N ps : List Str} {V : List Nat} {Gs : List Str} {k : Nat} {b : ES} (h : DefIs K mg x st ps) (S : FnScope N ps (defScope st)) (ok : okScope (defScope st) N V Gs = true) (hn : ps.length ≤ N.length)
    (tu : ∀ p ∈ T, ∀ q ∈ T, p.1 = q.1 → p.2 = q.2) (hl : ∀ Pt, (Pt, (x ++ ".<locals>.") ++ "<lambda>") ∉ T)
    (hbody : ∀ (C : GC N V Gs), C.X.prog = P → C.X.w = w → C.X.K = K → C.X.mg = mg → C.X.base = base → C.X.calm = true → C.X.stack = C.X.env :: C.X.outer → C.X.env.frame = some C.X.env.locals → C.X.ex = [] → C.X.env.qual = x ++ ".<locals>." → C.T = T → C.gb = gb → Room k C.X.A → SSs C (defBody st) b) :
    FnIs gb P w K mg base T (k + 1) x ps.length (runBody N.length b) := by
  obtain ⟨fa, fd, hm, Fu, hb⟩ := h.ex
  exact ⟨fa, fd, ps, fn_g Fu S ok hn tu (fun Pt m => (hl Pt m).elim) hbody, hm, Fu.kp, hb⟩
theorem fn_isL {x : Str} {st : Stmt} {N ps : List Str} {V : List Nat} {Gs : List Str} {k : Nat} {b : ES} {c : Addr} (h : DefIsL K mg x st ps c) (S : FnScope N ps (defScope st)) (ok : okScope (defScope st) N V Gs = true) (hn : ps.length ≤ N.length)
    (tu : ∀ p ∈ T, ∀ q ∈ T, p.1 = q.1 → p.2 = q.2) (hl : ∀ Pt, (Pt, (x ++ ".<locals>.") ++ "<lambda>") ∈ T → LamX.TabB base mg c Pt)
    (hbody : ∀ (C : GC N V Gs), C.X.prog = P → C.X.w = w → C.X.K = K → C.X.mg = mg → C.X.base = base → C.X.calm = true → C.X.stack = C.X.env :: C.X.outer → C.X.env.frame = some C.X.env.locals → C.X.ex = [] → C.X.env.qual = x ++ ".<locals>." → C.T = T → C.gb = gb → Room k C.X.A → SSs C (defBody st) b) :
    FnIs gb P w K mg base T (k + 1) x ps.length (runBody N.length b) := by
  obtain ⟨fa, fd, hm, Fu, hb, hc⟩ := h.ex
  exact ⟨fa, fd, ps, fn_g Fu S ok hn tu (fun Pt m => ⟨c, hc, hl Pt m⟩) hbody, hm, Fu.kp, hb⟩
/-- one that is handed a lambda -/
theorem lamDef_mk {N : List Str} {V : List Nat} {Gs : List Str} {C : GC N V Gs} {x a : Str} {st : Stmt} {Ng : List Str} {Vg : List Nat} {Gg : List Str} {b : R D → ES} (h : DefIs C.X.K C.X.mg x st [a]) (S : FnScope Ng [a] (defScope st)) (ok : okScope (defScope st) Ng Vg Gg = true)
    (hnl : ∀ Pt, (Pt, (x ++ ".<locals>.") ++ "<lambda>") ∉ C.T)
    (hbody : ∀ (C' : GC Ng Vg Gg) (r : R D), C'.X.prog = C.X.prog → C'.X.w = C.X.w → C'.X.K = C.X.K → C'.X.mg = C.X.mg → C'.X.base = C.X.base → C'.X.calm = true → C'.X.stack = C'.X.env :: C'.X.outer → C'.X.env.frame = some C'.X.env.locals → (∀ W pn xe tk po, ActAt (C'.tr W pn xe tk po) a r) → SSs C' (defBody st) (b r))
    (hN : Ng[0]? = some a := by rfl) (hV : Vg[0]? = some 2 := by rfl) (hd : (a == ("__debug__" : Str)) = false := by decide +kernel) (hcd : (a == ("__classdict__" : Str)) = false := by decide +kernel) : LamDef C x (fun r => runAct Ng.length (b r)) := by
  obtain ⟨fa, fd, hm, Fu, hb⟩ := h.ex
  exact ⟨fa, a, st, fd, Ng, Vg, Gg, Ng.length, b, S, ok, hnl, hm, Fu, hb, hN, hV, rfl, hd, hcd, rfl, fun cd A outer s H F hu gd r act => hbody _ r rfl rfl rfl rfl rfl rfl rfl rfl act⟩
theorem DefIs.mk' {x : Str} {st : Stmt} {ps : List Str} {fa : Addr} {oc : Value} {od an : Option Addr} {osl : Array (Option Value)} {kV doc pm cdv ct : Value} (hm : mg x = some (.ref fa)) (l : K.lookup fa = some ⟨oc, od, .func (PySem.W.fnOf x x (defArgs st) (defBody st) (defScope st) .none kV doc pm an cdv ct), osl⟩) (c : PySem.W.codeIn K cdv x = true) (kp : PySem.W.keepIn K (.ref fa) = true)
    (hb : ∀ (kV doc pm : Value) (an : Option Addr) (cdv ct : Value) (us : List Value), us.length = ps.length → bindArgs (PySem.W.fnOf x x (defArgs st) (defBody st) (defScope st) .none kV doc pm an cdv ct) ⟨us, []⟩ = pure (ps.zip us)) : DefIs K mg x st ps :=
  ⟨fa, _, hm, fun_mk l c kp, (fun_mk l c kp).binds hb⟩
end
end Cs

set_option maxRecDepth 100000
set_option maxHeartbeats 4000000
namespace Cs
open PySem L2 PyProof.Rows
section
variable {P : Program} {w : World} {K : PySem.W.Frag} {mg : Str → Option Value} {base : Heap}
/-! ## def __init__(self): ValueError.__init__(self) -/
/-- its body's walk (by rfl at the very text) -/
def Init0 (st : Stmt) : Prop := ∀ X : Cx, X.N = [("self" : Str)] → Gl X "ValueError" → X.env.scope.names.lookup ("self" : Str) = some NameKind.local → X.mg "ValueError" = none → PySem.W.findCls X.K (.type "ValueError") (.type "type") "__init__" = some (.val (.builtin "ValueError.__init__")) →
  PSs X (defBody st) (fun D σ H => tVeI X.K (fun σ H Q => ∃ v, σ[0]? = some (some v) ∧ Q [v] H) σ H (fun _ H' => D.nx σ H'))
theorem ok_init0 {x qual : Str} {st : Stmt} {f : Addr} {fd : FuncData} (F : Fun K x qual st f fd) (S : FnScope ["self"] ["self"] (defScope st)) (hb : Init0 st)
    (hg : (defScope st).names.lookup ("ValueError" : Str) = some NameKind.globalImplicit) (hl : (defScope st).names.lookup ("self" : Str) = some NameKind.local) (hm : mg "ValueError" = none) (vV : PySem.W.findCls K (.type "ValueError") (.type "type") "__init__" = some (.val (.builtin "ValueError.__init__"))) :
    FnOk P w K mg base (L2.CX P w) 1 f fd ["self"] (spI0 K) := by
  refine F.okX S (fun vs H Q E h => ?_) (fun cdv A outer s H vs Q E hr h => ?_)
  · obtain ⟨a, C, rfl, _⟩ := h; rfl
  · obtain ⟨a, C, rfl, T, he, q⟩ := h
    exact ⟨_, hb _ rfl hg hl hm vV, .ref a, rfl, a, C, [], rfl, by simp, T, he, q⟩
/-- what is known of an error class without fields -/
structure Exc0 (K : PySem.W.Frag) (mg : Str → Option Value) (x : Str) (st : Stmt) : Prop where
  ex : ∃ (Cc fI : Addr) (fd : FuncData), OexC K Cc ∧ PySem.W.findIn K (.ref Cc) "__init__" = some (some (.ref fI)) ∧ PySem.W.typeIn K (.ref fI) = some (.type "function") ∧ Fun K "__init__" "CordError.__init__" st fI fd ∧ Binds K fd ["self"] [] ∧ mg x = some (.ref Cc)
theorem e0_mk {N : List Str} {V : List Nat} {Gs : List Str} {C : GC N V Gs} {x : Str} {st : Stmt} (h : Exc0 C.X.K C.X.mg x st) (S : FnScope ["self"] ["self"] (defScope st)) (hb : Init0 st)
    (hg : (defScope st).names.lookup ("ValueError" : Str) = some NameKind.globalImplicit) (hl : (defScope st).names.lookup ("self" : Str) = some NameKind.local) (hm : C.X.mg "ValueError" = none) (vV : PySem.W.findCls C.X.K (.type "ValueError") (.type "type") "__init__" = some (.val (.builtin "ValueError.__init__"))) : E0At C 1 x := by
  obtain ⟨Cc, fI, fd, T, h1, h2, F, b, m⟩ := h.ex
  exact ⟨Cc, fI, fd, ["self"], T, h1, h2, ok_init0 F S hb hg hl hm vV, b, m⟩
end
section
variable {N : List Str} {V : List Nat} {Gs : List Str} {C : GC N V Gs}
/-- own class, built-in class in a suite -/
def OwnCls (mg : Str → Option Value) (x : Str) (cv : Value) : Prop := ∃ Ct : Addr, mg x = some (.ref Ct) ∧ cv = .ref Ct
theorem clx_own {x : Str} {pos : Pos} {cv : Value} (j : Nat) (h : OwnCls C.X.mg x cv) (hg : Gs[j]? = some x := by rfl) (hdb : (x == ("__debug__" : Str)) = false := by decide +kernel) : ClsE C.X (.Name x pos) cv := by
  obtain ⟨Ct, hm, rfl⟩ := h
  exact cl_own C j hm hg hdb
theorem clx_blt {x : Str} {pos : Pos} {n : String} (j : Nat) (hm : C.X.mg x = none) (hv : bootBuiltins x = some (.type n)) (hg : Gs[j]? = some x := by rfl) (hn : x ≠ "__name__" := by decide +kernel) (hdb : (x == ("__debug__" : Str)) = false := by decide +kernel) : ClsE C.X (.Name x pos) (.type n) :=
  cl_ty C j hm hv hg hn hdb
def IsEOkK (K : PySem.W.Frag) (mg : Str → Option Value) (cv : Value) (tab : List (Str × Bool)) : Prop := ∀ p ∈ tab, ∀ Cx : Addr, mg p.1 = some (.ref Cx) → ExcC K Cx ∧ PySem.W.kitOne K (.ref Cx) cv = some p.2
def CatOkK (K : PySem.W.Frag) (mg : Str → Option Value) (c : Value) (tab : List (Str × Bool)) : Prop := ∀ p ∈ tab, ∀ Cx : Addr, mg p.1 = some (.ref Cx) → PySem.W.exmOne K (.ref Cx) c = some p.2
theorem IsEOkK.at {cv : Value} {tab : List (Str × Bool)} (h : IsEOkK C.X.K C.X.mg cv tab) : IsEOk C cv tab := h
theorem CatOkK.at {cv : Value} {tab : List (Str × Bool)} (h : CatOkK C.X.K C.X.mg cv tab) : CatOk C cv tab := h
end
end Cs

set_option maxRecDepth 100000
set_option maxHeartbeats 4000000
namespace Cs
open PySem L2
section
variable {N : List Str} {V : List Nat} {Gs : List Str} {C : GC N V Gs} {a b : Expr} {pos : Pos} {fa fb : EM D}
theorem od_is : OpD C rIs isD := by
  intro a b d x y G e σ H Q h ra rb s k
  unfold isD at h
  split at h
  · cases h; exact .inl ⟨rb.nonV, by rw [ra.isNon]; exact k G _ H (GE.refl G) s (.bl _)⟩
  · cases h; exact .inr ⟨_, _, ra.blV, rb.blV, k G _ H (GE.refl G) s (.bl _)⟩
  · cases h
theorem od_isnot : OpD C rIsnot isnotD := by
  intro a b d x y G e σ H Q h ra rb s k
  unfold isnotD at h
  split at h
  · cases h; exact .inl ⟨rb.nonV, by rw [ra.isNon]; exact k G _ H (GE.refl G) s (.bl _)⟩
  · cases h; exact .inr ⟨_, _, ra.blV, rb.blV, k G _ H (GE.refl G) s (.bl _)⟩
  · cases h
theorem t_lt (ha : SE C a fa) (hb : SE C b fb) (hm : behindInMarks .Lt b = false := by rfl) : ST C (.Compare a [.Lt] [b] pos) (tv (e2 ltD fa fb)) := t_cmp op_lt od_lt ha hb hm
theorem t_le (ha : SE C a fa) (hb : SE C b fb) (hm : behindInMarks .LtE b = false := by rfl) : ST C (.Compare a [.LtE] [b] pos) (tv (e2 leD fa fb)) := t_cmp op_le od_le ha hb hm
theorem t_gt (ha : SE C a fa) (hb : SE C b fb) (hm : behindInMarks .Gt b = false := by rfl) : ST C (.Compare a [.Gt] [b] pos) (tv (e2 gtD fa fb)) := t_cmp op_gt od_gt ha hb hm
theorem t_ge (ha : SE C a fa) (hb : SE C b fb) (hm : behindInMarks .GtE b = false := by rfl) : ST C (.Compare a [.GtE] [b] pos) (tv (e2 geD fa fb)) := t_cmp op_ge od_ge ha hb hm
theorem t_eq (ha : SE C a fa) (hb : SE C b fb) (hm : behindInMarks .Eq b = false := by rfl) : ST C (.Compare a [.Eq] [b] pos) (tv (e2 eqD fa fb)) := t_cmp (op_eqX C.hu) od_eq ha hb hm
theorem t_ne (ha : SE C a fa) (hb : SE C b fb) (hm : behindInMarks .NotEq b = false := by rfl) : ST C (.Compare a [.NotEq] [b] pos) (tv (e2 neD fa fb)) := t_cmp (op_neX C.hu) od_ne ha hb hm
theorem t_is (ha : SE C a fa) (hb : SE C b fb) (hm : behindInMarks .Is b = false := by rfl) : ST C (.Compare a [.Is] [b] pos) (tv (e2 isD fa fb)) := t_cmp (r := rIs) (OpR.or op_isN op_is_bl) od_is ha hb hm
theorem t_isnot (ha : SE C a fa) (hb : SE C b fb) (hm : behindInMarks .IsNot b = false := by rfl) : ST C (.Compare a [.IsNot] [b] pos) (tv (e2 isnotD fa fb)) := t_cmp (r := rIsnot) (OpR.or op_notN op_isnot_bl) od_isnot ha hb hm
end
end Cs

set_option maxRecDepth 100000
set_option maxHeartbeats 4000000
/-! evaluation of the plain functions -/
namespace Cs
open PySem L2
section
variable {α β : Type} {e : Env}
theorem ap_bnd (f : EM α) (k : α → EM β) (e : Env) : bnd f k e = (f e).bind k := rfl
theorem ap_bind (a : α) (e : Env) (k : α → Env → R β) : (R.ok a e).bind k = k a e := rfl
theorem ap_bindX (x : XV) (e : Env) (k : α → Env → R β) : (R.exc x e).bind k = .exc x e := rfl
theorem ap_bindB (k : α → Env → R β) : (R.bad : R α).bind k = .bad := rfl
theorem ap_ret (a : α) (e : Env) : Cs.ret a e = .ok a e := rfl
theorem ap_fail (e : Env) : (fail : EM α) e = .bad := rfl
theorem ap_ofO (a : α) (e : Env) : ofO (some a) e = .ok a e := rfl
theorem ap_ofON (e : Env) : (ofO (none : Option α)) e = .bad := rfl
theorem ap_eC (d : D) (e : Env) : eC d e = .ok d e := rfl
theorem ap_sq (f g : ES) (e : Env) : sq f g e = (f e).then g := rfl
theorem ap_then (e : Env) (g : ES) : (SR.next e).then g = g e := rfl
theorem ap_thenR (d : D) (e : Env) (g : ES) : (SR.ret d e).then g = .ret d e := rfl
theorem ap_thenO (d : OO) (e : Env) (g : ES) : (SR.retO d e).then g = .retO d e := rfl
theorem ap_thenX (x : XV) (e : Env) (g : ES) : (SR.exc x e).then g = .exc x e := rfl
theorem ap_sB (f : EM α) (k : α → ES) (e : Env) : sB f k e = (f e).s k := rfl
theorem ap_s (a : α) (e : Env) (k : α → ES) : (R.ok a e).s k = k a e := rfl
theorem ap_sX (x : XV) (e : Env) (k : α → ES) : (R.exc x e : R α).s k = .exc x e := rfl
theorem ap_sNil (e : Env) : sNil e = .next e := rfl
theorem ap_if {c : Prop} [Decidable c] (f g : EM α) (e : Env) : (if c then f else g) e = if c then f e else g e := by split <;> rfl
theorem ap_ifS {c : Prop} [Decidable c] (f g : ES) (e : Env) : (if c then f else g) e = if c then f e else g e := by split <;> rfl
theorem ap_asBl (b : Bool) : (D.bl b).asBl = some b := rfl
theorem ap_tru (b : Bool) : (D.bl b).tru = some b := rfl
theorem ap_add (a b : Int) : addD (.int a) (.int b) = some (.int (a + b)) := rfl
theorem ap_sub (a b : Int) : subD (.int a) (.int b) = some (.int (a - b)) := rfl
theorem ap_neg (a : Int) : negD (.int a) = some (.int (-a)) := rfl
theorem ap_lt (a b : Int) : ltD (.int a) (.int b) = some (.bl (decide (a < b))) := rfl
theorem ap_le (a b : Int) : leD (.int a) (.int b) = some (.bl (decide (a ≤ b))) := rfl
theorem ap_gt (a b : Int) : gtD (.int a) (.int b) = some (.bl (decide (b < a))) := rfl
theorem ap_ge (a b : Int) : geD (.int a) (.int b) = some (.bl (decide (b ≤ a))) := rfl
theorem shaped_int (a : Int) : SeqAt.shaped (.int a) = true := rfl
theorem eqv_int (a b : Int) : PyData.eqv (.int a) (.int b) = decide (a = b) := by
  show (a == b) = _
  by_cases h : a = b <;> simp [h]
theorem ap_eqI (a b : Int) : eqD (.int a) (.int b) = some (.bl (decide (a = b))) := by
  show (if SeqAt.shaped (.int a) && SeqAt.shaped (.int b) then some (D.bl (PyData.eqv (.int a) (.int b))) else none) = _
  rw [shaped_int, shaped_int, eqv_int]; rfl
theorem ap_neI (a b : Int) : neD (.int a) (.int b) = some (.bl (!decide (a = b))) := by
  show (if SeqAt.shaped (.int a) && SeqAt.shaped (.int b) then some (D.bl (!PyData.eqv (.int a) (.int b))) else none) = _
  rw [shaped_int, shaped_int, eqv_int]; rfl
theorem ap_loc (e : Env) (i : Nat) (d : D) (h : e[i]? = some (some (.val d))) : eLoc i e = .ok d e := by unfold eLoc; rw [h]
end

/-! ### comprehensions whose elements change nothing -/
theorem plain_cases {e : Cs.Env} {i : Nat} (h : plainSlot e[i]? = true) : e[i]? = some none ∨ ∃ d, e[i]? = some (some (.val d)) := by
  unfold plainSlot at h
  split at h
  · rename_i q; exact .inl q
  · rename_i q; exact .inr ⟨_, q⟩
  · cases h
theorem lcL_map {i : Nat} {f : EM D} {g : D → D} {e : Cs.Env} (he : e[i]? = some none) : ∀ (ds acc : List D), (∀ d ∈ ds, f (e.set i (some (.val d))) = .ok (g d) (e.set i (some (.val d)))) → acc.length + ds.length ≤ sz →
    lcL [i] false [i] (Cs.ret true) f ds acc e = some (acc ++ ds.map g, e)
  | [], acc, _, _ => by simp [lcL]
  | d :: ds, acc, hf, hl => by
    have hi := lt_of_get he
    have h1 : putAll [i] [d] e = some (e.set i (some (.val d))) := by unfold putAll; rw [he]; rfl
    have h2 : (e.set i (some (.val d)))[i]? = some (some (.val d)) := List.getElem?_set_self hi
    have h3 : wipeE (e.set i (some (.val d))) [i] = e := by
      show (e.set i (some (.val d))).set i none = e
      rw [List.set_set]
      apply List.ext_getElem?
      intro j
      by_cases hj : j = i
      · subst hj; rw [List.getElem?_set_self hi, he]
      · rw [List.getElem?_set_ne (Ne.symm hj)]
    have hlt : acc.length < sz := by simp at hl; omega
    unfold lcL
    show (match tgVals false 1 d with | none => none | some xs => _) = _
    have h0 : tgVals false 1 d = some [d] := rfl
    rw [h0]
    dsimp only
    rw [h1]
    dsimp only
    show (match (R.ok true (e.set i (some (.val d))) : R Bool) with | .ok b e2 => _ | _ => none) = _
    dsimp only
    rw [if_pos rfl, hf d (by simp)]
    dsimp only
    have hc : acc.length < sz ∧ ([i].all fun v => plainSlot (e.set i (some (.val d)))[v]?) = true := ⟨hlt, by simp [h2, plainSlot]⟩
    rw [if_pos hc, h3, lcL_map he ds (acc ++ [g d]) (fun x hx => hf x (List.mem_cons_of_mem _ hx)) (by simp at hl ⊢; omega)]
    simp
theorem oLc_map {i : Nat} {fi : EM (List D)} {f : EM D} {g : D → D} {ds : List D} {e0 e1 : Cs.Env} (hfi : fi e0 = .ok ds e1) (hp : plainSlot e1[i]? = true) (hn : ds.length ≤ sz) (hf : ∀ d ∈ ds, f (e1.set i (some (.val d))) = .ok (g d) (e1.set i (some (.val d)))) :
    oLc [i] false [i] fi (Cs.ret true) f e0 = .ok (.lst (ds.map g)) e1 := by
  have hi : i < e1.length := (plain_nb hp).1
  have hw : (e1.set i none)[i]? = some none := List.getElem?_set_self hi
  have hl := lcL_map (f := f) (g := g) hw ds [] (fun d hd => by rw [List.set_set]; exact hf d hd) (by simpa using hn)
  unfold oLc
  rw [ap_bnd, hfi, ap_bind]
  have hc : ([i].all fun v => plainSlot e1[v]?) = true := by simp [hp]
  rw [if_pos hc]
  show (match lcL [i] false [i] (Cs.ret true) f ds [] (e1.set i none) with | some (acc, e') => _ | none => _) = _
  rw [hl]
  dsimp only
  have hc2 : ([i].all fun v => plainSlot (e1.set i none)[v]?) = true := by simp [hw, plainSlot]
  rw [if_pos hc2]
  congr 1
  show (e1.set i none).set i (e1.getD i none) = e1
  rw [List.set_set]
  apply List.ext_getElem?
  intro j
  by_cases hj : j = i
  · subst hj
    rw [List.getElem?_set_self hi]
    rcases plain_cases hp with q | ⟨d, q⟩ <;> rw [getD_of q, q]
  · rw [List.getElem?_set_ne (Ne.symm hj)]
end Cs

set_option maxRecDepth 100000
set_option maxHeartbeats 4000000
/-! comprehensions that change the state -/
namespace Cs
open PySem L2
/-- a comprehension without if, by an invariant of the slots -/
theorem lcL_inv {vs : List Nat} {t : Bool} {is : List Nat} {f : EM D} (Inv : Cs.Env → Prop) (P : D → D → Prop) : ∀ (ds acc : List D) (e : Cs.Env), Inv e →
    (∀ d ∈ ds, ∀ e, Inv e → ∃ xs e1 y e2, tgVals t is.length d = some xs ∧ putAll is xs e = some e1 ∧ f e1 = .ok y e2 ∧ P d y ∧ (vs.all fun v => plainSlot e2[v]?) = true ∧ Inv (wipeE e2 vs)) → acc.length + ds.length ≤ sz →
    ∃ ys e', ys.length = ds.length ∧ (∀ p ∈ ds.zip ys, P p.1 p.2) ∧ Inv e' ∧ lcL vs t is (Cs.ret true) f ds acc e = some (acc ++ ys, e')
  | [], acc, e, he, _, _ => ⟨[], e, rfl, (fun p hp => absurd hp (by simp)), he, by simp [lcL]⟩
  | d :: ds, acc, e, he, h, hl => by
    obtain ⟨xs, e1, y, e2, h1, h2, h3, h4, h5, h6⟩ := h d (by simp) e he
    obtain ⟨ys, e', g1, g2, g3, g4⟩ := lcL_inv Inv P ds (acc ++ [y]) (wipeE e2 vs) h6 (fun x hx => h x (List.mem_cons_of_mem _ hx)) (by simp at hl ⊢; omega)
    refine ⟨y :: ys, e', by simp [g1], fun p hp => ?_, g3, ?_⟩
    · rw [List.zip_cons_cons] at hp
      rcases List.mem_cons.mp hp with rfl | hp
      · exact h4
      · exact g2 p hp
    · have hlt : acc.length < sz := by simp at hl; omega
      unfold lcL
      rw [h1]; dsimp only
      rw [h2]; dsimp only
      rw [ap_ret]; dsimp only
      rw [if_pos rfl, h3]; dsimp only
      rw [if_pos ⟨hlt, h5⟩, g4]; simp
theorem mem_zip_snd {α β : Type} : ∀ {as : List α} {bs : List β}, as.length = bs.length → ∀ b ∈ bs, ∃ a ∈ as, (a, b) ∈ as.zip bs
  | [], [], _, b, hb => by cases hb
  | [], _ :: _, h, _, _ => by cases h
  | _ :: _, [], h, _, _ => by cases h
  | a :: as, c :: bs, h, b, hb => by
    rcases List.mem_cons.mp hb with rfl | hb
    · exact ⟨a, by simp, by simp⟩
    · obtain ⟨a', h1, h2⟩ := mem_zip_snd (as := as) (bs := bs) (by simpa using h) b hb
      exact ⟨a', List.mem_cons_of_mem _ h1, by simp [h2]⟩
end Cs

set_option maxRecDepth 100000
set_option maxHeartbeats 4000000
/-! repr of plain things: it is told -/
namespace Cs
open PySem L2
mutual
/-- nested tuples and lists of small numbers, flags, None, so deep at most -/
def rOk : Nat → D → Bool
  | _, .non => true
  | _, .bl _ => true
  | _, .int i => decide (i.natAbs < 10 ^ 12)
  | n + 1, .tup xs => rOks n xs
  | n + 1, .lst xs => rOks n xs
  | _, _ => false
def rOks : Nat → List D → Bool
  | _, [] => true
  | n, x :: r => rOk n x && rOks n r
end
mutual
/-- what it weighs at most -/
def wD : D → Nat
  | .int _ => 40
  | .tup xs => wDs xs
  | .lst xs => wDs xs
  | _ => 0
def wDs : List D → Nat
  | [] => 0
  | x :: r => wD x + 1 + wDs r
end
theorem log_small {i : Int} (h : i.natAbs < 10 ^ 12) : (if i == 0 then 0 else i.natAbs.log2 + 1) ≤ 40 := by
  split
  · omega
  · rename_i z
    have z0 : i.natAbs ≠ 0 := fun e => z (by simpa using e)
    have : i.natAbs.log2 < 40 := (Nat.log2_lt z0).mpr (by omega)
    omega
mutual
theorem rOk_pd : ∀ (n : Nat) (d : D), rOk n d = true → ∃ p, d.pd = some p ∧ p.showable = true ∧ p.depth ≤ n ∧ p.hasDict = false ∧ p.leavesShort 13 = true ∧ p.weight ≤ wD d ∧ p.canLay0 = true
  | n, .non, _ => ⟨.none, rfl, rfl, Nat.zero_le _, rfl, rfl, Nat.zero_le _, rfl⟩
  | n, .bl b, _ => ⟨.bool b, rfl, rfl, Nat.zero_le _, rfl, rfl, Nat.zero_le _, rfl⟩
  | n, .int i, h => by
    have h : i.natAbs < 10 ^ 12 := by cases n <;> exact of_decide_eq_true h
    refine ⟨.int i, rfl, ?_, Nat.zero_le _, rfl, ?_, log_small h, rfl⟩
    · show decide (i.natAbs.log2 < 1920) = true
      rw [decide_eq_true_eq]
      have := log_small h
      split at this
      · rename_i z
        have : i = 0 := by simpa using z
        subst this; decide
      · omega
    · show decide _ = true
      rw [decide_eq_true_eq]
      exact PyData.shown_int_le h
  | 0, .tup xs, h => by cases h
  | 0, .lst xs, h => by cases h
  | n + 1, .tup xs, h => by
    obtain ⟨ps, h1, h2, h3, h4, h5, h6, h7⟩ := rOks_pd n xs h
    refine ⟨.tuple ps, by show (D.pds xs).map _ = _; rw [h1]; rfl, h2, Nat.succ_le_succ h3, h4, h5, h6, h7⟩
  | n + 1, .lst xs, h => by
    obtain ⟨ps, h1, h2, h3, h4, h5, h6, h7⟩ := rOks_pd n xs h
    refine ⟨.list ps, by show (D.pds xs).map _ = _; rw [h1]; rfl, h2, Nat.succ_le_succ h3, h4, h5, h6, h7⟩
  | 0, .str _, h => by cases h
  | 0, .scr _, h => by cases h
  | 0, .dic _, h => by cases h
  | 0, .ins _ _, h => by cases h
  | 0, .fn _, h => by cases h
  | _ + 1, .str _, h => by cases h
  | _ + 1, .scr _, h => by cases h
  | _ + 1, .dic _, h => by cases h
  | _ + 1, .ins _ _, h => by cases h
  | _ + 1, .fn _, h => by cases h
theorem rOks_pd : ∀ (n : Nat) (xs : List D), rOks n xs = true → ∃ ps, D.pds xs = some ps ∧ PyData.showableAll ps = true ∧ PyData.depthAll ps ≤ n ∧ PyData.hasDictAll ps = false ∧ PyData.leavesShortAll 13 ps = true ∧ PyData.weightAll ps ≤ wDs xs ∧ PyData.canLayAll0 ps = true
  | n, [], _ => ⟨[], rfl, rfl, Nat.zero_le _, rfl, rfl, Nat.zero_le _, rfl⟩
  | n, x :: r, h => by
    unfold rOks at h
    rw [Bool.and_eq_true] at h
    obtain ⟨p, a1, a2, a3, a4, a5, a6, a7⟩ := rOk_pd n x h.1
    obtain ⟨ps, b1, b2, b3, b4, b5, b6, b7⟩ := rOks_pd n r h.2
    refine ⟨p :: ps, ?_, ?_, ?_, ?_, ?_, ?_, ?_⟩
    · show (match D.pd x, D.pds r with | some a, some b => some (a :: b) | _, _ => none) = _
      rw [a1, b1]
    · show (p.showable && PyData.showableAll ps) = true
      rw [a2, b2]; rfl
    · show max p.depth (PyData.depthAll ps) ≤ n
      omega
    · show (p.hasDict || PyData.hasDictAll ps) = false
      rw [a4, b4]; rfl
    · show (p.leavesShort 13 && PyData.leavesShortAll 13 ps) = true
      rw [a5, b5]; rfl
    · show p.weight + 1 + PyData.weightAll ps ≤ wD x + 1 + wDs r
      omega
    · show (p.canLay0 && PyData.canLayAll0 ps) = true
      rw [a7, b7]; rfl
end
theorem repr_ok {d : D} (h : rOk 50 d = true) (hw : wD d ≤ 2 ^ 20) : ∃ t, reprD [d] = some (.str t) := by
  obtain ⟨p, h1, h2, h3, h4, h5, h6, h7⟩ := rOk_pd 50 d h
  refine ⟨p.shown, ?_⟩
  have h8 : p.shown.length ≤ sz := by
    have := PyData.shown_fits (B := 13) (by decide) (by decide) h5 (Nat.le_trans h6 hw)
    rwa [sizeLine_eq] at this
  have h9 : reprOk p = true := by
    unfold reprOk
    rw [h2, h4]
    simp [h3, h8]
  show (match d.pd with | some p => if reprOk p = true then some (D.str p.shown) else none | none => none) = _
  rw [h1]; dsimp only; rw [if_pos h9]
theorem eq_self {d : D} {n : Nat} (h : rOk n d = true) (hn : n ≤ 64) : eqD d d = some (.bl true) := by
  obtain ⟨p, h1, h2, h3, h4, h5, h6, h7⟩ := rOk_pd n d h
  have hs : SeqAt.shaped p = true := by unfold SeqAt.shaped; rw [h7]; simp; omega
  have e : eqP d d = some (.bl true) := by
    unfold eqP
    rw [h1]; dsimp only
    rw [hs]
    simp [SeqAt.eqv_refl p h7]
  cases d with
  | str x => show some (D.bl (x == x)) = _; simp
  | _ => exact e
theorem ne_of_eq {a b : D} {v : Bool} (h : eqD a b = some (.bl v)) : neD a b = some (.bl (!v)) := by
  have key : eqP a b = some (.bl v) → neP a b = some (.bl (!v)) := fun e => by
    unfold eqP at e
    unfold neP
    split at e
    · split at e
      · rename_i p1 q1 e1 e2 hz
        rw [if_pos hz]
        have := Option.some.inj e
        rw [D.bl.injEq] at this
        rw [this]
      · cases e
    · cases e
  unfold eqD at h
  unfold neD
  split at h
  · have := Option.some.inj h
    rw [D.bl.injEq] at this
    rw [this]
  · exact key h
theorem eqStr (a b : Str) : eqD (.str a) (.str b) = some (.bl (a == b)) := rfl
theorem neStr (a b : Str) : neD (.str a) (.str b) = some (.bl (!(a == b))) := rfl
theorem neStr1 (a : Str) : neD (.str a) (.str a) = some (.bl false) := by rw [neStr]; simp
end Cs

set_option maxRecDepth 100000
set_option maxHeartbeats 4000000
/-! evaluation, wider -/
namespace Cs
open PySem L2
section
variable {α β : Type} {e : Cs.Env}
theorem ap_rdV (f : EM D) (e : Cs.Env) : rdV f e = (f e).bind fun d => Cs.ret (.val d) := rfl
theorem ap_bCons (f : EM Rd) (g : EM (List Rd)) (e : Cs.Env) : bCons f g e = (f e).bind fun d => bnd g fun ds => Cs.ret (d :: ds) := rfl
theorem ap_bNil (e : Cs.Env) : bNil e = .ok [] e := rfl
theorem ap_rdS (i : Nat) (e : Cs.Env) : rdS i e = .ok (.slot i) e := rfl
theorem ap_rdG (r : Rd) (k : D → EM α) (e : Cs.Env) : rdG r k e = match r.get e with | some d => k d e | none => .bad := rfl
theorem ap_rdGs (r : List Rd) (k : List D → EM α) (e : Cs.Env) : rdGs r k e = match gets e r with | some d => k d e | none => .bad := rfl
theorem ap_eCall (f : List D → Option D) (fa : EM (List Rd)) (e : Cs.Env) : eCall f fa e = (fa e).bind fun rs => rdGs rs fun ds => ofO (f ds) := rfl
theorem ap_oCall (f : List D → Option OO) (fa : EM (List Rd)) (e : Cs.Env) : oCall f fa e = (fa e).bind fun rs => rdGs rs fun ds => ofO (f ds) := rfl
theorem ap_eFrz (f : EM OO) (e : Cs.Env) : eFrz f e = (f e).bind fun o => Cs.ret o.fr := rfl
theorem ap_eFn (n : Nat) (f : List SV → FR) (fa : EM (List Rd)) (e : Cs.Env) : eFn n f fa e = (fa e).bind (callK n f Cs.ret fun o => Cs.ret o.fr) := rfl
theorem ap_oFn (n : Nat) (f : List SV → FR) (fa : EM (List Rd)) (e : Cs.Env) : oFn n f fa e = (fa e).bind (callK n f (fun _ => fail) Cs.ret) := rfl
theorem ap_eSl (f : EM Rd) (l h : EM (Option Int)) (e : Cs.Env) : eSl f l h e = (f e).bind fun r => bnd l fun lo => bnd h fun hi => rdG r fun d => ofO (slD d lo hi) := rfl
theorem ap_pNone (e : Cs.Env) : pNone e = .ok none e := rfl
theorem ap_e2B (f : D → D → Option D) (fa fb : EM Rd) (e : Cs.Env) : e2B f fa fb e = (fa e).bind fun a => bnd fb fun b => rdG a fun x => rdG b fun y => ofO (f x y) := rfl
theorem ap_sAsgO (f : EM OO) (i : Nat) (e : Cs.Env) : sAsgO f i e = ((f e).bind (putO i)).s fun _ e => .next e := rfl
theorem ap_sPar (i j : Nat) (fa : EM (List D)) (e : Cs.Env) : sPar i j fa e = (fa e).s fun ds => match ds with | [a, b] => sB (putV i a) fun _ => sB (putV j b) fun _ e => .next e | _ => fun _ => .bad := rfl
theorem callK_val {n : Nat} {f : List SV → FR} {kv : D → EM α} {ko : OO → EM α} {rs : List Rd} {as : List SV} {d : D} {os : List OO} {e' : Cs.Env} (hn : rs.length = n ∧ (slotsOf rs).Nodup) (ha : argsOf e rs = some as) (hf : f as = .val d os) (ho : osets (slotsOf rs) os e = some e') : callK n f kv ko rs e = kv d e' := by
  unfold callK; rw [if_pos hn, ha]; dsimp only; rw [hf]; dsimp only; rw [ho]
theorem callK_own {n : Nat} {f : List SV → FR} {kv : D → EM α} {ko : OO → EM α} {rs : List Rd} {as : List SV} {d : OO} {os : List OO} {e' : Cs.Env} (hn : rs.length = n ∧ (slotsOf rs).Nodup) (ha : argsOf e rs = some as) (hf : f as = .own d os) (ho : osets (slotsOf rs) os e = some e') : callK n f kv ko rs e = ko d e' := by
  unfold callK; rw [if_pos hn, ha]; dsimp only; rw [hf]; dsimp only; rw [ho]
theorem callK_exc {n : Nat} {f : List SV → FR} {kv : D → EM α} {ko : OO → EM α} {rs : List Rd} {as : List SV} {x : XV} {os : List OO} {e' : Cs.Env} (hn : rs.length = n ∧ (slotsOf rs).Nodup) (ha : argsOf e rs = some as) (hf : f as = .exc x os) (ho : osets (slotsOf rs) os e = some e') : callK n f kv ko rs e = .exc x e' := by
  unfold callK; rw [if_pos hn, ha]; dsimp only; rw [hf]; dsimp only; rw [ho]
/-- a call where all arguments are values -/
theorem fn_val {n : Nat} {f : List SV → FR} {fa : EM (List Rd)} {ds : List D} {d : D} {e1 : Cs.Env} (h : fa e = .ok (ds.map Rd.val) e1) (hn : ds.length = n) (hf : f (ds.map SV.val) = .val d []) : eFn n f fa e = .ok d e1 := by
  have hs : ∀ ds : List D, slotsOf (ds.map Rd.val) = [] := fun ds => by induction ds with | nil => rfl | cons a r ih => exact ih
  have ha : ∀ (ds : List D) (e : Cs.Env), argsOf e (ds.map Rd.val) = some (ds.map SV.val) := fun ds e => by
    induction ds with
    | nil => rfl
    | cons a r ih => show (argsOf e (r.map Rd.val)).map _ = _; rw [ih]; rfl
  rw [ap_eFn, h]
  exact callK_val ⟨by simpa using hn, by rw [hs]; exact List.nodup_nil⟩ (ha _ _) hf (by rw [hs]; rfl)
end
section
variable {α β : Type} (e : Cs.Env)
theorem ap_e2 (f : D → D → Option D) (fa fb : EM D) : e2 f fa fb e = (fa e).bind fun a => bnd fb fun b => ofO (f a b) := rfl
theorem ap_e1 (f : D → Option D) (fa : EM D) : e1 f fa e = (fa e).bind fun a => ofO (f a) := rfl
theorem ap_tv (f : EM D) : tv f e = (f e).bind fun d => ofO d.asBl := rfl
theorem ap_tt (f : EM D) : tt f e = (f e).bind fun d => ofO d.tru := rfl
theorem ap_tAnd (f g : EM Bool) : tAndF f g e = (f e).bind fun b => if b = true then g else Cs.ret false := rfl
theorem ap_tOr (f g : EM Bool) : tOrF f g e = (f e).bind fun b => if b = true then Cs.ret true else g := rfl
theorem ap_tNot (f : EM Bool) : tNotF f e = (f e).bind fun b => Cs.ret (!b) := rfl
theorem ap_eNot (f : EM D) : eNot f e = (f e).bind fun d => match d with | .bl b => Cs.ret (.bl (!b)) | _ => fail := rfl
theorem ap_eAnd (f g : EM D) : eAnd f g e = (f e).bind fun d => match d with | .bl true => g | .bl false => Cs.ret (.bl false) | _ => fail := rfl
theorem ap_eOr (f g : EM D) : eOr f g e = (f e).bind fun d => match d with | .bl true => Cs.ret (.bl true) | .bl false => g | _ => fail := rfl
theorem ap_eIf (c : EM Bool) (f g : EM D) : eIf c f g e = (c e).bind fun b => if b = true then f else g := rfl
theorem ap_eChain (f g : D → D → Option D) (fa fb fc : EM D) : eChain f g fa fb fc e = (fa e).bind fun a => bnd fb fun b => bnd (ofO (f a b)) fun z => match z with | .bl true => bnd fc fun c => ofO (g b c) | .bl false => Cs.ret (.bl false) | _ => fail := rfl
theorem ap_aNil : aNil e = .ok [] e := rfl
theorem ap_aCons (f : EM D) (g : EM (List D)) : aCons f g e = (f e).bind fun d => bnd g fun ds => Cs.ret (d :: ds) := rfl
theorem ap_eTup (f : EM (List D)) : eTup f e = (f e).bind fun ds => if ds.length ≤ sz then Cs.ret (.tup ds) else fail := rfl
theorem ap_eLst (f : EM (List D)) : eLst f e = (f e).bind fun ds => if ds.length ≤ sz then Cs.ret (.lst ds) else fail := rfl
theorem ap_oLst (f : EM (List D)) : oLst f e = (f e).bind fun ds => if ds.length ≤ sz then Cs.ret (.lst ds) else fail := rfl
theorem ap_sExpr (f : EM D) : sExpr f e = (f e).s fun _ e => .next e := rfl
theorem ap_sRet (f : EM D) : sRet f e = (f e).s fun d e => .ret d e := rfl
theorem ap_sRetN : sRetN e = .ret .non e := rfl
theorem ap_sRetO (f : EM OO) : sRetO f e = (f e).s fun d e => .retO d e := rfl
theorem ap_sIf (c : EM Bool) (f g : ES) : sIf c f g e = (c e).s fun b e => if b = true then f e else g e := rfl
theorem ap_sAsg (f : EM D) (g : D → EM Unit) : sAsg f g e = (f e).s fun d => sB (g d) fun _ e => .next e := rfl
theorem ap_sFor (f : EM (List D)) (g : D → EM Unit) (b : ES) : sFor f g b e = (f e).s (forL g b) := rfl
theorem ap_iSeq (f : EM D) : iSeq f e = (f e).bind fun d => ofO (itD d) := rfl
theorem ap_iArgs (f : EM (List D)) (r : List D → Option (List D)) : iArgs f r e = (f e).bind fun d => ofO (r d) := rfl
theorem ap_pInt (f : EM D) : pInt f e = (f e).bind fun d => match d with | .int i => Cs.ret (some i) | _ => fail := by unfold pInt; rfl
theorem ap_eIsi (f : EM Rd) (g : D → Option Bool) : eIsi f g e = (f e).bind fun r => rdG r fun d => ofO ((g d).map .bl) := rfl
theorem ap_sRaise0 (x : Str) : sRaise0 x e = .exc ⟨x, []⟩ e := rfl
theorem ap_eDic0 : eDic0 e = .ok (.dic []) e := rfl
theorem ap_gTup (n : Nat) (g : List D → EM Unit) (ds : List D) : gTupF n g (.tup ds) e = if ds.length = n then g ds e else .bad := by
  show (if ds.length = n then g ds else fail) e = _
  split <;> rfl
theorem ap_gCons (f : D → EM Unit) (g : List D → EM Unit) (d : D) (r : List D) : gConsF f g (d :: r) e = (f d e).bind fun _ => g r := rfl
theorem ap_gNil : gNilF [] e = .ok () e := rfl
end
theorem le_sz (n : Nat) (h : n ≤ 1000) : n ≤ sz := Nat.le_trans h (by decide)
theorem getD_cons0 {α : Type} (a : α) (l : List α) (d : α) : (a :: l).getD 0 d = a := rfl
end Cs

set_option maxRecDepth 100000
set_option maxHeartbeats 4000000
/-! evaluation: slices, sums of rows, calls that are refused -/
namespace Cs
open PySem L2
theorem cut_take {xs : List D} {a : Int} (h0 : 0 ≤ a) (h1 : a ≤ xs.length) : cutD xs none (some a) = xs.take a.toNat := by
  unfold cutD sIxD
  have : ¬ a < 0 := by omega
  have h3 : min a.toNat xs.length = a.toNat := by omega
  simp [this, h3]
theorem cut_drop {xs : List D} {a : Int} (h0 : 0 ≤ a) (h1 : a ≤ xs.length) : cutD xs (some a) none = xs.drop a.toNat := by
  unfold cutD sIxD
  have : ¬ a < 0 := by omega
  have h3 : min a.toNat xs.length = a.toNat := by omega
  simp only [this, if_false, h3]
  rw [List.take_of_length_le]
  simp
theorem cut_init {xs : List D} : cutD xs none (some (-1)) = xs.take (xs.length - 1) := by
  unfold cutD sIxD
  have : (-1 : Int) < 0 := by decide
  have h3 : (-1 + (xs.length : Int)).toNat = xs.length - 1 := by omega
  simp only [this, if_true, h3]
  simp
theorem slT {xs : List D} {lo hi : Option Int} : slD (.tup xs) lo hi = some (.tup (cutD xs lo hi)) := rfl
theorem slL {xs : List D} {lo hi : Option Int} : slD (.lst xs) lo hi = some (.lst (cutD xs lo hi)) := rfl
theorem addT {a b : List D} (h : a.length + b.length ≤ 1000) : addD (.tup a) (.tup b) = some (.tup (a ++ b)) := by
  show (if a.length + b.length ≤ sz then some (D.tup (a ++ b)) else none) = _
  rw [if_pos (le_sz _ h)]
theorem addL {a b : List D} (h : a.length + b.length ≤ 1000) : addD (.lst a) (.lst b) = some (.lst (a ++ b)) := by
  show (if a.length + b.length ≤ sz then some (D.lst (a ++ b)) else none) = _
  rw [if_pos (le_sz _ h)]
theorem lenT (xs : List D) : lenD [.tup xs] = some (.int xs.length) := rfl
theorem lenL (xs : List D) : lenD [.lst xs] = some (.int xs.length) := rfl
theorem ixT {xs : List D} {a : Int} {d : D} (h0 : 0 ≤ a) (h : xs[a.toNat]? = some d) : ixD (.tup xs) (.int a) = some d := by
  show atI xs a = _
  unfold atI ixN
  have := lt_of_get h
  rw [if_pos h0, if_pos (by omega)]
  exact h
theorem ixL {xs : List D} {a : Int} {d : D} (h0 : 0 ≤ a) (h : xs[a.toNat]? = some d) : ixD (.lst xs) (.int a) = some d := by
  show atI xs a = _
  unfold atI ixN
  have := lt_of_get h
  rw [if_pos h0, if_pos (by omega)]
  exact h
end Cs

set_option maxRecDepth 100000
set_option maxHeartbeats 4000000
/-! the end: what the head tells -/
namespace Cs
open PySem PySem.Spec L2 PyProof.Rows
section
variable {h : Heap} {K : PySem.W.Frag} {mg : Str → Option Value} (KX : K.In h) (G : h.Ns mainGlobals mg)
include KX G
theorem nm_none {x : Str} (e : PySem.W.nsIn K mainGlobals x = some none) : mg x = none := PySem.W.mg_none_of KX G e
theorem globInt2 {x : Str} {i : Int} {t : Tok} (e : PySem.W.nsIn K mainGlobals x = some (some (.int i t))) : GlobD K mg x (.int i) := globInt ⟨t, PySem.W.mg_of KX G e⟩
theorem globStr2 {x y : Str} {t : Tok} (e : PySem.W.nsIn K mainGlobals x = some (some (.str y t))) : GlobD K mg x (.str y) := globStr ⟨t, PySem.W.mg_of KX G e⟩
theorem DefIs.mk2 {x : Str} {st : Stmt} {ps : List Str} {fa : Addr} {oc : Value} {od an : Option Addr} {osl : Array (Option Value)} {kV doc pm cdv ct : Value} (m : PySem.W.nsIn K mainGlobals x = some (some (.ref fa))) (l : K.lookup fa = some ⟨oc, od, .func (PySem.W.fnOf x x (defArgs st) (defBody st) (defScope st) .none kV doc pm an cdv ct), osl⟩) (c : PySem.W.codeIn K cdv x = true) (k : PySem.W.keepIn K (.ref fa) = true)
    (b : ∀ (kV doc pm : Value) (an : Option Addr) (cdv ct : Value) (us : List Value), us.length = ps.length → bindArgs (PySem.W.fnOf x x (defArgs st) (defBody st) (defScope st) .none kV doc pm an cdv ct) ⟨us, []⟩ = pure (ps.zip us)) : DefIs K mg x st ps := DefIs.mk' (PySem.W.mg_of KX G m) l c k b
/-- one that holds lambdas, its table at Pt -/
theorem DefIsL.mk2 {x : Str} {st : Stmt} {ps : List Str} {fa c Pt : Addr} {oc : Value} {od an : Option Addr} {osl : Array (Option Value)} {kV doc pm ct : Value} (m : PySem.W.nsIn K mainGlobals x = some (some (.ref fa))) (l : K.lookup fa = some ⟨oc, od, .func (PySem.W.fnOf x x (defArgs st) (defBody st) (defScope st) .none kV doc pm an (.ref c) ct), osl⟩) (c1 : PySem.W.codeIn K (.ref c) x = true) (k : PySem.W.keepIn K (.ref fa) = true)
    (b : ∀ (kV doc pm : Value) (an : Option Addr) (cdv ct : Value) (us : List Value), us.length = ps.length → bindArgs (PySem.W.fnOf x x (defArgs st) (defBody st) (defScope st) .none kV doc pm an cdv ct) ⟨us, []⟩ = pure (ps.zip us)) : DefIsL K mg x st ps c :=
  ⟨fa, _, PySem.W.mg_of KX G m, fun_mk l c1 k, (fun_mk l c1 k).binds b, rfl⟩
theorem Exc0.mk2 {x : Str} {st : Stmt} {Cc fI : Addr} {oc : Value} {od an : Option Addr} {osl : Array (Option Value)} {kV doc pm cdv ct : Value} (m : PySem.W.nsIn K mainGlobals x = some (some (.ref Cc))) (o : OexC K Cc) (i : PySem.W.findIn K (.ref Cc) "__init__" = some (some (.ref fI))) (t : PySem.W.typeIn K (.ref fI) = some (.type "function"))
    (l : K.lookup fI = some ⟨oc, od, .func (PySem.W.fnOf "__init__" "CordError.__init__" (defArgs st) (defBody st) (defScope st) .none kV doc pm an cdv ct), osl⟩) (c : PySem.W.codeIn K cdv "CordError.__init__" = true) (k : PySem.W.keepIn K (.ref fI) = true)
    (b : ∀ (kV doc pm : Value) (an : Option Addr) (cdv ct : Value) (us : List Value), us.length = (["self"] : List Str).length → bindArgs (PySem.W.fnOf "__init__" "CordError.__init__" (defArgs st) (defBody st) (defScope st) .none kV doc pm an cdv ct) ⟨us, []⟩ = pure ((["self"] : List Str).zip us)) : Exc0 K mg x st :=
  ⟨Cc, fI, _, o, i, t, fun_mk l c k, (fun_mk l c k).binds b, PySem.W.mg_of KX G m⟩
omit KX G in
theorem isE_nil {cv : Value} : IsEOkK K mg cv [] := fun p m => by cases m
theorem isE_cons {cv : Value} {x : Str} {b : Bool} {Cx : Addr} {tab : List (Str × Bool)} (m : PySem.W.nsIn K mainGlobals x = some (some (.ref Cx))) (e : ExcC K Cx) (k : PySem.W.kitOne K (.ref Cx) cv = some b) (r : IsEOkK K mg cv tab) : IsEOkK K mg cv ((x, b) :: tab) := fun p hp Cy hm => by
  rcases List.mem_cons.mp hp with rfl | hp
  · have := (PySem.W.mg_of KX G m).symm.trans hm
    cases this
    exact ⟨e, k⟩
  · exact r p hp Cy hm
omit KX G in
theorem cat_nil {c : Value} : CatOkK K mg c [] := fun p m => by cases m
theorem cat_cons {c : Value} {x : Str} {b : Bool} {Cx : Addr} {tab : List (Str × Bool)} (m : PySem.W.nsIn K mainGlobals x = some (some (.ref Cx))) (k : PySem.W.exmOne K (.ref Cx) c = some b) (r : CatOkK K mg c tab) : CatOkK K mg c ((x, b) :: tab) := fun p hp Cy hm => by
  rcases List.mem_cons.mp hp with rfl | hp
  · have := (PySem.W.mg_of KX G m).symm.trans hm
    cases this
    exact k
  · exact r p hp Cy hm
omit KX G in
theorem oexC_mk {C N : Addr} {nm q : Str} {bs bm : List Value} {sn : List Str} {sub : List Value} {ab : Bool} {col : Option Bool} {dd : Option Addr} {k0 k1 k2 k3 k5 : Option Value} (a1 : K.lookup C = some (excClassObj nm q C N bs bm true sn sub ab col dd k0 k1 k2 k3 k5 "ValueError.__new__")) (a2 : PySem.HandSPX.refsVE bm = true)
    (a3 : PySem.W.findIn K (.ref C) "__setattr__" = some (some (.builtin "object.__setattr__"))) (a4 : PySem.W.subIn K (.ref C) (.type "BaseException") = some true) (a5 : PySem.W.typeIn K (.ref C) = some (.type "type")) (a6 : PySem.W.keepIn K (.ref C) = true) : OexC K C :=
  ⟨⟨nm, q, N, bs, bm, sn, sub, ab, col, dd, k0, k1, k2, k3, k5, a1, a2⟩, a3, a4, a5, a6⟩
theorem kOwn_mk {x : Str} {Ct : Addr} {tab : List (Str × Bool)} (m : PySem.W.nsIn K mainGlobals x = some (some (.ref Ct))) (r : IsEOkK K mg (.ref Ct) tab) : ∃ cv, OwnCls mg x cv ∧ IsEOkK K mg cv tab := ⟨.ref Ct, ⟨Ct, PySem.W.mg_of KX G m, rfl⟩, r⟩
theorem cat_mk {x : Str} {Ct : Addr} {tab : List (Str × Bool)} (m : PySem.W.nsIn K mainGlobals x = some (some (.ref Ct))) (r : CatOkK K mg (.ref Ct) tab) : ∃ Ct : Addr, mg x = some (.ref Ct) ∧ CatOkK K mg (.ref Ct) tab := ⟨Ct, PySem.W.mg_of KX G m, r⟩
theorem ownCls_mk {x : Str} {Ct : Addr} (m : PySem.W.nsIn K mainGlobals x = some (some (.ref Ct))) : OwnCls mg x (.ref Ct) := ⟨Ct, PySem.W.mg_of KX G m, rfl⟩
end
section
variable {gb : Bool} {P : Program} {w : World} {K : PySem.W.Frag} {mg : Str → Option Value} {base : Heap} {T : List (Addr × Str)}
/-- the law's def, at its place -/
structure LawIs (P : Program) (w : World) (K : PySem.W.Frag) (mg : Str → Option Value) (base : Heap) (T : List (Addr × Str)) (k : Nat) (x : Str) (st : Stmt) (ps : List Str) (n : Nat) (f : List SV → FR) : Prop where
  at_ : ∀ fa fd, mg x = some (.ref fa) → Fun K x x st fa fd → FnOkB true P w K mg base k fa fd ps (spF ⟨K, mg, T⟩ n f)
theorem law_is {x : Str} {st : Stmt} {N ps : List Str} {V : List Nat} {Gs : List Str} {k : Nat} {b : ES} (S : FnScope N ps (defScope st)) (ok : okScope (defScope st) N V Gs = true) (hn : ps.length ≤ N.length)
    (tu : ∀ p ∈ T, ∀ q ∈ T, p.1 = q.1 → p.2 = q.2) (hl : ∀ fa fd, mg x = some (.ref fa) → Fun K x x st fa fd → LamOk base mg T fd x)
    (hbody : ∀ (C : GC N V Gs), C.X.prog = P → C.X.w = w → C.X.K = K → C.X.mg = mg → C.X.base = base → C.X.calm = true → C.X.stack = C.X.env :: C.X.outer → C.X.env.frame = some C.X.env.locals → C.X.ex = [] → C.X.env.qual = x ++ ".<locals>." → C.T = T → C.gb = true → Room k C.X.A → SSs C (defBody st) b) :
    LawIs P w K mg base T (k + 1) x st ps ps.length (runBody N.length b) := ⟨fun fa fd hm Fu => fn_g Fu S ok hn tu (hl fa fd hm Fu) hbody⟩
theorem lamOk_no {x : Str} {st : Stmt} (h : ∀ Pt, (Pt, (x ++ ".<locals>.") ++ "<lambda>") ∉ T) : ∀ fa fd, mg x = some (.ref fa) → Fun K x x st fa fd → LamOk base mg T fd x := fun _ _ _ _ Pt m => (h Pt m).elim
theorem lamOk_of {x : Str} {st : Stmt} {ps : List Str} {c : Addr} (h : DefIsL K mg x st ps c) (ht : ∀ Pt, (Pt, (x ++ ".<locals>.") ++ "<lambda>") ∈ T → LamX.TabB base mg c Pt) : ∀ fa fd, mg x = some (.ref fa) → Fun K x x st fa fd → LamOk base mg T fd x := fun fa fd hm Fu Pt m => by
  obtain ⟨fa', fd', hm', Fu', _, hc⟩ := h.ex
  rw [hm] at hm'; cases hm'
  obtain ⟨oc, od, kV, doc, pm, an, cdv, ct, osl, e, lk, _⟩ := Fu.ex
  obtain ⟨oc', od', kV', doc', pm', an', cdv', ct', osl', e', lk', _⟩ := Fu'.ex
  rw [lk] at lk'
  have : fd = fd' := by
    have := Option.some.inj lk'
    injection this with _ _ h3 _
    injection h3
  subst this
  exact ⟨c, hc, ht Pt m⟩
theorem DefIsL.def_ {x : Str} {st : Stmt} {ps : List Str} {c : Addr} (h : DefIsL K mg x st ps c) : DefIs K mg x st ps := by
  obtain ⟨fa, fd, a, b, c, _⟩ := h.ex
  exact ⟨fa, fd, a, b, c⟩
end
abbrev Kof {h : Heap} {K : PySem.W.Frag} (_ : K.In h) : PySem.W.Frag := K
theorem vv_mk {h : Heap} {K : PySem.W.Frag} (KX : K.In h) (e : PySem.W.findCls K (.type "ValueError") (.type "type") "__init__" = some (.val (.builtin "ValueError.__init__"))) : PySem.W.findCls K (.type "ValueError") (.type "type") "__init__" = some (.val (.builtin "ValueError.__init__")) := e
theorem lawAt_of {l : PySem.W.OpenLaw} {w : World} {K : PySem.W.Frag} {mg : Str → Option Value} {fa : Addr} {h : Heap} {k n : Nat} {st : Stmt} {xs : Str} {f : List SV → FR} (T : List (Addr × Str)) (cs : List (Addr × Addr))
    (hT : ∀ p ∈ cs, h.get? p.2 = some { cls := .none, data := .fields #[] }) (nT : ∀ p ∈ cs, K.lookup p.2 = none) (hC : ∀ p ∈ cs, PySem.W.CodeHd h p.1 p.2) (hTc : ∀ p ∈ T, ∃ q ∈ cs, q.2 = p.1)
    (hd : DefIs K mg "law" st [xs]) (hb : ∀ (kV doc pm : Value) (an : Option Addr) (cdv ct : Value) (us : List Value), us.length = [xs].length → bindArgs (PySem.W.fnOf "law" "law" (defArgs st) (defBody st) (defScope st) .none kV doc pm an cdv ct) ⟨us, []⟩ = pure ([xs].zip us)) (hmg : mg "law" = some (.ref fa))
    (F : ∀ base : Heap, K.In base → base.Ns mainGlobals mg → (∀ p ∈ cs, LamX.TabB base mg p.1 p.2) → LawIs l.prog w K mg base T k "law" st [xs] 1 f)
    (hf : ∀ ns : List Int, ns.length ≤ n → (∀ z ∈ ns, Builtin.Int.intBits z ≤ 1048576) → f [.val (.scr (ns.map D.int))] = .val (.bl true) []) : LawAtB l w K k n xs mg fa h := by
  obtain ⟨fa', fd, hm, Fu, _⟩ := hd.ex
  have : fa' = fa := by rw [hm] at hmg; cases hmg; rfl
  subst this
  refine ⟨fd, cs, spF ⟨K, mg, T⟩ 1 f, hT, nT, hC, fun s u => ?_, fun H a ns hl hbits ht hS => ?_, fun base k1 k2 k3 => (F base k1 k2 k3).at_ fa' fd hm Fu⟩
  · obtain ⟨oc, od, kV, doc, pm, an, cdv, ct, osl, e, lk, hcd⟩ := Fu.ex
    subst e
    exact .of_eq (hb kV doc pm an cdv ct [u] rfl)
  · have hSq : SqL K (nt H) a (ns.map V.int) := by
      rcases hS with hS | hS
      · rcases hS with hS | ⟨o, hS⟩
        · exact .inl (.inl (nt_of hS rfl))
        · exact .inl (.inr ⟨o, nt_of hS rfl⟩)
      · exact .inr hS
    refine ⟨nt H, [.val (.scr (ns.map D.int))], [], rfl, fun a o q => (nt_some q).1, fun a o q => (nt_some q).2, fun p hp => ?_, .val (.scr hSq (Reps.ofInts ns)) .nil, ?_⟩
    · obtain ⟨q, hq, e⟩ := hTc p hp
      refine ⟨#[], by rw [← e]; exact ht q hq, True.intro, fun pos cv hc => by cases hc⟩
    · rw [hf ns hl hbits]
      intro G' v H' _ r
      exact r.blV
end Cs

set_option maxRecDepth 100000
set_option maxHeartbeats 400000
namespace K44
open PySem L2 Cs
def top (i : Nat) : Stmt := PySem.Challenge.pw_cordshall_k44_whole_fractions_of_turns.main.body.getD i (.Pass ⟨0, 0, 0, 0⟩)
abbrev s_law_hand : Stmt := top 15
abbrev s_is_sized : Stmt := top 2
abbrev s_is_integer : Stmt := top 1
abbrev s_check_turns : Stmt := top 9
abbrev s_turned_over : Stmt := top 10
abbrev s_raw_fraction : Stmt := top 11
abbrev s_fraction_of : Stmt := top 12
abbrev s_law_draw : Stmt := top 16
abbrev s_law_fraction : Stmt := top 18
abbrev s_same_tangles : Stmt := top 13
abbrev s_law_any : Stmt := top 17
abbrev s_law_deep : Stmt := top 20
abbrev s_law_is_refused : Stmt := top 19
abbrev s_law_is_right : Stmt := top 21
abbrev s_law : Stmt := top 22
abbrev s_init : Stmt := inClass (top 4) 0
def tab_CordError : List (Str × Bool) := [("NoTurns", true)]
def tab_NoTurns : List (Str × Bool) := [("NoTurns", true)]
def tab_ValueError : List (Str × Bool) := [("NoTurns", true)]
structure Facts (K : PySem.W.Frag) (mg : Str → Option Value) (base : Heap) (T : List (Addr × Str)) : Prop where
  n_ValueError : mg "ValueError" = none
  n_abs : mg "abs" = none
  n_all : mg "all" = none
  n_bool : mg "bool" = none
  n_enumerate : mg "enumerate" = none
  n_int : mg "int" = none
  n_isinstance : mg "isinstance" = none
  n_len : mg "len" = none
  n_list : mg "list" = none
  n_range : mg "range" = none
  n_repr : mg "repr" = none
  n_tuple : mg "tuple" = none
  c_MOST_TURN : GlobD K mg "MOST_TURN" (.int 5)
  c_MOST_TURNS : GlobD K mg "MOST_TURNS" (.int 6)
  d_law_hand : DefIs K mg "_law_hand" s_law_hand ["script"]
  d_is_sized : DefIs K mg "is_sized" s_is_sized ["thing", "least", "most"]
  d_is_integer : DefIs K mg "is_integer" s_is_integer ["thing"]
  d_check_turns : DefIs K mg "check_turns" s_check_turns ["thing"]
  d_turned_over : DefIs K mg "turned_over" s_turned_over ["p", "q"]
  d_raw_fraction : DefIs K mg "raw_fraction" s_raw_fraction ["turns"]
  d_fraction_of : DefIs K mg "fraction_of" s_fraction_of ["turns"]
  d_law_draw : DefIs K mg "_law_draw" s_law_draw ["hand", "below"]
  d_law_fraction : DefIs K mg "_law_fraction" s_law_fraction ["turns"]
  d_same_tangles : DefIs K mg "same_tangles" s_same_tangles ["turns", "other"]
  d_law_any : DefIs K mg "_law_any" s_law_any ["hand", "some"]
  d_law_deep : DefIs K mg "_law_deep" s_law_deep ["hand"]
  d_law_is_refused : DefIs K mg "_law_is_refused" s_law_is_refused ["call"]
  d_law_is_right : ∃ c, DefIsL K mg "_law_is_right" s_law_is_right ["hand"] c ∧ ∀ Pt, (Pt, (("_law_is_right" : Str) ++ ".<locals>.") ++ "<lambda>") ∈ T → LamX.TabB base mg c Pt
  d_law : DefIs K mg "law" s_law ["script"]
  x_NoTurns : Exc0 K mg "NoTurns" s_init
  vV : PySem.W.findCls K (.type "ValueError") (.type "type") "__init__" = some (.val (.builtin "ValueError.__init__"))
  k_NoTurns : ∃ cv, OwnCls mg "NoTurns" cv ∧ IsEOkK K mg cv tab_NoTurns
  k_ValueError : IsEOkK K mg (.type "ValueError") tab_ValueError
  cat_CordError : ∃ Ct : Addr, mg "CordError" = some (.ref Ct) ∧ CatOkK K mg (.ref Ct) tab_CordError
  tu : ∀ p ∈ T, ∀ q ∈ T, p.1 = q.1 → p.2 = q.2
  nl : ∀ Pt x, x ∈ (["_law_hand", "is_sized", "is_integer", "check_turns", "turned_over", "raw_fraction", "fraction_of", "_law_draw", "_law_fraction", "same_tangles", "_law_any", "_law_deep", "_law_is_refused", "law"] : List Str) → (Pt, (x ++ ".<locals>.") ++ "<lambda>") ∉ T
  ht_law_is_right : ∃ Pt, (Pt, (("_law_is_right" : Str) ++ ".<locals>.") ++ "<lambda>") ∈ T
  nll_law_is_right : ∀ Pt, (Pt, (((("_law_is_right" : Str) ++ ".<locals>.") ++ "<lambda>") ++ ".<locals>.") ++ "<lambda>") ∉ T
theorem sc_init : FnScope ["self"] ["self"] (defScope s_init) := ⟨rfl, rfl, rfl, by decide +kernel, rfl, by decide +kernel, by decide +kernel⟩
theorem init0 : Init0 s_init := fun X hN hg hl hm vV => pss_one (ps_expr (pe_veinit hg hm vV (pa_cons (pe_var (i := 0) (by rw [hN]; rfl) (.inl hl) (by decide +kernel) (by decide +kernel)) pa_nil)))
theorem e_NoTurns {N : List Str} {V : List Nat} {Gs : List Str} (C : GC N V Gs) {base : Heap} {T : List (Addr × Str)} (H : Facts C.X.K C.X.mg base T) : E0At C 1 "NoTurns" := e0_mk H.x_NoTurns sc_init init0 (by decide +kernel) (by decide +kernel) H.n_ValueError H.vV
section
variable {gb : Bool} {P : Program} {w : World} {K : PySem.W.Frag} {mg : Str → Option Value} {base : Heap} {T : List (Addr × Str)}
/-! _law_hand: script 0, cells 1, cell 2 -/
theorem sc_law_hand : FnScope ["script", "cells", "cell"] ["script"] (defScope s_law_hand) := ⟨rfl, rfl, rfl, by decide +kernel, rfl, by decide +kernel, by decide +kernel⟩
def b_law_hand : ES := sq (sAsgO (oLc [2] false [2] (iSeq (eSl (rdV (eLoc 0)) (pNone) (pInt (eC (.int 63))))) (ret true) (eCall absD (bCons (rdV (eCall intD (bCons (rdV (eLoc 2)) (bNil)))) (bNil)))) 1) (sRetO (oLst (aCons (eLoc 1) (aCons (eC (.int 0)) (aCons (eC (.int 0)) (aCons (e2 addD (eC (.int 4209)) (e2 mulD (eC (.int 7)) (eCall lenD (bCons (rdV (eLoc 1)) (bNil))))) (aCons (eC (.int 0)) (aNil))))))))
def f_law_hand : List SV → FR := runBody 3 b_law_hand
theorem ok_law_hand (H : Facts K mg base T) : FnIs gb P w K mg base T 1 "_law_hand" 1 f_law_hand := by
  refine fn_is (N := ["script", "cells", "cell"]) (ps := ["script"]) (V := [2, 2, 0]) (Gs := ["len"]) (b := b_law_hand) H.d_law_hand sc_law_hand (by decide +kernel) (by decide) H.tu (fun Pt => H.nl Pt _ (by decide +kernel)) fun C e1 e2 e3 e4 e5 hc hs hf hx hq hT hgb hr => ?_
  subst e1 e2 e3 e4 e5 hT hgb
  unfold b_law_hand
  exact ss_cons (s_setLc 1 [("cell", 2)] [0, 0, 2] ["abs", "int"] hc (by decide +kernel) (it_seq (d_sl (b_val (d_loc 0)) (p_none) (p_int (d_int)))) (fun s H2 Ca cl fp F => ct_name 2) (fun s H2 Ca cl fp F => ts_nil) (fun s H2 Ca cl fp F => d_abs 0 H.n_abs (b_cons (b_val (d_intc 1 H.n_int (b_cons (b_val (d_loc 2)) (b_nil)))) (b_nil)))) (ss_one (s_retO (o_lst (a_cons (d_loc 1) (a_cons (d_int) (a_cons (d_int) (a_cons (d_add (d_int) (d_mul (d_int) (d_len 0 H.n_len (b_cons (b_val (d_loc 1)) (b_nil))))) (a_cons (d_int) (a_nil)))))))))
/-! is_sized: thing 0, least 1, most 2 -/
theorem sc_is_sized : FnScope ["thing", "least", "most"] ["thing", "least", "most"] (defScope s_is_sized) := ⟨rfl, rfl, rfl, by decide +kernel, rfl, by decide +kernel, by decide +kernel⟩
def b_is_sized : ES := sRet (eAnd (eIsi (rdV (eLoc 0)) (isiD (isTy .tuple) [])) (eChain leD leD (eLoc 1) (eCall lenD (bCons (rdV (eLoc 0)) (bNil))) (eLoc 2)))
def f_is_sized : List SV → FR := runBody 3 b_is_sized
theorem ok_is_sized (H : Facts K mg base T) : FnIs gb P w K mg base T 1 "is_sized" 3 f_is_sized := by
  refine fn_is (N := ["thing", "least", "most"]) (ps := ["thing", "least", "most"]) (V := [2, 2, 2]) (Gs := ["isinstance", "tuple", "len"]) (b := b_is_sized) H.d_is_sized sc_is_sized (by decide +kernel) (by decide) H.tu (fun Pt => H.nl Pt _ (by decide +kernel)) fun C e1 e2 e3 e4 e5 hc hs hf hx hq hT hgb hr => ?_
  subst e1 e2 e3 e4 e5 hT hgb
  unfold b_is_sized
  exact ss_one (s_ret (d_and (d_isi 0 H.n_isinstance (isiK_ty .tuple rfl) rfl (b_val (d_loc 0)) (cl_T .tuple _ 1 H.n_tuple)) (d_one (d_chain op_le od_le op_le od_le (d_loc 1) (d_len 2 H.n_len (b_cons (b_val (d_loc 0)) (b_nil))) (d_loc 2)))))
/-! is_integer: thing 0 -/
theorem sc_is_integer : FnScope ["thing"] ["thing"] (defScope s_is_integer) := ⟨rfl, rfl, rfl, by decide +kernel, rfl, by decide +kernel, by decide +kernel⟩
def b_is_integer : ES := sRet (eAnd (eIsi (rdV (eLoc 0)) (isiD (isTy .int) [])) (eNot (eIsi (rdV (eLoc 0)) (isiD (isTy .bool) []))))
def f_is_integer : List SV → FR := runBody 1 b_is_integer
theorem ok_is_integer (H : Facts K mg base T) : FnIs gb P w K mg base T 1 "is_integer" 1 f_is_integer := by
  refine fn_is (N := ["thing"]) (ps := ["thing"]) (V := [2]) (Gs := ["isinstance", "int", "bool"]) (b := b_is_integer) H.d_is_integer sc_is_integer (by decide +kernel) (by decide) H.tu (fun Pt => H.nl Pt _ (by decide +kernel)) fun C e1 e2 e3 e4 e5 hc hs hf hx hq hT hgb hr => ?_
  subst e1 e2 e3 e4 e5 hT hgb
  unfold b_is_integer
  exact ss_one (s_ret (d_and (d_isi 0 H.n_isinstance (isiK_ty .int rfl) rfl (b_val (d_loc 0)) (cl_T .int _ 1 H.n_int)) (d_one (d_not (d_isi 0 H.n_isinstance (isiK_ty .bool rfl) rfl (b_val (d_loc 0)) (cl_T .bool _ 2 H.n_bool))))))
/-! check_turns: thing 0, one 1 -/
theorem sc_check_turns : FnScope ["thing", "one"] ["thing"] (defScope s_check_turns) := ⟨rfl, rfl, rfl, by decide +kernel, rfl, by decide +kernel, by decide +kernel⟩
def b_check_turns : ES := sIf (tOrF (tNotF (tv (eFn 3 f_is_sized (bCons (rdV (eLoc 0)) (bCons (rdV (eC (.int 1))) (bCons (rdV (eC (.int 6))) (bNil))))))) (tNotF (tv (eCall allD (bCons (rdV (eFrz (oLc [1] false [1] (iSeq (eLoc 0)) (ret true) (eAnd (eFn 1 f_is_integer (bCons (rdV (eLoc 1)) (bNil))) (e2 leD (eCall absD (bCons (rdV (eLoc 1)) (bNil))) (eC (.int 5))))))) (bNil)))))) (sRaise0 "NoTurns") (sNil)
def f_check_turns : List SV → FR := runBody 2 b_check_turns
theorem ok_check_turns (H : Facts K mg base T) : FnIs gb P w K mg base T 3 "check_turns" 1 f_check_turns := by
  refine fn_is (N := ["thing", "one"]) (ps := ["thing"]) (V := [2, 0]) (Gs := ["is_sized", "MOST_TURNS", "all", "NoTurns"]) (b := b_check_turns) H.d_check_turns sc_check_turns (by decide +kernel) (by decide) H.tu (fun Pt => H.nl Pt _ (by decide +kernel)) fun C e1 e2 e3 e4 e5 hc hs hf hx hq hT hgb hr => ?_
  subst e1 e2 e3 e4 e5 hT hgb
  have F_is_integer : FnIs C.gb C.X.prog C.X.w C.X.K C.X.mg C.X.base C.T 1 "is_integer" 1 f_is_integer := ok_is_integer H
  have F_is_sized : FnIs C.gb C.X.prog C.X.w C.X.K C.X.mg C.X.base C.T 1 "is_sized" 3 f_is_sized := ok_is_sized H
  have e_NoTurns := e_NoTurns C H
  unfold b_check_turns
  exact ss_one (s_if (SW.pt (w_or (t_not (t_val (d_fn ⟨F_is_sized.ex⟩ (hr.mono (by decide)) 0 (b_cons (b_val (d_loc 0)) (b_cons (b_val (d_int)) (b_cons (b_val (d_glob 1 H.c_MOST_TURNS)) (b_nil))))))) (w_or1 (t_not (t_val (d_all 2 hc H.n_all (b_cons (b_val (d_frz (o_lc [("one", 1)] [0, 2] ["is_integer", "abs", "MOST_TURN"] hc (by decide +kernel) (it_seq (d_loc 0)) (fun s H2 Ca cl fp F => ct_name 1) (fun s H2 Ca cl fp F => ts_nil) (fun s H2 Ca cl fp F => d_and (d_fn ⟨F_is_integer.ex⟩ (hr.mono (by decide)) 0 (b_cons (b_val (d_loc 1)) (b_nil))) (d_one (d_le (d_abs 1 H.n_abs (b_cons (b_val (d_loc 1)) (b_nil))) (d_glob 2 H.c_MOST_TURN))))))) (b_nil)))))))) (ss_one (s_raise0 hc e_NoTurns (hr.mono (by decide)) 3)) (ss_nil))
/-! turned_over: p 0, q 1 -/
theorem sc_turned_over : FnScope ["p", "q"] ["p", "q"] (defScope s_turned_over) := ⟨rfl, rfl, rfl, by decide +kernel, rfl, by decide +kernel, by decide +kernel⟩
def b_turned_over : ES := sq (sIf (tv (e2 eqD (eLoc 0) (eC (.int 0)))) (sRet (eTup (aCons (eC (.int 1)) (aCons (eC (.int 0)) (aNil))))) (sNil)) (sRet (eIf (tv (e2 gtD (eLoc 0) (eC (.int 0)))) (eTup (aCons (eLoc 1) (aCons (eLoc 0) (aNil)))) (eTup (aCons (e1 negD (eLoc 1)) (aCons (e1 negD (eLoc 0)) (aNil))))))
def f_turned_over : List SV → FR := runBody 2 b_turned_over
theorem ok_turned_over (H : Facts K mg base T) : FnIs gb P w K mg base T 1 "turned_over" 2 f_turned_over := by
  refine fn_is (N := ["p", "q"]) (ps := ["p", "q"]) (V := [2, 2]) (Gs := []) (b := b_turned_over) H.d_turned_over sc_turned_over (by decide +kernel) (by decide) H.tu (fun Pt => H.nl Pt _ (by decide +kernel)) fun C e1 e2 e3 e4 e5 hc hs hf hx hq hT hgb hr => ?_
  subst e1 e2 e3 e4 e5 hT hgb
  unfold b_turned_over
  exact ss_cons (s_if (t_eq (d_loc 0) (d_int)) (ss_one (s_ret (d_tup (a_cons (d_int) (a_cons (d_int) (a_nil)))))) (ss_nil)) (ss_one (s_ret (d_if (t_gt (d_loc 0) (d_int)) (d_tup (a_cons (d_loc 1) (a_cons (d_loc 0) (a_nil)))) (d_tup (a_cons (d_neg (d_loc 1)) (a_cons (d_neg (d_loc 0)) (a_nil)))))))
/-! raw_fraction: turns 0, p 1, q 2, at 3, number 4 -/
theorem sc_raw_fraction : FnScope ["turns", "p", "q", "at", "number"] ["turns"] (defScope s_raw_fraction) := ⟨rfl, rfl, rfl, by decide +kernel, rfl, by decide +kernel, by decide +kernel⟩
def b_raw_fraction : ES := sq (sAsg (eTup (aCons (eC (.int 0)) (aCons (eC (.int 1)) (aNil)))) (gTupF 2 (gConsF (putV 1) (gConsF (putV 2) (gNilF))))) (sq (sFor (iArgs (aCons (eLoc 0) (aNil)) enumD) (gTupF 2 (gConsF (putV 3) (gConsF (putV 4) (gNilF)))) (sq (sIf (tv (e2 gtD (eLoc 3) (eC (.int 0)))) (sAsg (eFn 2 f_turned_over (bCons (rdV (eLoc 1)) (bCons (rdV (eLoc 2)) (bNil)))) (gTupF 2 (gConsF (putV 1) (gConsF (putV 2) (gNilF))))) (sNil)) (sAsg (e2 addD (eLoc 1) (e2 mulD (eLoc 4) (eLoc 2))) (putV 1)))) (sRet (eIf (tv (e2 eqD (eLoc 2) (eC (.int 0)))) (eTup (aCons (eC (.int 1)) (aCons (eC (.int 0)) (aNil)))) (eTup (aCons (eLoc 1) (aCons (eLoc 2) (aNil)))))))
def f_raw_fraction : List SV → FR := runBody 5 b_raw_fraction
theorem ok_raw_fraction (H : Facts K mg base T) : FnIs gb P w K mg base T 2 "raw_fraction" 1 f_raw_fraction := by
  refine fn_is (N := ["turns", "p", "q", "at", "number"]) (ps := ["turns"]) (V := [2, 2, 2, 2, 2]) (Gs := ["enumerate", "turned_over"]) (b := b_raw_fraction) H.d_raw_fraction sc_raw_fraction (by decide +kernel) (by decide) H.tu (fun Pt => H.nl Pt _ (by decide +kernel)) fun C e1 e2 e3 e4 e5 hc hs hf hx hq hT hgb hr => ?_
  subst e1 e2 e3 e4 e5 hT hgb
  have F_turned_over : FnIs C.gb C.X.prog C.X.w C.X.K C.X.mg C.X.base C.T 1 "turned_over" 2 f_turned_over := ok_turned_over H
  unfold b_raw_fraction
  exact ss_cons (s_asg (d_tup (a_cons (d_int) (a_cons (d_int) (a_nil)))) (g_tup hc (gs_cons (g_name 1) (gs_cons (g_name 2) (gs_nil)))) rfl (par_consts (C.loc 1 _ rfl rfl) (C.loc 2 _ rfl rfl) rfl (by decide +kernel) rfl rfl rfl)) (ss_cons (s_for hc (it_enum 0 rfl H.n_enumerate (a_cons (d_loc 0) (a_nil))) (g_tup hc (gs_cons (g_name 3) (gs_cons (g_name 4) (gs_nil)))) (ss_cons (s_if (t_gt (d_loc 3) (d_int)) (ss_one (s_asg (d_fn ⟨F_turned_over.ex⟩ (hr.mono (by decide)) 1 (b_cons (b_val (d_loc 1)) (b_cons (b_val (d_loc 2)) (b_nil)))) (g_tup hc (gs_cons (g_name 1) (gs_cons (g_name 2) (gs_nil)))))) (ss_nil)) (ss_one (s_set 1 (d_add (d_loc 1) (d_mul (d_loc 4) (d_loc 2))))))) (ss_one (s_ret (d_if (t_eq (d_loc 2) (d_int)) (d_tup (a_cons (d_int) (a_cons (d_int) (a_nil)))) (d_tup (a_cons (d_loc 1) (a_cons (d_loc 2) (a_nil))))))))
/-! fraction_of: turns 0 -/
theorem sc_fraction_of : FnScope ["turns"] ["turns"] (defScope s_fraction_of) := ⟨rfl, rfl, rfl, by decide +kernel, rfl, by decide +kernel, by decide +kernel⟩
def b_fraction_of : ES := sq (sExpr (eFn 1 f_check_turns (bCons (rdV (eLoc 0)) (bNil)))) (sRet (eFn 1 f_raw_fraction (bCons (rdV (eLoc 0)) (bNil))))
def f_fraction_of : List SV → FR := runBody 1 b_fraction_of
theorem ok_fraction_of (H : Facts K mg base T) : FnIs gb P w K mg base T 4 "fraction_of" 1 f_fraction_of := by
  refine fn_is (N := ["turns"]) (ps := ["turns"]) (V := [2]) (Gs := ["check_turns", "raw_fraction"]) (b := b_fraction_of) H.d_fraction_of sc_fraction_of (by decide +kernel) (by decide) H.tu (fun Pt => H.nl Pt _ (by decide +kernel)) fun C e1 e2 e3 e4 e5 hc hs hf hx hq hT hgb hr => ?_
  subst e1 e2 e3 e4 e5 hT hgb
  have F_check_turns : FnIs C.gb C.X.prog C.X.w C.X.K C.X.mg C.X.base C.T 3 "check_turns" 1 f_check_turns := ok_check_turns H
  have F_raw_fraction : FnIs C.gb C.X.prog C.X.w C.X.K C.X.mg C.X.base C.T 2 "raw_fraction" 1 f_raw_fraction := ok_raw_fraction H
  unfold b_fraction_of
  exact ss_cons (s_expr (d_fn ⟨F_check_turns.ex⟩ (hr.mono (by decide)) 0 (b_cons (b_val (d_loc 0)) (b_nil)))) (ss_one (s_ret (d_fn ⟨F_raw_fraction.ex⟩ (hr.mono (by decide)) 1 (b_cons (b_val (d_loc 0)) (b_nil)))))
/-! _law_draw: hand 0, below 1, cell 2, digit 3, number 4 -/
theorem sc_law_draw : FnScope ["hand", "below", "cell", "digit", "number"] ["hand", "below"] (defScope s_law_draw) := ⟨rfl, rfl, rfl, by decide +kernel, rfl, by decide +kernel, by decide +kernel⟩
def b_law_draw : ES := sq (sIf (tAndF (tv (e2 eqD (e2B ixD (rdG (.slot 0) fun _ => rdS 0) (rdV (eC (.int 2)))) (eC (.int 0)))) (tv (e2 ltD (e2B ixD (rdG (.slot 0) fun _ => rdS 0) (rdV (eC (.int 1)))) (eCall lenD (bCons (rdV (e2B ixD (rdG (.slot 0) fun _ => rdS 0) (rdV (eC (.int 0))))) (bNil)))))) (sq (sAsg (e2 ixD (e2B ixD (rdG (.slot 0) fun _ => rdS 0) (rdV (eC (.int 0)))) (e2B ixD (rdG (.slot 0) fun _ => rdS 0) (rdV (eC (.int 1))))) (putV 2)) (sq (sAsg (e2 addD (e2B ixD (rdG (.slot 0) fun _ => rdS 0) (rdV (eC (.int 1)))) (eC (.int 1))) (gSetL 0 (eC (.int 1)))) (sq (sAsg (e2 modD (eCall intD (bCons (rdV (e2 addD (e2 addD (e2 mulD (e2B ixD (rdG (.slot 0) fun _ => rdS 0) (rdV (eC (.int 3)))) (eC (.int 69621))) (e2 mulD (eLoc 2) (eC (.int 40692)))) (eC (.int 31)))) (bNil))) (eC (.int 2147483629))) (gSetL 0 (eC (.int 3)))) (sIf (tv (e2 geD (eLoc 2) (e2 powD (eC (.int 10)) (eC (.int 18))))) (sAsg (eLoc 2) (gSetL 0 (eC (.int 2)))) (sNil))))) (sNil)) (sq (sIf (tv (e2 gtD (e2B ixD (rdG (.slot 0) fun _ => rdS 0) (rdV (eC (.int 2)))) (eC (.int 0)))) (sq (sAsg (e2 modD (eCall intD (bCons (rdV (e2B ixD (rdG (.slot 0) fun _ => rdS 0) (rdV (eC (.int 2))))) (bNil))) (eLoc 1)) (putV 3)) (sq (sAsg (e2 fdivD (e2B ixD (rdG (.slot 0) fun _ => rdS 0) (rdV (eC (.int 2)))) (eLoc 1)) (gSetL 0 (eC (.int 2)))) (sRet (eLoc 3)))) (sNil)) (sq (sAsg (e2 addD (e2B ixD (rdG (.slot 0) fun _ => rdS 0) (rdV (eC (.int 4)))) (eC (.int 1))) (gSetL 0 (eC (.int 4)))) (sq (sAsg (e2 modD (eCall intD (bCons (rdV (e2 mulD (eCall intD (bCons (rdV (e2 addD (e2B ixD (rdG (.slot 0) fun _ => rdS 0) (rdV (eC (.int 3)))) (e2 mulD (eC (.int 7919)) (e2B ixD (rdG (.slot 0) fun _ => rdS 0) (rdV (eC (.int 4))))))) (bNil))) (eC (.int 48271)))) (bNil))) (eC (.int 2147483647))) (putV 4)) (sq (sAsg (e2 modD (eCall intD (bCons (rdV (e2 mulD (eLoc 4) (e2 addD (e2 fdivD (eLoc 4) (eC (.int 1009))) (eC (.int 69621))))) (bNil))) (eC (.int 2147483647))) (putV 4)) (sq (sAsg (e2 modD (eCall intD (bCons (rdV (e2 mulD (eLoc 4) (e2 addD (e2 fdivD (eLoc 4) (eC (.int 2003))) (eC (.int 40014))))) (bNil))) (eC (.int 2147483563))) (putV 4)) (sRet (e2 modD (eCall intD (bCons (rdV (e2 fdivD (eLoc 4) (eC (.int 16)))) (bNil))) (eLoc 1))))))))
def f_law_draw : List SV → FR := runBody 5 b_law_draw
theorem ok_law_draw (H : Facts K mg base T) : FnIs gb P w K mg base T 1 "_law_draw" 2 f_law_draw := by
  refine fn_is (N := ["hand", "below", "cell", "digit", "number"]) (ps := ["hand", "below"]) (V := [2, 2, 2, 2, 2]) (Gs := ["len", "int"]) (b := b_law_draw) H.d_law_draw sc_law_draw (by decide +kernel) (by decide) H.tu (fun Pt => H.nl Pt _ (by decide +kernel)) fun C e1 e2 e3 e4 e5 hc hs hf hx hq hT hgb hr => ?_
  subst e1 e2 e3 e4 e5 hT hgb
  unfold b_law_draw
  exact ss_cons (s_if (SW.pt (w_and (t_eq (d_ixB (b_slot 0) (b_val (d_int))) (d_int)) (w_and1 (t_lt (d_ixB (b_slot 0) (b_val (d_int))) (d_len 0 H.n_len (b_cons (b_val (d_ixB (b_slot 0) (b_val (d_int)))) (b_nil))))))) (ss_cons (s_set 2 (d_ix (d_ixB (b_slot 0) (b_val (d_int))) (d_ixB (b_slot 0) (b_val (d_int))))) (ss_cons (s_asg (d_add (d_ixB (b_slot 0) (b_val (d_int))) (d_int)) (g_setL 0 (d_int))) (ss_cons (s_asg (d_mod (d_intc 1 H.n_int (b_cons (b_val (d_add (d_add (d_mul (d_ixB (b_slot 0) (b_val (d_int))) (d_int)) (d_mul (d_loc 2) (d_int))) (d_int))) (b_nil))) (d_int)) (g_setL 0 (d_int))) (ss_one (s_if (t_ge (d_loc 2) (d_pow (d_int) (d_int))) (ss_one (s_asg (d_loc 2) (g_setL 0 (d_int)))) (ss_nil)))))) (ss_nil)) (ss_cons (s_if (t_gt (d_ixB (b_slot 0) (b_val (d_int))) (d_int)) (ss_cons (s_set 3 (d_mod (d_intc 1 H.n_int (b_cons (b_val (d_ixB (b_slot 0) (b_val (d_int)))) (b_nil))) (d_loc 1))) (ss_cons (s_asg (d_fdiv (d_ixB (b_slot 0) (b_val (d_int))) (d_loc 1)) (g_setL 0 (d_int))) (ss_one (s_ret (d_loc 3))))) (ss_nil)) (ss_cons (s_asg (d_add (d_ixB (b_slot 0) (b_val (d_int))) (d_int)) (g_setL 0 (d_int))) (ss_cons (s_set 4 (d_mod (d_intc 1 H.n_int (b_cons (b_val (d_mul (d_intc 1 H.n_int (b_cons (b_val (d_add (d_ixB (b_slot 0) (b_val (d_int))) (d_mul (d_int) (d_ixB (b_slot 0) (b_val (d_int)))))) (b_nil))) (d_int))) (b_nil))) (d_int))) (ss_cons (s_set 4 (d_mod (d_intc 1 H.n_int (b_cons (b_val (d_mul (d_loc 4) (d_add (d_fdiv (d_loc 4) (d_int)) (d_int)))) (b_nil))) (d_int))) (ss_cons (s_set 4 (d_mod (d_intc 1 H.n_int (b_cons (b_val (d_mul (d_loc 4) (d_add (d_fdiv (d_loc 4) (d_int)) (d_int)))) (b_nil))) (d_int))) (ss_one (s_ret (d_mod (d_intc 1 H.n_int (b_cons (b_val (d_fdiv (d_loc 4) (d_int))) (b_nil))) (d_loc 1)))))))))
/-! _law_fraction: turns 0, top 1, bottom 2, at 3, number 4 -/
theorem sc_law_fraction : FnScope ["turns", "top", "bottom", "at", "number"] ["turns"] (defScope s_law_fraction) := ⟨rfl, rfl, rfl, by decide +kernel, rfl, by decide +kernel, by decide +kernel⟩
def b_law_fraction : ES := sq (sAsg (eTup (aCons (eC (.int 0)) (aCons (eC (.int 1)) (aNil)))) (gTupF 2 (gConsF (putV 1) (gConsF (putV 2) (gNilF))))) (sq (sFor (iArgs (aCons (eLoc 0) (aNil)) enumD) (gTupF 2 (gConsF (putV 3) (gConsF (putV 4) (gNilF)))) (sq (sAsg (e2 addD (eLoc 1) (e2 mulD (eLoc 4) (eLoc 2))) (putV 1)) (sIf (tv (e2 ltD (eLoc 3) (e2 subD (eCall lenD (bCons (rdV (eLoc 0)) (bNil))) (eC (.int 1))))) (sq (sAsg (eIf (tv (e2 gtD (eLoc 1) (eC (.int 0)))) (eTup (aCons (eLoc 2) (aCons (eLoc 1) (aNil)))) (eTup (aCons (e2 subD (eC (.int 0)) (eLoc 2)) (aCons (e2 subD (eC (.int 0)) (eLoc 1)) (aNil))))) (gTupF 2 (gConsF (putV 1) (gConsF (putV 2) (gNilF))))) (sAsg (eIf (tv (e2 eqD (eLoc 2) (eC (.int 0)))) (eC (.int 1)) (eLoc 1)) (putV 1))) (sNil)))) (sRet (eTup (aCons (eLoc 1) (aCons (eLoc 2) (aNil))))))
def f_law_fraction : List SV → FR := runBody 5 b_law_fraction
theorem ok_law_fraction (H : Facts K mg base T) : FnIs gb P w K mg base T 1 "_law_fraction" 1 f_law_fraction := by
  refine fn_is (N := ["turns", "top", "bottom", "at", "number"]) (ps := ["turns"]) (V := [2, 2, 2, 2, 2]) (Gs := ["enumerate", "len"]) (b := b_law_fraction) H.d_law_fraction sc_law_fraction (by decide +kernel) (by decide) H.tu (fun Pt => H.nl Pt _ (by decide +kernel)) fun C e1 e2 e3 e4 e5 hc hs hf hx hq hT hgb hr => ?_
  subst e1 e2 e3 e4 e5 hT hgb
  unfold b_law_fraction
  exact ss_cons (s_asg (d_tup (a_cons (d_int) (a_cons (d_int) (a_nil)))) (g_tup hc (gs_cons (g_name 1) (gs_cons (g_name 2) (gs_nil)))) rfl (par_consts (C.loc 1 _ rfl rfl) (C.loc 2 _ rfl rfl) rfl (by decide +kernel) rfl rfl rfl)) (ss_cons (s_for hc (it_enum 0 rfl H.n_enumerate (a_cons (d_loc 0) (a_nil))) (g_tup hc (gs_cons (g_name 3) (gs_cons (g_name 4) (gs_nil)))) (ss_cons (s_set 1 (d_add (d_loc 1) (d_mul (d_loc 4) (d_loc 2)))) (ss_one (s_if (t_lt (d_loc 3) (d_sub (d_len 1 H.n_len (b_cons (b_val (d_loc 0)) (b_nil))) (d_int))) (ss_cons (s_asg (d_if (t_gt (d_loc 1) (d_int)) (d_tup (a_cons (d_loc 2) (a_cons (d_loc 1) (a_nil)))) (d_tup (a_cons (d_sub (d_int) (d_loc 2)) (a_cons (d_sub (d_int) (d_loc 1)) (a_nil))))) (g_tup hc (gs_cons (g_name 1) (gs_cons (g_name 2) (gs_nil))))) (ss_one (s_set 1 (d_if (t_eq (d_loc 2) (d_int)) (d_int) (d_loc 1))))) (ss_nil))))) (ss_one (s_ret (d_tup (a_cons (d_loc 1) (a_cons (d_loc 2) (a_nil)))))))
/-! same_tangles: turns 0, other 1 -/
theorem sc_same_tangles : FnScope ["turns", "other"] ["turns", "other"] (defScope s_same_tangles) := ⟨rfl, rfl, rfl, by decide +kernel, rfl, by decide +kernel, by decide +kernel⟩
def b_same_tangles : ES := sq (sExpr (eFn 1 f_check_turns (bCons (rdV (eLoc 0)) (bNil)))) (sq (sExpr (eFn 1 f_check_turns (bCons (rdV (eLoc 1)) (bNil)))) (sRet (e2 eqD (eFn 1 f_raw_fraction (bCons (rdV (eLoc 0)) (bNil))) (eFn 1 f_raw_fraction (bCons (rdV (eLoc 1)) (bNil))))))
def f_same_tangles : List SV → FR := runBody 2 b_same_tangles
theorem ok_same_tangles (H : Facts K mg base T) : FnIs gb P w K mg base T 4 "same_tangles" 2 f_same_tangles := by
  refine fn_is (N := ["turns", "other"]) (ps := ["turns", "other"]) (V := [2, 2]) (Gs := ["check_turns", "raw_fraction"]) (b := b_same_tangles) H.d_same_tangles sc_same_tangles (by decide +kernel) (by decide) H.tu (fun Pt => H.nl Pt _ (by decide +kernel)) fun C e1 e2 e3 e4 e5 hc hs hf hx hq hT hgb hr => ?_
  subst e1 e2 e3 e4 e5 hT hgb
  have F_check_turns : FnIs C.gb C.X.prog C.X.w C.X.K C.X.mg C.X.base C.T 3 "check_turns" 1 f_check_turns := ok_check_turns H
  have F_raw_fraction : FnIs C.gb C.X.prog C.X.w C.X.K C.X.mg C.X.base C.T 2 "raw_fraction" 1 f_raw_fraction := ok_raw_fraction H
  unfold b_same_tangles
  exact ss_cons (s_expr (d_fn ⟨F_check_turns.ex⟩ (hr.mono (by decide)) 0 (b_cons (b_val (d_loc 0)) (b_nil)))) (ss_cons (s_expr (d_fn ⟨F_check_turns.ex⟩ (hr.mono (by decide)) 0 (b_cons (b_val (d_loc 1)) (b_nil)))) (ss_one (s_ret (d_eq (d_fn ⟨F_raw_fraction.ex⟩ (hr.mono (by decide)) 1 (b_cons (b_val (d_loc 0)) (b_nil))) (d_fn ⟨F_raw_fraction.ex⟩ (hr.mono (by decide)) 1 (b_cons (b_val (d_loc 1)) (b_nil)))))))
/-! _law_any: hand 0, some 1 -/
theorem sc_law_any : FnScope ["hand", "some"] ["hand", "some"] (defScope s_law_any) := ⟨rfl, rfl, rfl, by decide +kernel, rfl, by decide +kernel, by decide +kernel⟩
def b_law_any : ES := sRet (e2 ixD (eLoc 1) (eFn 2 f_law_draw (bCons (rdG (.slot 0) fun _ => rdS 0) (bCons (rdV (eCall lenD (bCons (rdV (eLoc 1)) (bNil)))) (bNil)))))
def f_law_any : List SV → FR := runBody 2 b_law_any
theorem ok_law_any (H : Facts K mg base T) : FnIs gb P w K mg base T 2 "_law_any" 2 f_law_any := by
  refine fn_is (N := ["hand", "some"]) (ps := ["hand", "some"]) (V := [2, 2]) (Gs := ["_law_draw", "len"]) (b := b_law_any) H.d_law_any sc_law_any (by decide +kernel) (by decide) H.tu (fun Pt => H.nl Pt _ (by decide +kernel)) fun C e1 e2 e3 e4 e5 hc hs hf hx hq hT hgb hr => ?_
  subst e1 e2 e3 e4 e5 hT hgb
  have F_law_draw : FnIs C.gb C.X.prog C.X.w C.X.K C.X.mg C.X.base C.T 1 "_law_draw" 2 f_law_draw := ok_law_draw H
  unfold b_law_any
  exact ss_one (s_ret (d_ix (d_loc 1) (d_fn ⟨F_law_draw.ex⟩ (hr.mono (by decide)) 0 (b_cons (b_slot 0) (b_cons (b_val (d_len 1 H.n_len (b_cons (b_val (d_loc 1)) (b_nil)))) (b_nil))))))
/-! _law_deep: hand 0, thing 1, lap 2 -/
theorem sc_law_deep : FnScope ["hand", "thing", "lap"] ["hand"] (defScope s_law_deep) := ⟨rfl, rfl, rfl, by decide +kernel, rfl, by decide +kernel, by decide +kernel⟩
def b_law_deep : ES := sq (sAsg (eC .non) (putV 1)) (sq (sFor (iArgs (aCons (e2 addD (eC (.int 1)) (eFn 2 f_law_draw (bCons (rdG (.slot 0) fun _ => rdS 0) (bCons (rdV (eC (.int 36))) (bNil))))) (aNil)) rng1) (putV 2) (sAsg (eIf (tv (e2 eqD (eFn 2 f_law_draw (bCons (rdG (.slot 0) fun _ => rdS 0) (bCons (rdV (eC (.int 2))) (bNil)))) (eC (.int 0)))) (eTup (aCons (eLoc 1) (aNil))) (eLst (aCons (eLoc 1) (aNil)))) (putV 1))) (sRet (eLoc 1)))
def f_law_deep : List SV → FR := runBody 3 b_law_deep
theorem ok_law_deep (H : Facts K mg base T) : FnIs gb P w K mg base T 2 "_law_deep" 1 f_law_deep := by
  refine fn_is (N := ["hand", "thing", "lap"]) (ps := ["hand"]) (V := [2, 2, 2]) (Gs := ["range", "_law_draw"]) (b := b_law_deep) H.d_law_deep sc_law_deep (by decide +kernel) (by decide) H.tu (fun Pt => H.nl Pt _ (by decide +kernel)) fun C e1 e2 e3 e4 e5 hc hs hf hx hq hT hgb hr => ?_
  subst e1 e2 e3 e4 e5 hT hgb
  have F_law_draw : FnIs C.gb C.X.prog C.X.w C.X.K C.X.mg C.X.base C.T 1 "_law_draw" 2 f_law_draw := ok_law_draw H
  unfold b_law_deep
  exact ss_cons (s_set 1 (d_non)) (ss_cons (s_for hc (it_range1 0 rfl H.n_range (a_cons (d_add (d_int) (d_fn ⟨F_law_draw.ex⟩ (hr.mono (by decide)) 1 (b_cons (b_slot 0) (b_cons (b_val (d_int)) (b_nil))))) (a_nil))) (g_name 2) (ss_one (s_set 1 (d_if (t_eq (d_fn ⟨F_law_draw.ex⟩ (hr.mono (by decide)) 1 (b_cons (b_slot 0) (b_cons (b_val (d_int)) (b_nil)))) (d_int)) (d_tup (a_cons (d_loc 1) (a_nil))) (d_lst (a_cons (d_loc 1) (a_nil))))))) (ss_one (s_ret (d_loc 1))))
/-! _law_is_refused: call 0, error 1 -/
theorem sc_law_is_refused : FnScope ["call", "error"] ["call"] (defScope s_law_is_refused) := ⟨rfl, rfl, rfl, by decide +kernel, rfl, by decide +kernel, by decide +kernel⟩
def b_law_is_refused (r : R D) : ES := sq (sTry tab_CordError 1 (sExpr (eAct r)) (fun y => sRet (eAnd (eIsE tab_NoTurns y) (eIsE tab_ValueError y)))) (sRet (eC (.bl false)))
def g_law_is_refused (r : R D) : R D := runAct 2 (b_law_is_refused r)
theorem L_law_is_refused {N : List Str} {V : List Nat} {Gs : List Str} (C : GC N V Gs) (H : Facts C.X.K C.X.mg C.X.base C.T) : LamDef C "_law_is_refused" g_law_is_refused := by
  refine lamDef_mk (Ng := ["call", "error"]) (Vg := [2, 2]) (Gg := ["CordError", "isinstance", "NoTurns", "ValueError"]) (b := b_law_is_refused) H.d_law_is_refused sc_law_is_refused (by decide +kernel) (fun Pt => H.nl Pt _ (by decide +kernel)) fun C' r e1 e2 e3 e4 e5 hc hs hf act => ?_
  rw [← e3, ← e4, ← e5] at H
  have TT := C.T
  obtain ⟨cv_NoTurns, m_NoTurns, k_NoTurns⟩ := H.k_NoTurns
  have k_ValueError := H.k_ValueError
  obtain ⟨ct_CordError, cm_CordError, cat_CordError⟩ := H.cat_CordError
  unfold b_law_is_refused
  exact ss_cons (s_try 1 hs hf ⟨C'.gl 0 _ rfl, by decide +kernel, .inl cm_CordError⟩ (CatOkK.at cat_CordError) (fun W pn xe tk po => ss_one (s_expr (act W pn xe tk po _ _))) (fun a oe pn d y vs so => ss_one (s_ret (d_and (d_isE 1 so (IsEOkK.at k_NoTurns) H.n_isinstance (clx_own 2 m_NoTurns)) (d_one (d_isE 1 so (IsEOkK.at k_ValueError) H.n_isinstance (clx_blt 3 H.n_ValueError (by decide +kernel)))))))) (ss_one (s_ret (d_bl)))
/-! _law_is_right: hand 0, at 1, other 2, due 3, last 4, back 5, left 6, right 7, part 8, bad 9, turns 10, one 11 -/
theorem sc_law_is_right : FnScope ["hand", "at", "other", "due", "last", "back", "left", "right", "part", "bad", "turns", "one"] ["hand"] (defScope s_law_is_right) := ⟨rfl, rfl, rfl, by decide +kernel, rfl, by decide +kernel, by decide +kernel⟩
def b_law_is_right : ES := sq (sAsg (eCall tupleD (bCons (rdV (eFrz (oLc [1] false [1] (iArgs (aCons (e2 addD (eC (.int 1)) (eFn 2 f_law_draw (bCons (rdG (.slot 0) fun _ => rdS 0) (bCons (rdV (eC (.int 6))) (bNil))))) (aNil)) rng1) (ret true) (e2 subD (eFn 2 f_law_draw (bCons (rdG (.slot 0) fun _ => rdS 0) (bCons (rdV (eC (.int 11))) (bNil)))) (eC (.int 5)))))) (bNil))) (putV 10)) (sq (sAsg (eCall tupleD (bCons (rdV (eFrz (oLc [1] false [1] (iArgs (aCons (e2 addD (eC (.int 1)) (eFn 2 f_law_draw (bCons (rdG (.slot 0) fun _ => rdS 0) (bCons (rdV (eC (.int 3))) (bNil))))) (aNil)) rng1) (ret true) (e2 subD (eFn 2 f_law_draw (bCons (rdG (.slot 0) fun _ => rdS 0) (bCons (rdV (eC (.int 7))) (bNil)))) (eC (.int 3)))))) (bNil))) (putV 2)) (sq (sPar 3 4 (aCons (eFn 1 f_law_fraction (bCons (rdV (eLoc 10)) (bNil))) (aCons (eFn 1 f_law_fraction (bCons (rdV (eLoc 2)) (bNil))) (aNil)))) (sq (sIf (tOrF (tv (e2 neD (eCall reprD (bCons (rdV (eFn 1 f_fraction_of (bCons (rdV (eLoc 10)) (bNil)))) bNil)) (eCall reprD (bCons (rdV (eLoc 3)) bNil)))) (tv (e2 neD (eCall reprD (bCons (rdV (eFn 2 f_same_tangles (bCons (rdV (eLoc 10)) (bCons (rdV (eLoc 2)) (bNil))))) bNil)) (eCall reprD (bCons (rdV (e2 eqD (eLoc 3) (eLoc 4))) bNil))))) (sRet (eC (.bl false))) (sNil)) (sq (sAsg (eCall tupleD (bCons (rdV (eFrz (oLc [11] false [11] (iSeq (eLoc 10)) (ret true) (e2 subD (eC (.int 0)) (eLoc 11))))) (bNil))) (putV 5)) (sq (sIf (tAndF (tv (e2 neD (eLoc 3) (eTup (aCons (eC (.int 1)) (aCons (eC (.int 0)) (aNil)))))) (tv (e2 neD (eFn 1 f_fraction_of (bCons (rdV (eLoc 5)) (bNil))) (eTup (aCons (e2 subD (eC (.int 0)) (e2 ixD (eLoc 3) (eC (.int 0)))) (aCons (e2 ixD (eLoc 3) (eC (.int 1))) (aNil))))))) (sRet (eC (.bl false))) (sNil)) (sq (sAsg (eFn 2 f_law_draw (bCons (rdG (.slot 0) fun _ => rdS 0) (bCons (rdV (eCall lenD (bCons (rdV (eLoc 10)) (bNil)))) (bNil)))) (putV 1)) (sq (sPar 6 7 (aCons (eSl (rdV (eLoc 10)) (pNone) (pInt (eLoc 1))) (aCons (eSl (rdV (eLoc 10)) (pInt (e2 addD (eLoc 1) (eC (.int 1)))) (pNone)) (aNil)))) (sq (sAsg (e2 subD (eFn 2 f_law_draw (bCons (rdG (.slot 0) fun _ => rdS 0) (bCons (rdV (eC (.int 11))) (bNil)))) (eC (.int 5))) (putV 8)) (sq (sIf (tAndF (tv (e2 ltD (eCall lenD (bCons (rdV (eLoc 10)) (bNil))) (eC (.int 5)))) (tv (eChain leD leD (e1 negD (eC (.int 5))) (e2 subD (e2 ixD (eLoc 10) (eLoc 1)) (eLoc 8)) (eC (.int 5))))) (sIf (tv (e2 isnotD (eFn 2 f_same_tangles (bCons (rdV (e2 addD (e2 addD (eLoc 6) (eTup (aCons (e2 subD (e2 ixD (eLoc 10) (eLoc 1)) (eLoc 8)) (aCons (eC (.int 0)) (aCons (eLoc 8) (aNil)))))) (eLoc 7))) (bCons (rdV (eLoc 10)) (bNil)))) (eC (.bl true)))) (sRet (eC (.bl false))) (sNil)) (sNil)) (sq (sAsg (eLst (aCons (eC .non) (aCons (eTup (aNil)) (aCons (eFrz (oCall listO (bCons (rdV (eLoc 10)) (bNil)))) (aCons (e2 addD (eLoc 10) (eTup (aCons (eC (.int 6)) (aNil)))) (aCons (e2 addD (eSl (rdV (eLoc 10)) (pNone) (pInt (e1 negD (eC (.int 1))))) (eTup (aCons (e1 negD (eC (.int 6))) (aNil)))) (aCons (e2 addD (eSl (rdV (eLoc 10)) (pNone) (pInt (e1 negD (eC (.int 1))))) (eTup (aCons (eC .non) (aNil)))) (aCons (e2 addD (eSl (rdV (eLoc 10)) (pNone) (pInt (e1 negD (eC (.int 1))))) (eTup (aCons (eC (.bl true)) (aNil)))) (aNil))))))))) (putV 9)) (sq (sAsg (eFn 2 f_law_any (bCons (rdG (.slot 0) fun _ => rdS 0) (bCons (rdV (e2 addD (eLoc 9) (eLst (aCons (e2 mulD (eTup (aCons (eC (.int 1)) (aNil))) (eC (.int 7))) (aCons (eC (.int 0)) (aCons (eC (.str "12")) (aCons (eDic0) (aCons (eTup (aCons (eC (.str "1")) (aNil))) (aCons (eFn 1 f_law_deep (bCons (rdG (.slot 0) fun _ => rdS 0) (bNil))) (aNil)))))))))) (bNil)))) (putV 9)) (sq (sIf (tNotF (tv (eLam [0, 0, 0, 0, 0, 0, 0, 0, 0, 1, 0, 0] (eFn 1 f_fraction_of (bCons (rdV (eLoc 9)) (bNil))) g_law_is_refused))) (sRet (eC (.bl false))) (sNil)) (sq (sIf (tNotF (tv (eLam [0, 0, 0, 0, 0, 0, 0, 0, 0, 1, 1, 0] (eFn 2 f_same_tangles (bCons (rdV (eLoc 10)) (bCons (rdV (eLoc 9)) (bNil)))) g_law_is_refused))) (sRet (eC (.bl false))) (sNil)) (sRet (eLam [0, 0, 0, 0, 0, 0, 0, 0, 0, 1, 1, 0] (eFn 2 f_same_tangles (bCons (rdV (eLoc 9)) (bCons (rdV (eLoc 10)) (bNil)))) g_law_is_refused)))))))))))))))
def f_law_is_right : List SV → FR := runBody 12 b_law_is_right
theorem ok_law_is_right (H : Facts K mg base T) : FnIs true P w K mg base T 7 "_law_is_right" 1 f_law_is_right := by
  obtain ⟨c, hd, htb⟩ := H.d_law_is_right
  refine fn_isL (N := ["hand", "at", "other", "due", "last", "back", "left", "right", "part", "bad", "turns", "one"]) (ps := ["hand"]) (V := [3, 2, 2, 2, 2, 2, 2, 2, 2, 3, 3, 0]) (Gs := ["tuple", "range", "_law_draw", "_law_fraction", "repr", "fraction_of", "same_tangles", "len", "list", "_law_any", "_law_deep", "_law_is_refused"]) (b := b_law_is_right) hd sc_law_is_right (by decide +kernel) (by decide) H.tu htb fun C e1 e2 e3 e4 e5 hc hs hf hx hq hT hgb hr => ?_
  subst e1 e2 e3 e4 e5 hT
  have F_law_any : FnIs C.gb C.X.prog C.X.w C.X.K C.X.mg C.X.base C.T 2 "_law_any" 2 f_law_any := ok_law_any H
  have F_law_deep : FnIs C.gb C.X.prog C.X.w C.X.K C.X.mg C.X.base C.T 2 "_law_deep" 1 f_law_deep := ok_law_deep H
  have F_law_draw : FnIs C.gb C.X.prog C.X.w C.X.K C.X.mg C.X.base C.T 1 "_law_draw" 2 f_law_draw := ok_law_draw H
  have F_law_fraction : FnIs C.gb C.X.prog C.X.w C.X.K C.X.mg C.X.base C.T 1 "_law_fraction" 1 f_law_fraction := ok_law_fraction H
  have F_fraction_of : FnIs C.gb C.X.prog C.X.w C.X.K C.X.mg C.X.base C.T 4 "fraction_of" 1 f_fraction_of := ok_fraction_of H
  have F_same_tangles : FnIs C.gb C.X.prog C.X.w C.X.K C.X.mg C.X.base C.T 4 "same_tangles" 2 f_same_tangles := ok_same_tangles H
  have hlam : ∃ P, (P, C.X.env.qual ++ "<lambda>") ∈ C.T := by rw [hq]; exact H.ht_law_is_right
  have hnll : ∀ P, (P, ((C.X.env.qual ++ "<lambda>") ++ ".<locals>.") ++ "<lambda>") ∉ C.T := by rw [hq]; exact H.nll_law_is_right
  unfold b_law_is_right
  exact ss_cons (s_set 10 (d_tuple 0 H.n_tuple (b_cons (b_val (d_frz (o_lc [("at", 1)] [1, 2, 0, 0, 0, 0, 0, 0, 0, 0, 0, 0] ["_law_draw"] hc (by decide +kernel) (it_range1 1 rfl H.n_range (a_cons (d_add (d_int) (d_fn ⟨F_law_draw.ex⟩ (hr.mono (by decide)) 2 (b_cons (b_slot 0) (b_cons (b_val (d_int)) (b_nil))))) (a_nil))) (fun s H2 Ca cl fp F => ct_name 1) (fun s H2 Ca cl fp F => ts_nil) (fun s H2 Ca cl fp F => d_sub (d_fn ⟨F_law_draw.ex⟩ (hr.mono (by decide)) 0 (b_cons (b_slot 0) (b_cons (b_val (d_int)) (b_nil)))) (d_int))))) (b_nil)))) (ss_cons (s_set 2 (d_tuple 0 H.n_tuple (b_cons (b_val (d_frz (o_lc [("at", 1)] [1, 2, 0, 0, 0, 0, 0, 0, 0, 0, 0, 0] ["_law_draw"] hc (by decide +kernel) (it_range1 1 rfl H.n_range (a_cons (d_add (d_int) (d_fn ⟨F_law_draw.ex⟩ (hr.mono (by decide)) 2 (b_cons (b_slot 0) (b_cons (b_val (d_int)) (b_nil))))) (a_nil))) (fun s H2 Ca cl fp F => ct_name 1) (fun s H2 Ca cl fp F => ts_nil) (fun s H2 Ca cl fp F => d_sub (d_fn ⟨F_law_draw.ex⟩ (hr.mono (by decide)) 0 (b_cons (b_slot 0) (b_cons (b_val (d_int)) (b_nil)))) (d_int))))) (b_nil)))) (ss_cons (s_par 3 4 hc (a_cons (d_fn ⟨F_law_fraction.ex⟩ (hr.mono (by decide)) 3 (b_cons (b_val (d_loc 10)) (b_nil))) (a_cons (d_fn ⟨F_law_fraction.ex⟩ (hr.mono (by decide)) 3 (b_cons (b_val (d_loc 2)) (b_nil))) (a_nil)))) (ss_cons (s_if (SW.pt (w_or (t_ne (d_repr 4 hgb H.n_repr (b_val (d_fn ⟨F_fraction_of.ex⟩ (hr.mono (by decide)) 5 (b_cons (b_val (d_loc 10)) (b_nil))))) (d_repr 4 hgb H.n_repr (b_val (d_loc 3)))) (w_or1 (t_ne (d_repr 4 hgb H.n_repr (b_val (d_fn ⟨F_same_tangles.ex⟩ (hr.mono (by decide)) 6 (b_cons (b_val (d_loc 10)) (b_cons (b_val (d_loc 2)) (b_nil)))))) (d_repr 4 hgb H.n_repr (b_val (d_eq (d_loc 3) (d_loc 4)))))))) (ss_one (s_ret (d_bl))) (ss_nil)) (ss_cons (s_set 5 (d_tuple 0 H.n_tuple (b_cons (b_val (d_frz (o_lc [("one", 11)] [0, 0, 0, 0, 0, 0, 0, 0, 0, 0, 0, 2] [] hc (by decide +kernel) (it_seq (d_loc 10)) (fun s H2 Ca cl fp F => ct_name 11) (fun s H2 Ca cl fp F => ts_nil) (fun s H2 Ca cl fp F => d_sub (d_int) (d_loc 11))))) (b_nil)))) (ss_cons (s_if (SW.pt (w_and (t_ne (d_loc 3) (d_tup (a_cons (d_int) (a_cons (d_int) (a_nil))))) (w_and1 (t_ne (d_fn ⟨F_fraction_of.ex⟩ (hr.mono (by decide)) 5 (b_cons (b_val (d_loc 5)) (b_nil))) (d_tup (a_cons (d_sub (d_int) (d_ix (d_loc 3) (d_int))) (a_cons (d_ix (d_loc 3) (d_int)) (a_nil)))))))) (ss_one (s_ret (d_bl))) (ss_nil)) (ss_cons (s_set 1 (d_fn ⟨F_law_draw.ex⟩ (hr.mono (by decide)) 2 (b_cons (b_slot 0) (b_cons (b_val (d_len 7 H.n_len (b_cons (b_val (d_loc 10)) (b_nil)))) (b_nil))))) (ss_cons (s_par 6 7 hc (a_cons (d_sl (b_val (d_loc 10)) (p_none) (p_int (d_loc 1))) (a_cons (d_sl (b_val (d_loc 10)) (p_int (d_add (d_loc 1) (d_int))) (p_none)) (a_nil)))) (ss_cons (s_set 8 (d_sub (d_fn ⟨F_law_draw.ex⟩ (hr.mono (by decide)) 2 (b_cons (b_slot 0) (b_cons (b_val (d_int)) (b_nil)))) (d_int))) (ss_cons (s_if (SW.pt (w_and (t_lt (d_len 7 H.n_len (b_cons (b_val (d_loc 10)) (b_nil))) (d_int)) (w_and1 (t_chain op_le od_le op_le od_le (d_neg (d_int)) (d_sub (d_ix (d_loc 10) (d_loc 1)) (d_loc 8)) (d_int))))) (ss_one (s_if (t_isnot (d_fn ⟨F_same_tangles.ex⟩ (hr.mono (by decide)) 6 (b_cons (b_val (d_add (d_add (d_loc 6) (d_tup (a_cons (d_sub (d_ix (d_loc 10) (d_loc 1)) (d_loc 8)) (a_cons (d_int) (a_cons (d_loc 8) (a_nil)))))) (d_loc 7))) (b_cons (b_val (d_loc 10)) (b_nil)))) (d_bl)) (ss_one (s_ret (d_bl))) (ss_nil))) (ss_nil)) (ss_cons (s_set 9 (d_lst (a_cons (d_non) (a_cons (d_tup (a_nil)) (a_cons (d_frz (o_list 8 H.n_list (b_cons (b_val (d_loc 10)) (b_nil)))) (a_cons (d_add (d_loc 10) (d_tup (a_cons (d_int) (a_nil)))) (a_cons (d_add (d_sl (b_val (d_loc 10)) (p_none) (p_int (d_neg (d_int)))) (d_tup (a_cons (d_neg (d_int)) (a_nil)))) (a_cons (d_add (d_sl (b_val (d_loc 10)) (p_none) (p_int (d_neg (d_int)))) (d_tup (a_cons (d_non) (a_nil)))) (a_cons (d_add (d_sl (b_val (d_loc 10)) (p_none) (p_int (d_neg (d_int)))) (d_tup (a_cons (d_bl) (a_nil)))) (a_nil)))))))))) (ss_cons (s_set 9 (d_fn ⟨F_law_any.ex⟩ (hr.mono (by decide)) 9 (b_cons (b_slot 0) (b_cons (b_val (d_add (d_loc 9) (d_lst (a_cons (d_mul (d_tup (a_cons (d_int) (a_nil))) (d_int)) (a_cons (d_int) (a_cons (d_str) (a_cons (d_dic0) (a_cons (d_tup (a_cons (d_str) (a_nil))) (a_cons (d_fn ⟨F_law_deep.ex⟩ (hr.mono (by decide)) 10 (b_cons (b_slot 0) (b_nil))) (a_nil)))))))))) (b_nil))))) (ss_cons (s_if (t_not (t_val (d_lam [0, 0, 0, 0, 0, 0, 0, 0, 0, 1, 0, 0] ["fraction_of"] (L_law_is_refused C H) 11 (by decide +kernel) (k := 4) (hr.mono (by decide)) hlam hnll (fun A outer s H2 E f c F hu gA hr => d_fn ⟨F_fraction_of.ex⟩ (hr.mono (by decide)) 0 (b_cons (b_val (d_loc 9)) (b_nil)))))) (ss_one (s_ret (d_bl))) (ss_nil)) (ss_cons (s_if (t_not (t_val (d_lam [0, 0, 0, 0, 0, 0, 0, 0, 0, 1, 1, 0] ["same_tangles"] (L_law_is_refused C H) 11 (by decide +kernel) (k := 4) (hr.mono (by decide)) hlam hnll (fun A outer s H2 E f c F hu gA hr => d_fn ⟨F_same_tangles.ex⟩ (hr.mono (by decide)) 0 (b_cons (b_val (d_loc 10)) (b_cons (b_val (d_loc 9)) (b_nil))))))) (ss_one (s_ret (d_bl))) (ss_nil)) (ss_one (s_ret (d_lam [0, 0, 0, 0, 0, 0, 0, 0, 0, 1, 1, 0] ["same_tangles"] (L_law_is_refused C H) 11 (by decide +kernel) (k := 4) (hr.mono (by decide)) hlam hnll (fun A outer s H2 E f c F hu gA hr => d_fn ⟨F_same_tangles.ex⟩ (hr.mono (by decide)) 0 (b_cons (b_val (d_loc 9)) (b_cons (b_val (d_loc 10)) (b_nil))))))))))))))))))))
/-! law: script 0, hand 1, turns 2, lap 3 -/
theorem sc_law : FnScope ["script", "hand", "turns", "lap"] ["script"] (defScope s_law) := ⟨rfl, rfl, rfl, by decide +kernel, rfl, by decide +kernel, by decide +kernel⟩
def b_law : ES := sq (sAsgO (oFn 1 f_law_hand (bCons (rdV (eLoc 0)) (bNil))) 1) (sq (sIf (tv (e2 neD (eFrz (oLc [2] false [2] (iSeq (eTup (aCons (eTup (aCons (eC (.int 2)) (aCons (eC (.int 1)) (aCons (eC (.int 2)) (aNil))))) (aCons (eTup (aCons (eC (.int 0)) (aNil))) (aCons (eTup (aCons (eC (.int 0)) (aCons (eC (.int 3)) (aNil)))) (aCons (eTup (aCons (e1 negD (eC (.int 2))) (aCons (eC (.int 0)) (aNil)))) (aNil))))))) (ret true) (eFn 1 f_fraction_of (bCons (rdV (eLoc 2)) (bNil))))) (eLst (aCons (eTup (aCons (eC (.int 8)) (aCons (eC (.int 3)) (aNil)))) (aCons (eTup (aCons (eC (.int 0)) (aCons (eC (.int 1)) (aNil)))) (aCons (eTup (aCons (eC (.int 1)) (aCons (eC (.int 0)) (aNil)))) (aCons (eTup (aCons (e1 negD (eC (.int 1))) (aCons (eC (.int 2)) (aNil)))) (aNil)))))))) (sRet (eC (.bl false))) (sNil)) (sRet (eCall allD (bCons (rdV (eFrz (oLc [3] false [3] (iArgs (aCons (eC (.int 8)) (aNil)) rng1) (ret true) (eFn 1 f_law_is_right (bCons (rdG (.slot 1) fun _ => rdS 1) (bNil)))))) (bNil)))))
def f_law : List SV → FR := runBody 4 b_law
theorem ok_law (H : Facts K mg base T) : FnIs true P w K mg base T 8 "law" 1 f_law := by
  refine fn_is (N := ["script", "hand", "turns", "lap"]) (ps := ["script"]) (V := [2, 3, 0, 0]) (Gs := ["_law_hand", "all", "range"]) (b := b_law) H.d_law sc_law (by decide +kernel) (by decide) H.tu (fun Pt => H.nl Pt _ (by decide +kernel)) fun C e1 e2 e3 e4 e5 hc hs hf hx hq hT hgb hr => ?_
  subst e1 e2 e3 e4 e5 hT
  have F_law_hand : FnIs C.gb C.X.prog C.X.w C.X.K C.X.mg C.X.base C.T 1 "_law_hand" 1 f_law_hand := ok_law_hand H
  have F_law_is_right : FnIs C.gb C.X.prog C.X.w C.X.K C.X.mg C.X.base C.T 7 "_law_is_right" 1 f_law_is_right := by rw [hgb]; exact ok_law_is_right H
  have F_fraction_of : FnIs C.gb C.X.prog C.X.w C.X.K C.X.mg C.X.base C.T 4 "fraction_of" 1 f_fraction_of := ok_fraction_of H
  unfold b_law
  exact ss_cons (s_setO 1 (o_fn ⟨F_law_hand.ex⟩ (hr.mono (by decide)) 0 (b_cons (b_val (d_loc 0)) (b_nil)))) (ss_cons (s_if (t_ne (d_frz (o_lc [("turns", 2)] [0, 0, 2, 0] ["fraction_of"] hc (by decide +kernel) (it_seq (d_tup (a_cons (d_tup (a_cons (d_int) (a_cons (d_int) (a_cons (d_int) (a_nil))))) (a_cons (d_tup (a_cons (d_int) (a_nil))) (a_cons (d_tup (a_cons (d_int) (a_cons (d_int) (a_nil)))) (a_cons (d_tup (a_cons (d_neg (d_int)) (a_cons (d_int) (a_nil)))) (a_nil))))))) (fun s H2 Ca cl fp F => ct_name 2) (fun s H2 Ca cl fp F => ts_nil) (fun s H2 Ca cl fp F => d_fn ⟨F_fraction_of.ex⟩ (hr.mono (by decide)) 0 (b_cons (b_val (d_loc 2)) (b_nil))))) (d_lst (a_cons (d_tup (a_cons (d_int) (a_cons (d_int) (a_nil)))) (a_cons (d_tup (a_cons (d_int) (a_cons (d_int) (a_nil)))) (a_cons (d_tup (a_cons (d_int) (a_cons (d_int) (a_nil)))) (a_cons (d_tup (a_cons (d_neg (d_int)) (a_cons (d_int) (a_nil)))) (a_nil))))))) (ss_one (s_ret (d_bl))) (ss_nil)) (ss_one (s_ret (d_all 1 hc H.n_all (b_cons (b_val (d_frz (o_lc [("lap", 3)] [0, 1, 0, 2] ["_law_is_right"] hc (by decide +kernel) (it_range1 2 rfl H.n_range (a_cons (d_int) (a_nil))) (fun s H2 Ca cl fp F => ct_name 3) (fun s H2 Ca cl fp F => ts_nil) (fun s H2 Ca cl fp F => d_fn ⟨F_law_is_right.ex⟩ (hr.mono (by decide)) 0 (b_cons (b_slot 1) (b_nil)))))) (b_nil))))))
end
end K44

set_option maxRecDepth 100000
namespace K44
open PySem L2 Cs
theorem sz_big (n : Nat) (h : n ≤ 1000) : n ≤ sz := Nat.le_trans h (by decide)
theorem v_turned (p q : Int) : f_turned_over [.val (.int p), .val (.int q)] = .val (if p = 0 then .tup [.int 1, .int 0] else if p > 0 then .tup [.int q, .int p] else .tup [.int (-q), .int (-p)]) [] := by
  by_cases h : p = 0
  · subst h; rfl
  · by_cases h2 : p > 0
    · simp [ap_bnd, ap_bind, ap_bindX, ap_bindB, ap_ret, ap_fail, ap_ofO, ap_ofON, ap_eC, ap_sq, ap_then, ap_thenR, ap_thenO, ap_thenX, ap_sB, ap_s, ap_sX, ap_sNil, ap_if, ap_ifS, ap_asBl, ap_tru, ap_add, ap_sub, ap_neg, ap_lt, ap_le, ap_gt, ap_ge, ap_eqI, ap_neI, runBody, env0, ioOs, bors, sIf, tv, tt, e2, e1, eIf, eTup, eLst, aCons, aNil, sRet, sRetN, sAsg, putV, sPar, tAndF, tOrF, tNotF, eLoc, sExpr, gTupF, gConsF, gNilF, f_turned_over, b_turned_over, h, h2, sz_big]
    · simp [ap_bnd, ap_bind, ap_bindX, ap_bindB, ap_ret, ap_fail, ap_ofO, ap_ofON, ap_eC, ap_sq, ap_then, ap_thenR, ap_thenO, ap_thenX, ap_sB, ap_s, ap_sX, ap_sNil, ap_if, ap_ifS, ap_asBl, ap_tru, ap_add, ap_sub, ap_neg, ap_lt, ap_le, ap_gt, ap_ge, ap_eqI, ap_neI, runBody, env0, ioOs, bors, sIf, tv, tt, e2, e1, eIf, eTup, eLst, aCons, aNil, sRet, sRetN, sAsg, putV, sPar, tAndF, tOrF, tNotF, eLoc, sExpr, gTupF, gConsF, gNilF, f_turned_over, b_turned_over, h, h2, sz_big]

/-- a call by values -/
theorem eFn1 (f : List SV → FR) (fa : EM D) (e e1 : Cs.Env) (d r : D) (h : fa e = .ok d e1) (hf : f [.val d] = .val r []) : eFn 1 f (bCons (rdV fa) bNil) e = .ok r e1 := by
  simp [eFn, callK, bCons, bNil, rdV, ap_bnd, ap_bind, ap_ret, h, argsOf, slotsOf, osets, hf]
theorem eFn2 (f : List SV → FR) (fa fb : EM D) (e e1 e2 : Cs.Env) (d d' r : D) (h : fa e = .ok d e1) (h' : fb e1 = .ok d' e2) (hf : f [.val d, .val d'] = .val r []) : eFn 2 f (bCons (rdV fa) (bCons (rdV fb) bNil)) e = .ok r e2 := by
  simp [eFn, callK, bCons, bNil, rdV, ap_bnd, ap_bind, ap_ret, h, h', argsOf, slotsOf, osets, hf]
def turn1 (p q : Int) : Int × Int := if p = 0 then (1, 0) else if p > 0 then (q, p) else (-q, -p)
theorem v_turned' (p q : Int) : f_turned_over [.val (.int p), .val (.int q)] = .val (.tup [.int (turn1 p q).1, .int (turn1 p q).2]) [] := by
  rw [v_turned]; unfold turn1
  by_cases h : p = 0
  · simp [h]
  · by_cases h2 : p > 0 <;> simp [h, h2]
def raw : Nat → List Int → Int → Int → Int × Int
  | _, [], p, q => (p, q)
  | k, n :: r, p, q => let z := if k > 0 then turn1 p q else (p, q); raw (k + 1) r (z.1 + n * z.2) z.2
theorem mul_small (a b : Int) (h : a.natAbs < 2 ^ 64) : mulD (.int a) (.int b) = some (.int (a * b)) := by
  show (if a.natAbs < 2 ^ 64 ∨ b.natAbs < 2 ^ 64 ∨ a.natAbs.log2 + b.natAbs.log2 < 1000000 then some (D.int (a * b)) else none) = _
  rw [if_pos (.inl h)]
abbrev tgEnum := gTupF 2 (gConsF (putV 3) (gConsF (putV 4) (gNilF)))
def bodyRaw : ES := (sq (sIf (tv (e2 gtD (eLoc 3) (eC (.int 0)))) (sAsg (eFn 2 f_turned_over (bCons (rdV (eLoc 1)) (bCons (rdV (eLoc 2)) (bNil)))) (gTupF 2 (gConsF (putV 1) (gConsF (putV 2) (gNilF))))) (sNil)) (sAsg (e2 addD (eLoc 1) (e2 mulD (eLoc 4) (eLoc 2))) (putV 1)))
theorem bodyRaw_ok (T : D) (p q n : Int) (k : Nat) (hn : n.natAbs < 2 ^ 64) : bodyRaw [some (.val T), some (.val (.int p)), some (.val (.int q)), some (.val (.int k)), some (.val (.int n))] =
    .next [some (.val T), some (.val (.int ((if k > 0 then turn1 p q else (p, q)).1 + n * (if k > 0 then turn1 p q else (p, q)).2))), some (.val (.int (if k > 0 then turn1 p q else (p, q)).2)), some (.val (.int k)), some (.val (.int n))] := by
  unfold bodyRaw
  by_cases hk : k > 0
  · have hk' : (0 : Int) < (k : Int) := by omega
    have hc := eFn2 f_turned_over (eLoc 1) (eLoc 2) ([some (.val T), some (.val (.int p)), some (.val (.int q)), some (.val (.int k)), some (.val (.int n))] : Cs.Env) _ _ _ _ _ rfl rfl (v_turned' p q)
    simp [ap_bnd, ap_bind, ap_bindX, ap_bindB, ap_ret, ap_fail, ap_ofO, ap_ofON, ap_eC, ap_sq, ap_then, ap_thenR, ap_thenO, ap_thenX, ap_sB, ap_s, ap_sX, ap_sNil, ap_if, ap_ifS, ap_asBl, ap_tru, ap_add, ap_sub, ap_neg, ap_lt, ap_le, ap_gt, ap_ge, ap_eqI, ap_neI, runBody, env0, ioOs, bors, sIf, tv, tt, e2, e1, eIf, eTup, eLst, aCons, aNil, sRet, sRetN, sAsg, putV, sPar, tAndF, tOrF, tNotF, eLoc, sExpr, gTupF, gConsF, gNilF, hk, hk', hc, mul_small n _ hn]
  · have hk' : ¬ (0 : Int) < (k : Int) := by omega
    simp [ap_bnd, ap_bind, ap_bindX, ap_bindB, ap_ret, ap_fail, ap_ofO, ap_ofON, ap_eC, ap_sq, ap_then, ap_thenR, ap_thenO, ap_thenX, ap_sB, ap_s, ap_sX, ap_sNil, ap_if, ap_ifS, ap_asBl, ap_tru, ap_add, ap_sub, ap_neg, ap_lt, ap_le, ap_gt, ap_ge, ap_eqI, ap_neI, runBody, env0, ioOs, bors, sIf, tv, tt, e2, e1, eIf, eTup, eLst, aCons, aNil, sRet, sRetN, sAsg, putV, sPar, tAndF, tOrF, tNotF, eLoc, sExpr, gTupF, gConsF, gNilF, hk, hk', mul_small n _ hn]

def enF (k : Nat) (ns : List Int) : List D := ((ns.map D.int).zipIdx k).map fun p => .tup [.int (p.2 : Nat), p.1]
theorem enF_cons (k : Nat) (n : Int) (ns : List Int) : enF k (n :: ns) = .tup [.int k, .int n] :: enF (k + 1) ns := rfl
theorem forL_cons (g : D → EM Unit) (b : ES) (d : D) (ds : List D) (e : Cs.Env) : forL g b (d :: ds) e = ((g d e).s fun _ => b).then (forL g b ds) := rfl
/-- what a slot holds: nothing yet, or a value -/
abbrev vs (x : Option D) : Option SV := x.map SV.val
theorem put2 (x1 x2 x3 : Option SV) (a n : Option D) (k : Nat) (m : Int) : tgEnum (.tup [.int k, .int m]) [x1, x2, x3, vs a, vs n] = .ok () [x1, x2, x3, some (.val (.int k)), some (.val (.int m))] := by
  cases a <;> cases n <;> rfl
theorem raw_loop (T : D) : ∀ (ns : List Int) (k : Nat) (p q : Int) (a n : Option D), (∀ x ∈ ns, x.natAbs < 2 ^ 64) →
    ∃ a' n', forL tgEnum bodyRaw (enF k ns) [some (.val T), some (.val (.int p)), some (.val (.int q)), vs a, vs n] = .next [some (.val T), some (.val (.int (raw k ns p q).1)), some (.val (.int (raw k ns p q).2)), vs a', vs n']
  | [], k, p, q, a, n, _ => ⟨a, n, rfl⟩
  | m :: ns, k, p, q, a, n, h => by
    obtain ⟨a', n', ih⟩ := raw_loop T ns (k + 1) _ (if k > 0 then turn1 p q else (p, q)).2 (some (.int k)) (some (.int m)) fun x hx => h x (List.mem_cons_of_mem _ hx)
    refine ⟨a', n', ?_⟩
    rw [enF_cons, forL_cons, put2]
    rw [ap_s, bodyRaw_ok T p q m k (h m (by simp)), ap_then]
    exact ih
/-- the fraction that the program tells -/
def frac (ns : List Int) : Int × Int := let z := raw 0 ns 0 1; if z.2 = 0 then (1, 0) else z
theorem v_raw (ns : List Int) (h : ∀ x ∈ ns, x.natAbs < 2 ^ 64) : f_raw_fraction [.val (.tup (ns.map D.int))] = .val (.tup [.int (frac ns).1, .int (frac ns).2]) [] := by
  obtain ⟨a', n', hl⟩ := raw_loop (.tup (ns.map D.int)) ns 0 0 1 none none h
  have hb : b_raw_fraction = sq (sAsg (eTup (aCons (eC (.int 0)) (aCons (eC (.int 1)) (aNil)))) (gTupF 2 (gConsF (putV 1) (gConsF (putV 2) (gNilF))))) (sq (sFor (iArgs (aCons (eLoc 0) (aNil)) enumD) tgEnum bodyRaw) (sRet (eIf (tv (e2 eqD (eLoc 2) (eC (.int 0)))) (eTup (aCons (eC (.int 1)) (aCons (eC (.int 0)) (aNil)))) (eTup (aCons (eLoc 1) (aCons (eLoc 2) (aNil))))))) := rfl
  have he : enumD [.tup (ns.map D.int)] = some (enF 0 ns) := rfl
  have hl' : forL tgEnum bodyRaw (enF 0 ns) [some (SV.val (D.tup (ns.map D.int))), some (SV.val (D.int 0)), some (SV.val (D.int 1)), none, none] = _ := hl
  unfold f_raw_fraction
  rw [hb]
  unfold frac
  by_cases hq : (raw 0 ns 0 1).2 = 0
  · simp [ap_bnd, ap_bind, ap_bindX, ap_bindB, ap_ret, ap_fail, ap_ofO, ap_ofON, ap_eC, ap_sq, ap_then, ap_thenR, ap_thenO, ap_thenX, ap_sB, ap_s, ap_sX, ap_sNil, ap_if, ap_ifS, ap_asBl, ap_tru, ap_add, ap_sub, ap_neg, ap_lt, ap_le, ap_gt, ap_ge, ap_eqI, ap_neI, runBody, env0, ioOs, bors, sIf, tv, tt, e2, e1, eIf, eTup, eLst, aCons, aNil, sRet, sRetN, sAsg, putV, sPar, tAndF, tOrF, tNotF, eLoc, sExpr, gTupF, gConsF, gNilF, sFor, iArgs, he, hl', hq, sz_big]
  · simp [ap_bnd, ap_bind, ap_bindX, ap_bindB, ap_ret, ap_fail, ap_ofO, ap_ofON, ap_eC, ap_sq, ap_then, ap_thenR, ap_thenO, ap_thenX, ap_sB, ap_s, ap_sX, ap_sNil, ap_if, ap_ifS, ap_asBl, ap_tru, ap_add, ap_sub, ap_neg, ap_lt, ap_le, ap_gt, ap_ge, ap_eqI, ap_neI, runBody, env0, ioOs, bors, sIf, tv, tt, e2, e1, eIf, eTup, eLst, aCons, aNil, sRet, sRetN, sAsg, putV, sPar, tAndF, tOrF, tNotF, eLoc, sExpr, gTupF, gConsF, gNilF, sFor, iArgs, he, hl', hq, sz_big]

/-! ### the law's own -/
def bodyLaw : ES := (sq (sAsg (e2 addD (eLoc 1) (e2 mulD (eLoc 4) (eLoc 2))) (putV 1)) (sIf (tv (e2 ltD (eLoc 3) (e2 subD (eCall lenD (bCons (rdV (eLoc 0)) (bNil))) (eC (.int 1))))) (sq (sAsg (eIf (tv (e2 gtD (eLoc 1) (eC (.int 0)))) (eTup (aCons (eLoc 2) (aCons (eLoc 1) (aNil)))) (eTup (aCons (e2 subD (eC (.int 0)) (eLoc 2)) (aCons (e2 subD (eC (.int 0)) (eLoc 1)) (aNil))))) (gTupF 2 (gConsF (putV 1) (gConsF (putV 2) (gNilF))))) (sAsg (eIf (tv (e2 eqD (eLoc 2) (eC (.int 0)))) (eC (.int 1)) (eLoc 1)) (putV 1))) (sNil)))
theorem len_tup (f : EM D) (e e1 : Cs.Env) (xs : List D) (h : f e = .ok (.tup xs) e1) : eCall lenD (bCons (rdV f) bNil) e = .ok (.int xs.length) e1 := by
  simp [eCall, bCons, bNil, rdV, ap_bnd, ap_bind, ap_ret, h, rdGs, gets, Rd.get, lenD, ap_ofO]
def lawZ (len k : Nat) (n t b : Int) : Int × Int := if (k : Int) < (len : Int) - 1 then turn1 (t + n * b) b else (t + n * b, b)
theorem bodyLaw_ok (xs : List D) (t b n : Int) (k : Nat) (hn : n.natAbs < 2 ^ 64) : bodyLaw [some (.val (.tup xs)), some (.val (.int t)), some (.val (.int b)), some (.val (.int k)), some (.val (.int n))] =
    .next [some (.val (.tup xs)), some (.val (.int (lawZ xs.length k n t b).1)), some (.val (.int (lawZ xs.length k n t b).2)), some (.val (.int k)), some (.val (.int n))] := by
  unfold bodyLaw lawZ
  have hl := len_tup (eLoc 0) ([some (.val (.tup xs)), some (.val (.int (t + n * b))), some (.val (.int b)), some (.val (.int k)), some (.val (.int n))] : Cs.Env) _ _ rfl
  by_cases hk : (k : Int) < (xs.length : Int) - 1
  · unfold turn1
    by_cases h0 : t + n * b = 0
    · rw [h0] at hl
      simp [ap_bnd, ap_bind, ap_bindX, ap_bindB, ap_ret, ap_fail, ap_ofO, ap_ofON, ap_eC, ap_sq, ap_then, ap_thenR, ap_thenO, ap_thenX, ap_sB, ap_s, ap_sX, ap_sNil, ap_if, ap_ifS, ap_asBl, ap_tru, ap_add, ap_sub, ap_neg, ap_lt, ap_le, ap_gt, ap_ge, ap_eqI, ap_neI, runBody, env0, ioOs, bors, sIf, tv, tt, e2, e1, eIf, eTup, eLst, aCons, aNil, sRet, sRetN, sAsg, putV, sPar, tAndF, tOrF, tNotF, eLoc, sExpr, gTupF, gConsF, gNilF, hl, hk, mul_small n _ hn, h0, sz_big]
    · by_cases h1 : 0 < t + n * b
      · simp [ap_bnd, ap_bind, ap_bindX, ap_bindB, ap_ret, ap_fail, ap_ofO, ap_ofON, ap_eC, ap_sq, ap_then, ap_thenR, ap_thenO, ap_thenX, ap_sB, ap_s, ap_sX, ap_sNil, ap_if, ap_ifS, ap_asBl, ap_tru, ap_add, ap_sub, ap_neg, ap_lt, ap_le, ap_gt, ap_ge, ap_eqI, ap_neI, runBody, env0, ioOs, bors, sIf, tv, tt, e2, e1, eIf, eTup, eLst, aCons, aNil, sRet, sRetN, sAsg, putV, sPar, tAndF, tOrF, tNotF, eLoc, sExpr, gTupF, gConsF, gNilF, hl, hk, mul_small n _ hn, h0, h1, sz_big]
      · simp [ap_bnd, ap_bind, ap_bindX, ap_bindB, ap_ret, ap_fail, ap_ofO, ap_ofON, ap_eC, ap_sq, ap_then, ap_thenR, ap_thenO, ap_thenX, ap_sB, ap_s, ap_sX, ap_sNil, ap_if, ap_ifS, ap_asBl, ap_tru, ap_add, ap_sub, ap_neg, ap_lt, ap_le, ap_gt, ap_ge, ap_eqI, ap_neI, runBody, env0, ioOs, bors, sIf, tv, tt, e2, e1, eIf, eTup, eLst, aCons, aNil, sRet, sRetN, sAsg, putV, sPar, tAndF, tOrF, tNotF, eLoc, sExpr, gTupF, gConsF, gNilF, hl, hk, mul_small n _ hn, h0, h1, sz_big]
  · simp [ap_bnd, ap_bind, ap_bindX, ap_bindB, ap_ret, ap_fail, ap_ofO, ap_ofON, ap_eC, ap_sq, ap_then, ap_thenR, ap_thenO, ap_thenX, ap_sB, ap_s, ap_sX, ap_sNil, ap_if, ap_ifS, ap_asBl, ap_tru, ap_add, ap_sub, ap_neg, ap_lt, ap_le, ap_gt, ap_ge, ap_eqI, ap_neI, runBody, env0, ioOs, bors, sIf, tv, tt, e2, e1, eIf, eTup, eLst, aCons, aNil, sRet, sRetN, sAsg, putV, sPar, tAndF, tOrF, tNotF, eLoc, sExpr, gTupF, gConsF, gNilF, hl, hk, mul_small n _ hn]
def lawR (len : Nat) : Nat → List Int → Int → Int → Int × Int
  | _, [], t, b => (t, b)
  | k, n :: r, t, b => lawR len (k + 1) r (lawZ len k n t b).1 (lawZ len k n t b).2
theorem law_loop (xs : List D) : ∀ (ns : List Int) (k : Nat) (p q : Int) (a n : Option D), (∀ x ∈ ns, x.natAbs < 2 ^ 64) →
    ∃ a' n', forL tgEnum bodyLaw (enF k ns) [some (.val (.tup xs)), some (.val (.int p)), some (.val (.int q)), vs a, vs n] = .next [some (.val (.tup xs)), some (.val (.int (lawR xs.length k ns p q).1)), some (.val (.int (lawR xs.length k ns p q).2)), vs a', vs n']
  | [], k, p, q, a, n, _ => ⟨a, n, rfl⟩
  | m :: ns, k, p, q, a, n, h => by
    obtain ⟨a', n', ih⟩ := law_loop xs ns (k + 1) (lawZ xs.length k m p q).1 (lawZ xs.length k m p q).2 (some (.int k)) (some (.int m)) fun x hx => h x (List.mem_cons_of_mem _ hx)
    refine ⟨a', n', ?_⟩
    rw [enF_cons, forL_cons, put2, ap_s, bodyLaw_ok xs p q m k (h m (by simp)), ap_then]
    exact ih
theorem law_raw (len : Nat) : ∀ (r : List Int) (k : Nat) (n t b : Int), len = k + (r.length + 1) → lawR len k (n :: r) t b = raw (k + 1) r (t + n * b) b
  | [], k, n, t, b, h => by
    have : ¬ (k : Int) < (len : Int) - 1 := by simp at h; omega
    simp [lawR, lawZ, raw, this]
  | m :: r, k, n, t, b, h => by
    have hk : (k : Int) < (len : Int) - 1 := by simp at h; omega
    have ih := law_raw len r (k + 1) m (turn1 (t + n * b) b).1 (turn1 (t + n * b) b).2 (by simp at h ⊢; omega)
    have e1 : lawR len k (n :: m :: r) t b = lawR len (k + 1) (m :: r) (turn1 (t + n * b) b).1 (turn1 (t + n * b) b).2 := by
      show lawR len (k + 1) (m :: r) (lawZ len k n t b).1 (lawZ len k n t b).2 = _
      unfold lawZ; rw [if_pos hk]
    rw [e1, ih]
    show _ = raw (k + 1 + 1) r ((if k + 1 > 0 then turn1 (t + n * b) b else (t + n * b, b)).1 + m * (if k + 1 > 0 then turn1 (t + n * b) b else (t + n * b, b)).2) (if k + 1 > 0 then turn1 (t + n * b) b else (t + n * b, b)).2
    rw [if_pos (Nat.succ_pos k)]
theorem raw_inv : ∀ (r : List Int) (k : Nat) (t b : Int), (b = 0 → t = 1) → (raw (k + 1) r t b).2 = 0 → (raw (k + 1) r t b).1 = 1
  | [], k, t, b, h, z => h z
  | m :: r, k, t, b, h, z => by
    have e1 : raw (k + 1) (m :: r) t b = raw (k + 1 + 1) r ((turn1 t b).1 + m * (turn1 t b).2) (turn1 t b).2 := by
      show raw (k + 1 + 1) r ((if k + 1 > 0 then turn1 t b else (t, b)).1 + m * (if k + 1 > 0 then turn1 t b else (t, b)).2) (if k + 1 > 0 then turn1 t b else (t, b)).2 = _
      rw [if_pos (Nat.succ_pos k)]
    rw [e1] at z ⊢
    refine raw_inv r (k + 1) _ _ (fun hz => ?_) z
    unfold turn1 at hz ⊢
    by_cases h0 : t = 0
    · simp [h0]
    · by_cases h1 : t > 0
      · simp [h0, h1] at hz
      · simp [h0, h1] at hz
/-- both tell the same -/
theorem law_frac (n : Int) (r : List Int) : lawR (r.length + 1) 0 (n :: r) 0 1 = frac (n :: r) := by
  rw [law_raw (r.length + 1) r 0 n 0 1 (by omega)]
  have e : raw 0 (n :: r) 0 1 = raw (0 + 1) r (0 + n * 1) 1 := rfl
  unfold frac
  rw [e]
  by_cases hz : (raw (0 + 1) r (0 + n * 1) 1).2 = 0
  · have := raw_inv r 0 (0 + n * 1) 1 (by intro h; cases h) hz
    simp only [hz, if_true]
    exact Prod.ext this hz
  · simp only [hz, if_false]
theorem v_law_fraction (n : Int) (r : List Int) (h : ∀ x ∈ n :: r, x.natAbs < 2 ^ 64) : f_law_fraction [.val (.tup ((n :: r).map D.int))] = .val (.tup [.int (frac (n :: r)).1, .int (frac (n :: r)).2]) [] := by
  obtain ⟨a', n', hl⟩ := law_loop ((n :: r).map D.int) (n :: r) 0 0 1 none none h
  have hlen : ((n :: r).map D.int).length = r.length + 1 := by simp
  rw [hlen, law_frac] at hl
  have hb : b_law_fraction = sq (sAsg (eTup (aCons (eC (.int 0)) (aCons (eC (.int 1)) (aNil)))) (gTupF 2 (gConsF (putV 1) (gConsF (putV 2) (gNilF))))) (sq (sFor (iArgs (aCons (eLoc 0) (aNil)) enumD) tgEnum bodyLaw) (sRet (eTup (aCons (eLoc 1) (aCons (eLoc 2) (aNil)))))) := rfl
  have he : enumD [.tup ((n :: r).map D.int)] = some (enF 0 (n :: r)) := rfl
  have hl' : forL tgEnum bodyLaw (enF 0 (n :: r)) [some (SV.val (D.tup ((n :: r).map D.int))), some (SV.val (D.int 0)), some (SV.val (D.int 1)), none, none] = _ := hl
  unfold f_law_fraction
  rw [hb]
  generalize hx : (n :: r).map D.int = X at *
  simp [ap_bnd, ap_bind, ap_bindX, ap_bindB, ap_ret, ap_fail, ap_ofO, ap_ofON, ap_eC, ap_sq, ap_then, ap_thenR, ap_thenO, ap_thenX, ap_sB, ap_s, ap_sX, ap_sNil, ap_if, ap_ifS, ap_asBl, ap_tru, ap_add, ap_sub, ap_neg, ap_lt, ap_le, ap_gt, ap_ge, ap_eqI, ap_neI, runBody, env0, ioOs, bors, sIf, tv, tt, e2, e1, eIf, eTup, eLst, aCons, aNil, sRet, sRetN, sAsg, putV, sPar, tAndF, tOrF, tNotF, eLoc, sExpr, gTupF, gConsF, gNilF, sFor, iArgs, he, hl', sz_big]

/-! ### what are turns -/
def isInt : D → Bool
  | .int _ => true
  | _ => false
/-- neither an instance nor a def -/
def std : D → Bool
  | .ins _ _ => false
  | .fn _ => false
  | _ => true
theorem v_is_integer (d : D) (h : std d = true) : f_is_integer [.val d] = .val (.bl (isInt d)) [] := by
  cases d <;> first | rfl | cases h
def small (d : D) : Bool := match d with
  | .int n => decide ((if n < 0 then -n else n) ≤ 5)
  | _ => false
def sizedOk (d : D) : Bool := match d with
  | .tup xs => decide (1 ≤ xs.length) && decide (xs.length ≤ 6)
  | _ => false
theorem v_is_sized (d : D) (h : std d = true) : f_is_sized [.val d, .val (.int 1), .val (.int 6)] = .val (.bl (sizedOk d)) [] := by
  cases d with
  | tup xs =>
    have hl := len_tup (eLoc 0) ([some (.val (.tup xs)), some (.val (.int 1)), some (.val (.int 6))] : Cs.Env) _ _ rfl
    have e1 : (eIsi (rdV (eLoc 0)) (isiD (isTy .tuple) [])) ([some (.val (.tup xs)), some (.val (.int 1)), some (.val (.int 6))] : Cs.Env) = .ok (.bl true) [some (.val (.tup xs)), some (.val (.int 1)), some (.val (.int 6))] := rfl
    by_cases h1 : 1 ≤ xs.length
    · have h1' : (1 : Int) ≤ (xs.length : Int) := by omega
      simp [ap_bnd, ap_bind, ap_bindX, ap_bindB, ap_ret, ap_fail, ap_ofO, ap_ofON, ap_eC, ap_sq, ap_then, ap_thenR, ap_thenO, ap_thenX, ap_sB, ap_s, ap_sX, ap_sNil, ap_if, ap_ifS, ap_asBl, ap_tru, ap_add, ap_sub, ap_neg, ap_lt, ap_le, ap_gt, ap_ge, ap_eqI, ap_neI, runBody, env0, ioOs, bors, sIf, tv, tt, e2, e1, eIf, eTup, eLst, aCons, aNil, sRet, sRetN, sAsg, putV, sPar, tAndF, tOrF, tNotF, eLoc, sExpr, gTupF, gConsF, gNilF, f_is_sized, b_is_sized, eAnd, e1, eChain, hl, h1, h1', sizedOk]
      omega
    · have h1' : ¬ (1 : Int) ≤ (xs.length : Int) := by omega
      simp [ap_bnd, ap_bind, ap_bindX, ap_bindB, ap_ret, ap_fail, ap_ofO, ap_ofON, ap_eC, ap_sq, ap_then, ap_thenR, ap_thenO, ap_thenX, ap_sB, ap_s, ap_sX, ap_sNil, ap_if, ap_ifS, ap_asBl, ap_tru, ap_add, ap_sub, ap_neg, ap_lt, ap_le, ap_gt, ap_ge, ap_eqI, ap_neI, runBody, env0, ioOs, bors, sIf, tv, tt, e2, e1, eIf, eTup, eLst, aCons, aNil, sRet, sRetN, sAsg, putV, sPar, tAndF, tOrF, tNotF, eLoc, sExpr, gTupF, gConsF, gNilF, f_is_sized, b_is_sized, eAnd, e1, eChain, hl, h1, h1', sizedOk]
  | non => rfl
  | bl _ => rfl
  | int _ => rfl
  | str _ => rfl
  | lst _ => rfl
  | scr _ => rfl
  | dic _ => rfl
  | ins _ _ => cases h
  | fn _ => cases h

def fSmall : EM D := (eAnd (eFn 1 f_is_integer (bCons (rdV (eLoc 1)) (bNil))) (e2 leD (eCall absD (bCons (rdV (eLoc 1)) (bNil))) (eC (.int 5))))
theorem fSmall_ok (t d : D) (h : std d = true) : fSmall [some (.val t), some (.val d)] = .ok (.bl (small d)) [some (.val t), some (.val d)] := by
  have h1 := eFn1 f_is_integer (eLoc 1) ([some (.val t), some (.val d)] : Cs.Env) _ d _ rfl (v_is_integer d h)
  unfold fSmall eAnd
  cases d <;> first | (cases h; done) | (simp [ap_bnd, ap_bind, ap_bindX, ap_bindB, ap_ret, ap_fail, ap_ofO, ap_ofON, ap_eC, ap_sq, ap_then, ap_thenR, ap_thenO, ap_thenX, ap_sB, ap_s, ap_sX, ap_sNil, ap_if, ap_ifS, ap_asBl, ap_tru, ap_add, ap_sub, ap_neg, ap_lt, ap_le, ap_gt, ap_ge, ap_eqI, ap_neI, runBody, env0, ioOs, bors, sIf, tv, tt, e2, e1, eIf, eTup, eLst, aCons, aNil, sRet, sRetN, sAsg, putV, sPar, tAndF, tOrF, tNotF, eLoc, sExpr, gTupF, gConsF, gNilF, h1, isInt, small]; done) | skip
  rename_i n
  have e1 : eCall absD (bCons (rdV (eLoc 1)) bNil) ([some (.val t), some (.val (.int n))] : Cs.Env) = .ok (.int (if n < 0 then -n else n)) [some (.val t), some (.val (.int n))] := rfl
  simp [ap_bnd, ap_bind, ap_bindX, ap_bindB, ap_ret, ap_fail, ap_ofO, ap_ofON, ap_eC, ap_sq, ap_then, ap_thenR, ap_thenO, ap_thenX, ap_sB, ap_s, ap_sX, ap_sNil, ap_if, ap_ifS, ap_asBl, ap_tru, ap_add, ap_sub, ap_neg, ap_lt, ap_le, ap_gt, ap_ge, ap_eqI, ap_neI, runBody, env0, ioOs, bors, sIf, tv, tt, e2, e1, eIf, eTup, eLst, aCons, aNil, sRet, sRetN, sAsg, putV, sPar, tAndF, tOrF, tNotF, eLoc, sExpr, gTupF, gConsF, gNilF, h1, isInt, small, e1]
def turnsOk (d : D) : Bool := sizedOk d && match d with
  | .tup xs => xs.all small
  | _ => false
theorem v_check (d : D) (h : std d = true) (hs : ∀ xs, d = .tup xs → ∀ x ∈ xs, std x = true) : f_check_turns [.val d] = if turnsOk d = true then .val .non [] else .exc ⟨"NoTurns", []⟩ [] := by
  have hb : b_check_turns = sIf (tOrF (tNotF (tv (eFn 3 f_is_sized (bCons (rdV (eLoc 0)) (bCons (rdV (eC (.int 1))) (bCons (rdV (eC (.int 6))) (bNil))))))) (tNotF (tv (eCall allD (bCons (rdV (eFrz (oLc [1] false [1] (iSeq (eLoc 0)) (Cs.ret true) fSmall))) (bNil)))))) (sRaise0 "NoTurns") (sNil) := rfl
  have h1 : eFn 3 f_is_sized (bCons (rdV (eLoc 0)) (bCons (rdV (eC (.int 1))) (bCons (rdV (eC (.int 6))) bNil))) ([some (.val d), none] : Cs.Env) = .ok (.bl (sizedOk d)) [some (.val d), none] := by
    have := v_is_sized d h
    simp [eFn, callK, bCons, bNil, rdV, ap_bnd, ap_bind, ap_ret, ap_eC, eLoc, argsOf, slotsOf, osets, this]
  by_cases hz : sizedOk d = true
  · cases d with
    | tup xs =>
      have hn : xs.length ≤ sz := by
        have : xs.length ≤ 6 := by simp [sizedOk] at hz; omega
        exact sz_big _ (by omega)
      have h2 := oLc_map (i := 1) (fi := iSeq (eLoc 0)) (f := fSmall) (g := fun x => .bl (small x)) (ds := xs) (e0 := [some (.val (.tup xs)), none]) (e1 := [some (.val (.tup xs)), none]) rfl rfl hn (fun x hx => fSmall_ok (.tup xs) x (hs xs rfl x hx))
      have h3 : eFrz (oLc [1] false [1] (iSeq (eLoc 0)) (Cs.ret true) fSmall) ([some (.val (.tup xs)), none] : Cs.Env) = .ok (.lst (xs.map fun x => .bl (small x))) [some (.val (.tup xs)), none] := by
        unfold eFrz; rw [ap_bnd, h2]; rfl
      have h4 : boolsOf (xs.map fun x => D.bl (small x)) = some (xs.map small) := by
        clear h1 hz hn h2 h3 hs h hb
        induction xs with
        | nil => rfl
        | cons a r ih => show (boolsOf (r.map fun x => D.bl (small x))).map (small a :: ·) = _; rw [ih]; rfl
      have h5 : eCall allD (bCons (rdV (eFrz (oLc [1] false [1] (iSeq (eLoc 0)) (Cs.ret true) fSmall))) bNil) ([some (.val (.tup xs)), none] : Cs.Env) = .ok (.bl (xs.all small)) [some (.val (.tup xs)), none] := by
        simp [eCall, bCons, bNil, rdV, ap_bnd, ap_bind, ap_ret, h3, rdGs, gets, Rd.get, allD, h4, ap_ofO, List.all_map]
      unfold f_check_turns
      rw [hb]
      by_cases ha : xs.all small = true
      · rw [ha] at h5
        simp [ap_bnd, ap_bind, ap_bindX, ap_bindB, ap_ret, ap_fail, ap_ofO, ap_ofON, ap_eC, ap_sq, ap_then, ap_thenR, ap_thenO, ap_thenX, ap_sB, ap_s, ap_sX, ap_sNil, ap_if, ap_ifS, ap_asBl, ap_tru, ap_add, ap_sub, ap_neg, ap_lt, ap_le, ap_gt, ap_ge, ap_eqI, ap_neI, runBody, env0, ioOs, bors, sIf, tv, tt, e2, e1, eIf, eTup, eLst, aCons, aNil, sRet, sRetN, sAsg, putV, sPar, tAndF, tOrF, tNotF, eLoc, sExpr, gTupF, gConsF, gNilF, h1, hz, h5, turnsOk, ha]
      · rw [Bool.not_eq_true] at ha
        rw [ha] at h5
        simp [ap_bnd, ap_bind, ap_bindX, ap_bindB, ap_ret, ap_fail, ap_ofO, ap_ofON, ap_eC, ap_sq, ap_then, ap_thenR, ap_thenO, ap_thenX, ap_sB, ap_s, ap_sX, ap_sNil, ap_if, ap_ifS, ap_asBl, ap_tru, ap_add, ap_sub, ap_neg, ap_lt, ap_le, ap_gt, ap_ge, ap_eqI, ap_neI, runBody, env0, ioOs, bors, sIf, tv, tt, e2, e1, eIf, eTup, eLst, aCons, aNil, sRet, sRetN, sAsg, putV, sPar, tAndF, tOrF, tNotF, eLoc, sExpr, gTupF, gConsF, gNilF, h1, hz, h5, turnsOk, ha, sRaise0]
    | _ => cases hz
  · rw [Bool.not_eq_true] at hz
    unfold f_check_turns
    rw [hb]
    simp [ap_bnd, ap_bind, ap_bindX, ap_bindB, ap_ret, ap_fail, ap_ofO, ap_ofON, ap_eC, ap_sq, ap_then, ap_thenR, ap_thenO, ap_thenX, ap_sB, ap_s, ap_sX, ap_sNil, ap_if, ap_ifS, ap_asBl, ap_tru, ap_add, ap_sub, ap_neg, ap_lt, ap_le, ap_gt, ap_ge, ap_eqI, ap_neI, runBody, env0, ioOs, bors, sIf, tv, tt, e2, e1, eIf, eTup, eLst, aCons, aNil, sRet, sRetN, sAsg, putV, sPar, tAndF, tOrF, tNotF, eLoc, sExpr, gTupF, gConsF, gNilF, h1, hz, turnsOk, sRaise0]

theorem turns_ints {d : D} (h : turnsOk d = true) : ∃ ns : List Int, d = .tup (ns.map D.int) ∧ 1 ≤ ns.length ∧ ns.length ≤ 6 ∧ ∀ n ∈ ns, n.natAbs ≤ 5 := by
  unfold turnsOk at h
  cases d with
  | tup xs =>
    simp only [Bool.and_eq_true, sizedOk, decide_eq_true_eq] at h
    obtain ⟨⟨h1, h2⟩, h3⟩ := h
    have key : ∀ xs : List D, xs.all small = true → ∃ ns : List Int, xs = ns.map D.int ∧ ∀ n ∈ ns, n.natAbs ≤ 5 := by
      intro xs
      induction xs with
      | nil => exact fun _ => ⟨[], rfl, fun n hn => by cases hn⟩
      | cons a r ih =>
        intro h
        rw [List.all_cons, Bool.and_eq_true] at h
        obtain ⟨ns, e, hn⟩ := ih h.2
        have ha := h.1
        unfold small at ha
        split at ha
        · rename_i m
          have hm := of_decide_eq_true ha
          refine ⟨m :: ns, by rw [e]; rfl, fun x hx => ?_⟩
          rcases List.mem_cons.mp hx with rfl | hx
          · split at hm <;> omega
          · exact hn x hx
        · cases ha
    obtain ⟨ns, rfl, hn⟩ := key xs h3
    exact ⟨ns, rfl, by simpa using h1, by simpa using h2, hn⟩
  | _ => simp [sizedOk] at h
theorem turns_of (ns : List Int) (h1 : 1 ≤ ns.length) (h2 : ns.length ≤ 6) (h : ∀ n ∈ ns, n.natAbs ≤ 5) : turnsOk (.tup (ns.map D.int)) = true := by
  have key : ∀ ns : List Int, (∀ n ∈ ns, n.natAbs ≤ 5) → (ns.map D.int).all small = true := by
    intro ns
    induction ns with
    | nil => exact fun _ => rfl
    | cons a r ih =>
      intro h
      rw [List.map_cons, List.all_cons, ih fun x hx => h x (List.mem_cons_of_mem _ hx)]
      have := h a (by simp)
      simp only [small, Bool.and_true, decide_eq_true_eq]
      split <;> omega
  simp [turnsOk, sizedOk, key ns h, h1, h2]
theorem std_ints (ns : List Int) : ∀ xs, D.tup (ns.map D.int) = .tup xs → ∀ x ∈ xs, std x = true := fun xs e x hx => by
  cases e
  obtain ⟨n, _, rfl⟩ := List.mem_map.mp hx
  rfl
/-- deep enough known -/
def std2 (d : D) : Prop := std d = true ∧ ∀ xs, d = .tup xs → ∀ x ∈ xs, std x = true
theorem eFn1R (f : List SV → FR) (fa : EM D) (e e1 : Cs.Env) (d : D) (x : XV) (h : fa e = .ok d e1) (hf : f [.val d] = .exc x []) : eFn 1 f (bCons (rdV fa) bNil) e = .exc x e1 := by
  simp [eFn, callK, bCons, bNil, rdV, ap_bnd, ap_bind, ap_ret, h, argsOf, slotsOf, osets, hf]
theorem v_fraction_bad (d : D) (h : std2 d) (hz : turnsOk d = false) : f_fraction_of [.val d] = .exc ⟨"NoTurns", []⟩ [] := by
  have h0 := v_check d h.1 h.2
  rw [hz, if_neg Bool.false_ne_true] at h0
  have h1 := eFn1R f_check_turns (eLoc 0) ([some (.val d)] : Cs.Env) _ d _ rfl h0
  simp [ap_bnd, ap_bind, ap_bindX, ap_bindB, ap_ret, ap_fail, ap_ofO, ap_ofON, ap_eC, ap_sq, ap_then, ap_thenR, ap_thenO, ap_thenX, ap_sB, ap_s, ap_sX, ap_sNil, ap_if, ap_ifS, ap_asBl, ap_tru, ap_add, ap_sub, ap_neg, ap_lt, ap_le, ap_gt, ap_ge, ap_eqI, ap_neI, runBody, env0, ioOs, bors, sIf, tv, tt, e2, e1, eIf, eTup, eLst, aCons, aNil, sRet, sRetN, sAsg, putV, sPar, tAndF, tOrF, tNotF, eLoc, sExpr, gTupF, gConsF, gNilF, f_fraction_of, b_fraction_of, h1]
theorem small64 {ns : List Int} (h : ∀ n ∈ ns, n.natAbs ≤ 5) : ∀ n ∈ ns, n.natAbs < 2 ^ 64 := fun n hn => Nat.lt_of_le_of_lt (h n hn) (by decide)
theorem v_fraction (ns : List Int) (h1 : 1 ≤ ns.length) (h2 : ns.length ≤ 6) (h : ∀ n ∈ ns, n.natAbs ≤ 5) : f_fraction_of [.val (.tup (ns.map D.int))] = .val (.tup [.int (frac ns).1, .int (frac ns).2]) [] := by
  have h0 := v_check (.tup (ns.map D.int)) rfl (std_ints ns)
  rw [turns_of ns h1 h2 h, if_pos rfl] at h0
  have hr := v_raw ns (small64 h)
  generalize D.tup (ns.map D.int) = T at *
  have h3 := eFn1 f_check_turns (eLoc 0) ([some (.val T)] : Cs.Env) _ T _ rfl h0
  have h4 := eFn1 f_raw_fraction (eLoc 0) ([some (.val T)] : Cs.Env) _ T _ rfl hr
  simp [ap_bnd, ap_bind, ap_bindX, ap_bindB, ap_ret, ap_fail, ap_ofO, ap_ofON, ap_eC, ap_sq, ap_then, ap_thenR, ap_thenO, ap_thenX, ap_sB, ap_s, ap_sX, ap_sNil, ap_if, ap_ifS, ap_asBl, ap_tru, ap_add, ap_sub, ap_neg, ap_lt, ap_le, ap_gt, ap_ge, ap_eqI, ap_neI, runBody, env0, ioOs, bors, sIf, tv, tt, e2, e1, eIf, eTup, eLst, aCons, aNil, sRet, sRetN, sAsg, putV, sPar, tAndF, tOrF, tNotF, eLoc, sExpr, gTupF, gConsF, gNilF, f_fraction_of, b_fraction_of, h3, h4]
theorem eq_pair (a b c d : Int) : eqD (.tup [.int a, .int b]) (.tup [.int c, .int d]) = some (.bl (decide (a = c) && decide (b = d))) := by
  show (if SeqAt.shaped (.tuple [.int a, .int b]) && SeqAt.shaped (.tuple [.int c, .int d]) then some (D.bl (PyData.eqv (.tuple [.int a, .int b]) (.tuple [.int c, .int d]))) else none) = _
  have e1 : SeqAt.shaped (.tuple [.int a, .int b]) = true := rfl
  have e2 : SeqAt.shaped (.tuple [.int c, .int d]) = true := rfl
  rw [e1, e2]
  have e3 : PyData.eqv (.tuple [.int a, .int b]) (.tuple [.int c, .int d]) = (decide (a = c) && decide (b = d)) := by
    simp [PyData.eqv, PyData.eqvAll]
    by_cases h1 : a = c <;> by_cases h2 : b = d <;> simp [h1, h2]
  rw [e3]; rfl

/-- same fractions -/
def sameF (ns ms : List Int) : Bool := decide ((frac ns).1 = (frac ms).1) && decide ((frac ns).2 = (frac ms).2)
theorem v_same (ns ms : List Int) (h1 : 1 ≤ ns.length) (h2 : ns.length ≤ 6) (h : ∀ n ∈ ns, n.natAbs ≤ 5) (k1 : 1 ≤ ms.length) (k2 : ms.length ≤ 6) (k : ∀ n ∈ ms, n.natAbs ≤ 5) : f_same_tangles [.val (.tup (ns.map D.int)), .val (.tup (ms.map D.int))] = .val (.bl (sameF ns ms)) [] := by
  have h0 := v_check (.tup (ns.map D.int)) rfl (std_ints ns)
  rw [turns_of ns h1 h2 h, if_pos rfl] at h0
  have hr := v_raw ns (small64 h)
  have k0 := v_check (.tup (ms.map D.int)) rfl (std_ints ms)
  rw [turns_of ms k1 k2 k, if_pos rfl] at k0
  have kr := v_raw ms (small64 k)
  generalize D.tup (ns.map D.int) = T at *
  generalize D.tup (ms.map D.int) = U at *
  have h3 := eFn1 f_check_turns (eLoc 0) ([some (.val T), some (.val U)] : Cs.Env) _ T _ rfl h0
  have h4 := eFn1 f_raw_fraction (eLoc 0) ([some (.val T), some (.val U)] : Cs.Env) _ T _ rfl hr
  have k3 := eFn1 f_check_turns (eLoc 1) ([some (.val T), some (.val U)] : Cs.Env) _ U _ rfl k0
  have k4 := eFn1 f_raw_fraction (eLoc 1) ([some (.val T), some (.val U)] : Cs.Env) _ U _ rfl kr
  simp [ap_bnd, ap_bind, ap_bindX, ap_bindB, ap_ret, ap_fail, ap_ofO, ap_ofON, ap_eC, ap_sq, ap_then, ap_thenR, ap_thenO, ap_thenX, ap_sB, ap_s, ap_sX, ap_sNil, ap_if, ap_ifS, ap_asBl, ap_tru, ap_add, ap_sub, ap_neg, ap_lt, ap_le, ap_gt, ap_ge, ap_eqI, ap_neI, runBody, env0, ioOs, bors, sIf, tv, tt, e2, e1, eIf, eTup, eLst, aCons, aNil, sRet, sRetN, sAsg, putV, sPar, tAndF, tOrF, tNotF, eLoc, sExpr, gTupF, gConsF, gNilF, f_same_tangles, b_same_tangles, h3, h4, k3, k4, eq_pair, sameF]
theorem v_same_bad1 (d e : D) (h : std2 d) (hz : turnsOk d = false) : f_same_tangles [.val d, .val e] = .exc ⟨"NoTurns", []⟩ [] := by
  have h0 := v_check d h.1 h.2
  rw [hz, if_neg Bool.false_ne_true] at h0
  have h1 := eFn1R f_check_turns (eLoc 0) ([some (.val d), some (.val e)] : Cs.Env) _ d _ rfl h0
  simp [ap_bnd, ap_bind, ap_bindX, ap_bindB, ap_ret, ap_fail, ap_ofO, ap_ofON, ap_eC, ap_sq, ap_then, ap_thenR, ap_thenO, ap_thenX, ap_sB, ap_s, ap_sX, ap_sNil, ap_if, ap_ifS, ap_asBl, ap_tru, ap_add, ap_sub, ap_neg, ap_lt, ap_le, ap_gt, ap_ge, ap_eqI, ap_neI, runBody, env0, ioOs, bors, sIf, tv, tt, e2, e1, eIf, eTup, eLst, aCons, aNil, sRet, sRetN, sAsg, putV, sPar, tAndF, tOrF, tNotF, eLoc, sExpr, gTupF, gConsF, gNilF, f_same_tangles, b_same_tangles, h1]
theorem v_same_bad2 (ns : List Int) (d : D) (h1 : 1 ≤ ns.length) (h2 : ns.length ≤ 6) (h : ∀ n ∈ ns, n.natAbs ≤ 5) (hd : std2 d) (hz : turnsOk d = false) : f_same_tangles [.val (.tup (ns.map D.int)), .val d] = .exc ⟨"NoTurns", []⟩ [] := by
  have h0 := v_check (.tup (ns.map D.int)) rfl (std_ints ns)
  rw [turns_of ns h1 h2 h, if_pos rfl] at h0
  have k0 := v_check d hd.1 hd.2
  rw [hz, if_neg Bool.false_ne_true] at k0
  generalize D.tup (ns.map D.int) = T at *
  have h3 := eFn1 f_check_turns (eLoc 0) ([some (.val T), some (.val d)] : Cs.Env) _ T _ rfl h0
  have h4 := eFn1R f_check_turns (eLoc 1) ([some (.val T), some (.val d)] : Cs.Env) _ d _ rfl k0
  simp [ap_bnd, ap_bind, ap_bindX, ap_bindB, ap_ret, ap_fail, ap_ofO, ap_ofON, ap_eC, ap_sq, ap_then, ap_thenR, ap_thenO, ap_thenX, ap_sB, ap_s, ap_sX, ap_sNil, ap_if, ap_ifS, ap_asBl, ap_tru, ap_add, ap_sub, ap_neg, ap_lt, ap_le, ap_gt, ap_ge, ap_eqI, ap_neI, runBody, env0, ioOs, bors, sIf, tv, tt, e2, e1, eIf, eTup, eLst, aCons, aNil, sRet, sRetN, sAsg, putV, sPar, tAndF, tOrF, tNotF, eLoc, sExpr, gTupF, gConsF, gNilF, f_same_tangles, b_same_tangles, h3, h4]
end K44

set_option maxRecDepth 100000
namespace K44
open PySem L2 Cs
abbrev hd (cs : List Int) (a l m n : Int) : OO := .lst [.lst (cs.map D.int), .int a, .int l, .int m, .int n]
section
variable (c a l m n : D) (r : Cs.Env)
theorem rd0 : e2B ixD (rdG (.slot 0) fun _ => rdS 0) (rdV (eC (.int 0))) (some (.bor (.lst [c, a, l, m, n])) :: r) = .ok c (some (.bor (.lst [c, a, l, m, n])) :: r) := rfl
theorem rd1 : e2B ixD (rdG (.slot 0) fun _ => rdS 0) (rdV (eC (.int 1))) (some (.bor (.lst [c, a, l, m, n])) :: r) = .ok a (some (.bor (.lst [c, a, l, m, n])) :: r) := rfl
theorem rd2 : e2B ixD (rdG (.slot 0) fun _ => rdS 0) (rdV (eC (.int 2))) (some (.bor (.lst [c, a, l, m, n])) :: r) = .ok l (some (.bor (.lst [c, a, l, m, n])) :: r) := rfl
theorem rd3 : e2B ixD (rdG (.slot 0) fun _ => rdS 0) (rdV (eC (.int 3))) (some (.bor (.lst [c, a, l, m, n])) :: r) = .ok m (some (.bor (.lst [c, a, l, m, n])) :: r) := rfl
theorem rd4 : e2B ixD (rdG (.slot 0) fun _ => rdS 0) (rdV (eC (.int 4))) (some (.bor (.lst [c, a, l, m, n])) :: r) = .ok n (some (.bor (.lst [c, a, l, m, n])) :: r) := rfl
theorem st1 (x : D) : gSetL 0 (eC (.int 1)) x (some (.bor (.lst [c, a, l, m, n])) :: r) = .ok () (some (.bor (.lst [c, x, l, m, n])) :: r) := rfl
theorem st2 (x : D) : gSetL 0 (eC (.int 2)) x (some (.bor (.lst [c, a, l, m, n])) :: r) = .ok () (some (.bor (.lst [c, a, x, m, n])) :: r) := rfl
theorem st3 (x : D) : gSetL 0 (eC (.int 3)) x (some (.bor (.lst [c, a, l, m, n])) :: r) = .ok () (some (.bor (.lst [c, a, l, x, n])) :: r) := rfl
theorem st4 (x : D) : gSetL 0 (eC (.int 4)) x (some (.bor (.lst [c, a, l, m, n])) :: r) = .ok () (some (.bor (.lst [c, a, l, m, x])) :: r) := rfl
end

theorem intc (f : EM D) (e e1 : Cs.Env) (x : Int) (h : f e = .ok (.int x) e1) : eCall intD (bCons (rdV f) bNil) e = .ok (.int x) e1 := by
  simp [eCall, bCons, bNil, rdV, ap_bnd, ap_bind, ap_ret, h, rdGs, gets, Rd.get, intD, ap_ofO]
theorem mul_small' (a b : Int) (h : b.natAbs < 2 ^ 64) : mulD (.int a) (.int b) = some (.int (a * b)) := by
  show (if a.natAbs < 2 ^ 64 ∨ b.natAbs < 2 ^ 64 ∨ a.natAbs.log2 + b.natAbs.log2 < 1000000 then some (D.int (a * b)) else none) = _
  rw [if_pos (.inr (.inl h))]
theorem fdiv_small (a b : Int) (h0 : b ≠ 0) (h : b.natAbs < 1073741824) : fdivD (.int a) (.int b) = some (.int (a.fdiv b)) := by
  show (if b ≠ 0 ∧ b.natAbs < 1073741824 then some (D.int (a.fdiv b)) else _) = _
  rw [if_pos ⟨h0, h⟩]
theorem mod_ok (a b : Int) (h0 : b ≠ 0) : modD (.int a) (.int b) = some (.int (a.fmod b)) := by
  show (if b ≠ 0 then some (D.int (a.fmod b)) else none) = _
  rw [if_pos h0]
theorem fmod_in (a b : Int) (h : 0 < b) : 0 ≤ a.fmod b ∧ a.fmod b < b := by
  rw [Int.fmod_eq_emod_of_nonneg a (by omega)]
  exact ⟨Int.emod_nonneg _ (by omega), Int.emod_lt_of_pos _ h⟩

theorem eCall1 (g : List D → Option D) (f : EM D) (e : Cs.Env) : eCall g (bCons (rdV f) bNil) e = (f e).bind fun d => ofO (g [d]) := by
  simp only [eCall, bCons, bNil, rdV, ap_bnd]
  cases f e with
  | ok d e1 => simp [ap_bind, ap_ret, ap_bnd, rdGs, gets, Rd.get]
  | exc x e1 => rfl
  | bad => rfl
theorem int1 (x : Int) : intD [.int x] = some (.int x) := rfl
abbrev sl0 : EM Rd := rdG (.slot 0) fun _ => rdS 0
def drawC : ES := (sq (sAsg (e2 addD (e2B ixD (rdG (.slot 0) fun _ => rdS 0) (rdV (eC (.int 4)))) (eC (.int 1))) (gSetL 0 (eC (.int 4)))) (sq (sAsg (e2 modD (eCall intD (bCons (rdV (e2 mulD (eCall intD (bCons (rdV (e2 addD (e2B ixD (rdG (.slot 0) fun _ => rdS 0) (rdV (eC (.int 3)))) (e2 mulD (eC (.int 7919)) (e2B ixD (rdG (.slot 0) fun _ => rdS 0) (rdV (eC (.int 4))))))) (bNil))) (eC (.int 48271)))) (bNil))) (eC (.int 2147483647))) (putV 4)) (sq (sAsg (e2 modD (eCall intD (bCons (rdV (e2 mulD (eLoc 4) (e2 addD (e2 fdivD (eLoc 4) (eC (.int 1009))) (eC (.int 69621))))) (bNil))) (eC (.int 2147483647))) (putV 4)) (sq (sAsg (e2 modD (eCall intD (bCons (rdV (e2 mulD (eLoc 4) (e2 addD (e2 fdivD (eLoc 4) (eC (.int 2003))) (eC (.int 40014))))) (bNil))) (eC (.int 2147483563))) (putV 4)) (sRet (e2 modD (eCall intD (bCons (rdV (e2 fdivD (eLoc 4) (eC (.int 16)))) (bNil))) (eLoc 1)))))))
theorem drawC_ok (c a l : D) (m n b : Int) (x2 x3 x4 : Option D) (hb : 0 < b) (hb2 : b ≤ 1000) : ∃ k x4', 0 ≤ k ∧ k < b ∧ drawC [some (.bor (.lst [c, a, l, .int m, .int n])), some (.val (.int b)), vs x2, vs x3, vs x4] =
    .ret (.int k) [some (.bor (.lst [c, a, l, .int m, .int (n + 1)])), some (.val (.int b)), vs x2, vs x3, vs x4'] := by
  have h1 := fmod_in ((m + 7919 * (n + 1)) * 48271) 2147483647 (by omega)
  generalize hy1 : ((m + 7919 * (n + 1)) * 48271).fmod 2147483647 = y1 at h1
  have h2 := fmod_in (y1 * (y1.fdiv 1009 + 69621)) 2147483647 (by omega)
  generalize hy2 : (y1 * (y1.fdiv 1009 + 69621)).fmod 2147483647 = y2 at h2
  have h3 := fmod_in (y2 * (y2.fdiv 2003 + 40014)) 2147483563 (by omega)
  generalize hy3 : (y2 * (y2.fdiv 2003 + 40014)).fmod 2147483563 = y3 at h3
  have h4 := fmod_in (y3.fdiv 16) b hb
  have s1 : y1.natAbs < 2 ^ 64 := by omega
  have s2 : y2.natAbs < 2 ^ 64 := by omega
  have hb' : b ≠ 0 := by omega
  refine ⟨(y3.fdiv 16).fmod b, some (.int y3), h4.1, h4.2, ?_⟩
  unfold drawC
  cases x2 <;> cases x3 <;> cases x4 <;>
  simp [ap_bnd, ap_bind, ap_bindX, ap_bindB, ap_ret, ap_fail, ap_ofO, ap_ofON, ap_eC, ap_sq, ap_then, ap_thenR, ap_thenO, ap_thenX, ap_sB, ap_s, ap_sX, ap_sNil, ap_if, ap_ifS, ap_asBl, ap_tru, ap_add, ap_sub, ap_neg, ap_lt, ap_le, ap_gt, ap_ge, ap_eqI, ap_neI, runBody, env0, ioOs, bors, sIf, tv, tt, e2, e1, eIf, eTup, eLst, aCons, aNil, sRet, sRetN, sAsg, putV, sPar, tAndF, tOrF, tNotF, eLoc, sExpr, gTupF, gConsF, gNilF, rd3, rd4, st4, eCall1, int1, mul_small', mul_small, fdiv_small, mod_ok, hy1, hy2, hy3, s1, s2, hb']

def drawB : ES := (sIf (tv (e2 gtD (e2B ixD (rdG (.slot 0) fun _ => rdS 0) (rdV (eC (.int 2)))) (eC (.int 0)))) (sq (sAsg (e2 modD (eCall intD (bCons (rdV (e2B ixD (rdG (.slot 0) fun _ => rdS 0) (rdV (eC (.int 2))))) (bNil))) (eLoc 1)) (putV 3)) (sq (sAsg (e2 fdivD (e2B ixD (rdG (.slot 0) fun _ => rdS 0) (rdV (eC (.int 2)))) (eLoc 1)) (gSetL 0 (eC (.int 2)))) (sRet (eLoc 3)))) (sNil))
theorem drawB_ok (c a m n : D) (l b : Int) (x2 x3 x4 : Option D) (hl : 0 ≤ l) (hb : 0 < b) (hb2 : b ≤ 1000) :
    (l = 0 ∧ drawB [some (.bor (.lst [c, a, .int l, m, n])), some (.val (.int b)), vs x2, vs x3, vs x4] = .next [some (.bor (.lst [c, a, .int l, m, n])), some (.val (.int b)), vs x2, vs x3, vs x4]) ∨
    ∃ k l', 0 ≤ k ∧ k < b ∧ 0 ≤ l' ∧ drawB [some (.bor (.lst [c, a, .int l, m, n])), some (.val (.int b)), vs x2, vs x3, vs x4] = .ret (.int k) [some (.bor (.lst [c, a, .int l', m, n])), some (.val (.int b)), vs x2, vs (some (.int k)), vs x4] := by
  have hb' : b ≠ 0 := by omega
  have s1 : b.natAbs < 1073741824 := by omega
  have h4 := fmod_in l b hb
  by_cases h : 0 < l
  · right
    refine ⟨l.fmod b, l.fdiv b, h4.1, h4.2, ?_, ?_⟩
    · rw [Int.fdiv_eq_ediv_of_nonneg l (by omega)]; exact Int.ediv_nonneg hl (by omega)
    · unfold drawB
      cases x2 <;> cases x3 <;> cases x4 <;> simp [ap_bnd, ap_bind, ap_bindX, ap_bindB, ap_ret, ap_fail, ap_ofO, ap_ofON, ap_eC, ap_sq, ap_then, ap_thenR, ap_thenO, ap_thenX, ap_sB, ap_s, ap_sX, ap_sNil, ap_if, ap_ifS, ap_asBl, ap_tru, ap_add, ap_sub, ap_neg, ap_lt, ap_le, ap_gt, ap_ge, ap_eqI, ap_neI, runBody, env0, ioOs, bors, sIf, tv, tt, e2, e1, eIf, eTup, eLst, aCons, aNil, sRet, sRetN, sAsg, putV, sPar, tAndF, tOrF, tNotF, eLoc, sExpr, gTupF, gConsF, gNilF, rd2, st2, eCall1, int1, fdiv_small, mod_ok, h, hb', s1]
  · left
    have : l = 0 := by omega
    subst this
    refine ⟨rfl, ?_⟩
    unfold drawB
    simp [ap_bnd, ap_bind, ap_bindX, ap_bindB, ap_ret, ap_fail, ap_ofO, ap_ofON, ap_eC, ap_sq, ap_then, ap_thenR, ap_thenO, ap_thenX, ap_sB, ap_s, ap_sX, ap_sNil, ap_if, ap_ifS, ap_asBl, ap_tru, ap_add, ap_sub, ap_neg, ap_lt, ap_le, ap_gt, ap_ge, ap_eqI, ap_neI, runBody, env0, ioOs, bors, sIf, tv, tt, e2, e1, eIf, eTup, eLst, aCons, aNil, sRet, sRetN, sAsg, putV, sPar, tAndF, tOrF, tNotF, eLoc, sExpr, gTupF, gConsF, gNilF, rd2]

theorem ix_ints (cs : List Int) (a : Int) (h0 : 0 ≤ a) (h : a < cs.length) : ∃ x ∈ cs, ixD (.lst (cs.map D.int)) (.int a) = some (.int x) := by
  have hn : a.toNat < cs.length := by omega
  refine ⟨cs[a.toNat], List.getElem_mem hn, ?_⟩
  show atI (cs.map D.int) a = _
  unfold atI ixN
  rw [if_pos h0, if_pos (by rw [List.length_map]; exact h)]
  show (cs.map D.int)[a.toNat]? = _
  rw [List.getElem?_map, List.getElem?_eq_getElem hn]; rfl
def drawA : ES := (sIf (tAndF (tv (e2 eqD (e2B ixD (rdG (.slot 0) fun _ => rdS 0) (rdV (eC (.int 2)))) (eC (.int 0)))) (tv (e2 ltD (e2B ixD (rdG (.slot 0) fun _ => rdS 0) (rdV (eC (.int 1)))) (eCall lenD (bCons (rdV (e2B ixD (rdG (.slot 0) fun _ => rdS 0) (rdV (eC (.int 0))))) (bNil)))))) (sq (sAsg (e2 ixD (e2B ixD (rdG (.slot 0) fun _ => rdS 0) (rdV (eC (.int 0)))) (e2B ixD (rdG (.slot 0) fun _ => rdS 0) (rdV (eC (.int 1))))) (putV 2)) (sq (sAsg (e2 addD (e2B ixD (rdG (.slot 0) fun _ => rdS 0) (rdV (eC (.int 1)))) (eC (.int 1))) (gSetL 0 (eC (.int 1)))) (sq (sAsg (e2 modD (eCall intD (bCons (rdV (e2 addD (e2 addD (e2 mulD (e2B ixD (rdG (.slot 0) fun _ => rdS 0) (rdV (eC (.int 3)))) (eC (.int 69621))) (e2 mulD (eLoc 2) (eC (.int 40692)))) (eC (.int 31)))) (bNil))) (eC (.int 2147483629))) (gSetL 0 (eC (.int 3)))) (sIf (tv (e2 geD (eLoc 2) (e2 powD (eC (.int 10)) (eC (.int 18))))) (sAsg (eLoc 2) (gSetL 0 (eC (.int 2)))) (sNil))))) (sNil))
theorem len_lst (xs : List D) : lenD [.lst xs] = some (.int xs.length) := rfl
theorem pow18 : powD (.int 10) (.int 18) = some (.int (10 ^ 18)) := rfl
theorem drawA_ok (cs : List Int) (hc : ∀ x ∈ cs, 0 ≤ x) (a l m n b : Int) (ha : 0 ≤ a) (hl : 0 ≤ l) : ∃ a' l' m' x2, 0 ≤ a' ∧ 0 ≤ l' ∧ drawA [some (.bor (.lst [.lst (cs.map D.int), .int a, .int l, .int m, .int n])), some (.val (.int b)), none, none, none] =
    .next [some (.bor (.lst [.lst (cs.map D.int), .int a', .int l', .int m', .int n])), some (.val (.int b)), vs x2, none, none] := by
  unfold drawA
  by_cases h : l = 0
  · by_cases h2 : a < cs.length
    · obtain ⟨x, hx, hix⟩ := ix_ints cs a ha h2
      have hx0 := hc x hx
      have hlen : (cs.map D.int).length = cs.length := by simp
      by_cases h3 : 10 ^ 18 ≤ x
      · refine ⟨a + 1, x, (m * 69621 + x * 40692 + 31).fmod 2147483629, some (.int x), by omega, hx0, ?_⟩
        generalize cs.map D.int = X at *
        simp [ap_bnd, ap_bind, ap_bindX, ap_bindB, ap_ret, ap_fail, ap_ofO, ap_ofON, ap_eC, ap_sq, ap_then, ap_thenR, ap_thenO, ap_thenX, ap_sB, ap_s, ap_sX, ap_sNil, ap_if, ap_ifS, ap_asBl, ap_tru, ap_add, ap_sub, ap_neg, ap_lt, ap_le, ap_gt, ap_ge, ap_eqI, ap_neI, runBody, env0, ioOs, bors, sIf, tv, tt, e2, e1, eIf, eTup, eLst, aCons, aNil, sRet, sRetN, sAsg, putV, sPar, tAndF, tOrF, tNotF, eLoc, sExpr, gTupF, gConsF, gNilF, rd0, rd1, rd2, rd3, st1, st2, st3, eCall1, int1, len_lst, hlen, hix, h, h2, mul_small', mod_ok, pow18]
        intro h5; omega
      · refine ⟨a + 1, 0, (m * 69621 + x * 40692 + 31).fmod 2147483629, some (.int x), by omega, by omega, ?_⟩
        generalize cs.map D.int = X at *
        simp [ap_bnd, ap_bind, ap_bindX, ap_bindB, ap_ret, ap_fail, ap_ofO, ap_ofON, ap_eC, ap_sq, ap_then, ap_thenR, ap_thenO, ap_thenX, ap_sB, ap_s, ap_sX, ap_sNil, ap_if, ap_ifS, ap_asBl, ap_tru, ap_add, ap_sub, ap_neg, ap_lt, ap_le, ap_gt, ap_ge, ap_eqI, ap_neI, runBody, env0, ioOs, bors, sIf, tv, tt, e2, e1, eIf, eTup, eLst, aCons, aNil, sRet, sRetN, sAsg, putV, sPar, tAndF, tOrF, tNotF, eLoc, sExpr, gTupF, gConsF, gNilF, rd0, rd1, rd2, rd3, st1, st2, st3, eCall1, int1, len_lst, hlen, hix, h, h2, mul_small', mod_ok, pow18]
        intro h5; omega
    · refine ⟨a, l, m, none, ha, hl, ?_⟩
      have hlen : (cs.map D.int).length = cs.length := by simp
      generalize cs.map D.int = X at *
      simp [ap_bnd, ap_bind, ap_bindX, ap_bindB, ap_ret, ap_fail, ap_ofO, ap_ofON, ap_eC, ap_sq, ap_then, ap_thenR, ap_thenO, ap_thenX, ap_sB, ap_s, ap_sX, ap_sNil, ap_if, ap_ifS, ap_asBl, ap_tru, ap_add, ap_sub, ap_neg, ap_lt, ap_le, ap_gt, ap_ge, ap_eqI, ap_neI, runBody, env0, ioOs, bors, sIf, tv, tt, e2, e1, eIf, eTup, eLst, aCons, aNil, sRet, sRetN, sAsg, putV, sPar, tAndF, tOrF, tNotF, eLoc, sExpr, gTupF, gConsF, gNilF, rd0, rd1, rd2, eCall1, len_lst, hlen, h, h2]
  · refine ⟨a, l, m, none, ha, hl, ?_⟩
    simp [ap_bnd, ap_bind, ap_bindX, ap_bindB, ap_ret, ap_fail, ap_ofO, ap_ofON, ap_eC, ap_sq, ap_then, ap_thenR, ap_thenO, ap_thenX, ap_sB, ap_s, ap_sX, ap_sNil, ap_if, ap_ifS, ap_asBl, ap_tru, ap_add, ap_sub, ap_neg, ap_lt, ap_le, ap_gt, ap_ge, ap_eqI, ap_neI, runBody, env0, ioOs, bors, sIf, tv, tt, e2, e1, eIf, eTup, eLst, aCons, aNil, sRet, sRetN, sAsg, putV, sPar, tAndF, tOrF, tNotF, eLoc, sExpr, gTupF, gConsF, gNilF, rd2, h]

def HandOk (o : OO) : Prop := ∃ (cs : List Int) (a l m n : Int), o = .lst [.lst (cs.map D.int), .int a, .int l, .int m, .int n] ∧ (∀ x ∈ cs, 0 ≤ x) ∧ 0 ≤ a ∧ 0 ≤ l
/-- a draw -/
theorem v_draw (o : OO) (ho : HandOk o) (b : Int) (hb : 0 < b) (hb2 : b ≤ 1000) : ∃ k o', 0 ≤ k ∧ k < b ∧ HandOk o' ∧ f_law_draw [.bor o, .val (.int b)] = .val (.int k) [o'] := by
  obtain ⟨cs, a, l, m, n, rfl, hc, ha, hl⟩ := ho
  obtain ⟨a', l', m', x2, ha', hl', hA⟩ := drawA_ok cs hc a l m n b ha hl
  have e : b_law_draw = sq drawA (sq drawB drawC) := rfl
  have hA' : drawA [some (.bor (.lst [.lst (cs.map D.int), .int a, .int l, .int m, .int n])), some (SV.val (.int b)), none, none, none] = _ := hA
  rcases drawB_ok (.lst (cs.map D.int)) (.int a') (.int m') (.int n) l' b x2 none none hl' hb hb2 with ⟨rfl, hB⟩ | ⟨k, l2, hk, hk2, hl2, hB⟩
  · obtain ⟨k, x4, hk, hk2, hC⟩ := drawC_ok (.lst (cs.map D.int)) (.int a') (.int 0) m' n b x2 none none hb hb2
    refine ⟨k, _, hk, hk2, ⟨cs, a', 0, m', n + 1, rfl, hc, ha', by omega⟩, ?_⟩
    show runBody 5 b_law_draw _ = _
    unfold runBody
    rw [e]
    show (match sq drawA (sq drawB drawC) [some (.bor (.lst [.lst (cs.map D.int), .int a, .int l, .int m, .int n])), some (SV.val (.int b)), none, none, none] with | .next e => _ | .ret d e => _ | .retO o e => _ | .exc x e => _ | .bad => _) = _
    rw [ap_sq, hA', ap_then, ap_sq]
    have hB' : drawB [some (.bor (.lst [.lst (cs.map D.int), .int a', .int 0, .int m', .int n])), some (SV.val (.int b)), vs x2, none, none] = _ := hB
    rw [hB', ap_then, hC]
    rfl
  · refine ⟨k, _, hk, hk2, ⟨cs, a', l2, m', n, rfl, hc, ha', hl2⟩, ?_⟩
    show runBody 5 b_law_draw _ = _
    unfold runBody
    rw [e]
    show (match sq drawA (sq drawB drawC) [some (.bor (.lst [.lst (cs.map D.int), .int a, .int l, .int m, .int n])), some (SV.val (.int b)), none, none, none] with | .next e => _ | .ret d e => _ | .retO o e => _ | .exc x e => _ | .bad => _) = _
    rw [ap_sq, hA', ap_then, ap_sq]
    have hB' : drawB [some (.bor (.lst [.lst (cs.map D.int), .int a', .int l', .int m', .int n])), some (SV.val (.int b)), vs x2, none, none] = _ := hB
    rw [hB']
    rfl

theorem draw_call (o o' : OO) (r : Cs.Env) (fb : EM D) (b k : Int) (h : fb (some (.bor o) :: r) = .ok (.int b) (some (.bor o) :: r)) (hf : f_law_draw [.bor o, .val (.int b)] = .val (.int k) [o']) :
    eFn 2 f_law_draw (bCons (rdG (.slot 0) fun _ => rdS 0) (bCons (rdV fb) bNil)) (some (.bor o) :: r) = .ok (.int k) (some (.bor o') :: r) := by
  have e1 : (rdG (.slot 0) fun _ => rdS 0) (some (SV.bor o) :: r) = .ok (Rd.slot 0) (some (.bor o) :: r) := rfl
  simp [eFn, callK, bCons, bNil, rdV, ap_bnd, ap_bind, ap_ret, e1, h, argsOf, slotsOf, osets, oset, hf]
/-- one of some -/
theorem v_any (o : OO) (ho : HandOk o) (xs : List D) (h : 0 < xs.length) (h2 : xs.length ≤ 1000) : ∃ d o', d ∈ xs ∧ HandOk o' ∧ f_law_any [.bor o, .val (.lst xs)] = .val d [o'] := by
  obtain ⟨k, o', hk, hk2, ho', hd⟩ := v_draw o ho xs.length (by omega) (by omega)
  have hn : k.toNat < xs.length := by omega
  have hc := draw_call o o' [some (.val (.lst xs))] (eCall lenD (bCons (rdV (eLoc 1)) (bNil))) xs.length k (by rw [eCall1]; rfl) hd
  have hix : ixD (.lst xs) (.int k) = some xs[k.toNat] := by
    show atI xs k = _
    unfold atI ixN
    rw [if_pos hk, if_pos hk2]
    show xs[k.toNat]? = _
    rw [List.getElem?_eq_getElem hn]
  refine ⟨xs[k.toNat], o', List.getElem_mem hn, ho', ?_⟩
  simp [ap_bnd, ap_bind, ap_bindX, ap_bindB, ap_ret, ap_fail, ap_ofO, ap_ofON, ap_eC, ap_sq, ap_then, ap_thenR, ap_thenO, ap_thenX, ap_sB, ap_s, ap_sX, ap_sNil, ap_if, ap_ifS, ap_asBl, ap_tru, ap_add, ap_sub, ap_neg, ap_lt, ap_le, ap_gt, ap_ge, ap_eqI, ap_neI, runBody, env0, ioOs, bors, sIf, tv, tt, e2, e1, eIf, eTup, eLst, aCons, aNil, sRet, sRetN, sAsg, putV, sPar, tAndF, tOrF, tNotF, eLoc, sExpr, gTupF, gConsF, gNilF, f_law_any, b_law_any, hc, hix]
  rfl

inductive Deep : D → Prop
  | non : Deep .non
  | tup {d : D} : Deep d → Deep (.tup [d])
  | lst {d : D} : Deep d → Deep (.lst [d])
theorem Deep.std2 {d : D} (h : Deep d) : std2 d := by
  cases h with
  | non => exact ⟨rfl, fun xs e => by cases e⟩
  | tup h => exact ⟨rfl, fun xs e x hx => by cases e; rw [List.mem_singleton.mp hx]; cases h <;> rfl⟩
  | lst h => exact ⟨rfl, fun xs e => by cases e⟩
theorem Deep.bad {d : D} (h : Deep d) : turnsOk d = false := by
  cases h with
  | non => rfl
  | tup h => cases h <;> rfl
  | lst h => rfl
def bodyDeep : ES := (sAsg (eIf (tv (e2 eqD (eFn 2 f_law_draw (bCons (rdG (.slot 0) fun _ => rdS 0) (bCons (rdV (eC (.int 2))) (bNil)))) (eC (.int 0)))) (eTup (aCons (eLoc 1) (aNil))) (eLst (aCons (eLoc 1) (aNil)))) (putV 1))
theorem bodyDeep_ok (o : OO) (ho : HandOk o) (t x : D) (ht : Deep t) : ∃ o' t', HandOk o' ∧ Deep t' ∧ bodyDeep [some (.bor o), some (.val t), some (.val x)] = .next [some (.bor o'), some (.val t'), some (.val x)] := by
  obtain ⟨k, o', hk, hk2, ho', hd⟩ := v_draw o ho 2 (by omega) (by omega)
  have hc := draw_call o o' [some (.val t), some (.val x)] (eC (.int 2)) 2 k rfl hd
  by_cases h : k = 0
  · refine ⟨o', _, ho', .tup ht, ?_⟩
    simp [ap_bnd, ap_bind, ap_bindX, ap_bindB, ap_ret, ap_fail, ap_ofO, ap_ofON, ap_eC, ap_sq, ap_then, ap_thenR, ap_thenO, ap_thenX, ap_sB, ap_s, ap_sX, ap_sNil, ap_if, ap_ifS, ap_asBl, ap_tru, ap_add, ap_sub, ap_neg, ap_lt, ap_le, ap_gt, ap_ge, ap_eqI, ap_neI, runBody, env0, ioOs, bors, sIf, tv, tt, e2, e1, eIf, eTup, eLst, aCons, aNil, sRet, sRetN, sAsg, putV, sPar, tAndF, tOrF, tNotF, eLoc, sExpr, gTupF, gConsF, gNilF, bodyDeep, hc, h, sz_big]
  · refine ⟨o', _, ho', .lst ht, ?_⟩
    simp [ap_bnd, ap_bind, ap_bindX, ap_bindB, ap_ret, ap_fail, ap_ofO, ap_ofON, ap_eC, ap_sq, ap_then, ap_thenR, ap_thenO, ap_thenX, ap_sB, ap_s, ap_sX, ap_sNil, ap_if, ap_ifS, ap_asBl, ap_tru, ap_add, ap_sub, ap_neg, ap_lt, ap_le, ap_gt, ap_ge, ap_eqI, ap_neI, runBody, env0, ioOs, bors, sIf, tv, tt, e2, e1, eIf, eTup, eLst, aCons, aNil, sRet, sRetN, sAsg, putV, sPar, tAndF, tOrF, tNotF, eLoc, sExpr, gTupF, gConsF, gNilF, bodyDeep, hc, h, sz_big]
theorem deep_loop : ∀ (ds : List D) (o : OO) (t : D) (x : Option D), HandOk o → Deep t → ∃ o' t' x', HandOk o' ∧ Deep t' ∧ forL (putV 2) bodyDeep ds [some (.bor o), some (.val t), vs x] = .next [some (.bor o'), some (.val t'), vs x']
  | [], o, t, x, ho, ht => ⟨o, t, x, ho, ht, rfl⟩
  | d :: ds, o, t, x, ho, ht => by
    obtain ⟨o1, t1, ho1, ht1, hb⟩ := bodyDeep_ok o ho t d ht
    obtain ⟨o2, t2, x2, ho2, ht2, hl⟩ := deep_loop ds o1 t1 (some d) ho1 ht1
    refine ⟨o2, t2, x2, ho2, ht2, ?_⟩
    have hp : putV 2 d [some (.bor o), some (.val t), vs x] = .ok () [some (.bor o), some (.val t), some (.val d)] := by cases x <;> rfl
    rw [forL_cons, hp, ap_s, hb, ap_then]
    exact hl
theorem v_deep (o : OO) (ho : HandOk o) : ∃ d o', Deep d ∧ HandOk o' ∧ f_law_deep [.bor o] = .val d [o'] := by
  obtain ⟨k, o1, hk, hk2, ho1, hd⟩ := v_draw o ho 36 (by omega) (by omega)
  have hc := draw_call o o1 [some (.val .non), none] (eC (.int 36)) 36 k rfl hd
  obtain ⟨o2, t2, x2, ho2, ht2, hl⟩ := deep_loop (rng 0 (1 + k).toNat) o1 .non none ho1 .non
  have hb : b_law_deep = sq (sAsg (eC .non) (putV 1)) (sq (sFor (iArgs (aCons (e2 addD (eC (.int 1)) (eFn 2 f_law_draw (bCons (rdG (.slot 0) fun _ => rdS 0) (bCons (rdV (eC (.int 36))) (bNil))))) (aNil)) rng1) (putV 2) bodyDeep) (sRet (eLoc 1))) := rfl
  have hr : rng1 [.int (1 + k)] = some (rng 0 (1 + k).toNat) := by
    show (if -(2 ^ 62) ≤ 1 + k ∧ 1 + k < 2 ^ 62 then _ else _) = _
    rw [if_pos ⟨by omega, by omega⟩]
  have hl' : forL (putV 2) bodyDeep (rng 0 (1 + k).toNat) [some (SV.bor o1), some (SV.val .non), none] = _ := hl
  refine ⟨t2, o2, ht2, ho2, ?_⟩
  unfold f_law_deep
  rw [hb]
  simp [ap_bnd, ap_bind, ap_bindX, ap_bindB, ap_ret, ap_fail, ap_ofO, ap_ofON, ap_eC, ap_sq, ap_then, ap_thenR, ap_thenO, ap_thenX, ap_sB, ap_s, ap_sX, ap_sNil, ap_if, ap_ifS, ap_asBl, ap_tru, ap_add, ap_sub, ap_neg, ap_lt, ap_le, ap_gt, ap_ge, ap_eqI, ap_neI, runBody, env0, ioOs, bors, sIf, tv, tt, e2, e1, eIf, eTup, eLst, aCons, aNil, sRet, sRetN, sAsg, putV, sPar, tAndF, tOrF, tNotF, eLoc, sExpr, gTupF, gConsF, gNilF, sFor, iArgs, hc, hr, hl', ioAt]

theorem lc_draw (F : EM D) (P : Int → Prop) (r : Cs.Env) (hF : ∀ o d, HandOk o → ∃ k o', P k ∧ HandOk o' ∧ F (some (.bor o) :: some (.val d) :: r) = .ok (.int k) (some (.bor o') :: some (.val d) :: r)) :
    ∀ (ds acc : List D) (o : OO), HandOk o → acc.length + ds.length ≤ sz → ∃ (ks : List Int) (o' : OO), ks.length = ds.length ∧ (∀ k ∈ ks, P k) ∧ HandOk o' ∧ lcL [1] false [1] (Cs.ret true) F ds acc (some (.bor o) :: none :: r) = some (acc ++ ks.map D.int, some (.bor o') :: none :: r)
  | [], acc, o, ho, _ => ⟨[], o, rfl, (fun k hk => absurd hk (by simp)), ho, (by simp [lcL])⟩
  | d :: ds, acc, o, ho, hl => by
    obtain ⟨k, o1, hk, ho1, h1⟩ := hF o d ho
    obtain ⟨ks, o2, hn, hks, ho2, h2⟩ := lc_draw F P r hF ds (acc ++ [.int k]) o1 ho1 (by simp at hl ⊢; omega)
    refine ⟨k :: ks, o2, by simp [hn], fun x hx => ?_, ho2, ?_⟩
    · rcases List.mem_cons.mp hx with rfl | hx
      · exact hk
      · exact hks x hx
    · have hlt : acc.length < sz := by simp at hl; omega
      unfold lcL
      have h0 : tgVals false [1].length d = some [d] := rfl
      have hp : putAll [1] [d] (some (SV.bor o) :: none :: r) = some (some (.bor o) :: some (.val d) :: r) := rfl
      rw [h0]
      dsimp only
      rw [hp]
      dsimp only
      rw [ap_ret]
      dsimp only
      rw [if_pos rfl, h1]
      dsimp only
      have hc : acc.length < sz ∧ ([1].all fun v => plainSlot (some (SV.bor o1) :: some (SV.val d) :: r)[v]?) = true := ⟨hlt, rfl⟩
      rw [if_pos hc]
      have hw : wipeE (some (SV.bor o1) :: some (SV.val d) :: r) [1] = some (.bor o1) :: none :: r := rfl
      rw [hw, h2]
      simp
end K44

set_option maxRecDepth 100000
namespace K44
open PySem L2 Cs
theorem v_refused (e : Cs.Env) : g_law_is_refused (.exc ⟨"NoTurns", []⟩ e) = .ok (.bl true) [] := by
  have h1 : tab_CordError.lookup ("NoTurns" : Str) = some true := by decide +kernel
  have h2 : tab_NoTurns.lookup ("NoTurns" : Str) = some true := by decide +kernel
  have h3 : tab_ValueError.lookup ("NoTurns" : Str) = some true := by decide +kernel
  simp [ap_bnd, ap_bind, ap_bindX, ap_bindB, ap_ret, ap_fail, ap_ofO, ap_ofON, ap_eC, ap_sq, ap_then, ap_thenR, ap_thenO, ap_thenX, ap_sB, ap_s, ap_sX, ap_sNil, ap_if, ap_ifS, ap_asBl, ap_tru, ap_add, ap_sub, ap_neg, ap_lt, ap_le, ap_gt, ap_ge, ap_eqI, ap_neI, runBody, env0, ioOs, bors, sIf, tv, tt, e2, e1, eIf, eTup, eLst, aCons, aNil, sRet, sRetN, sAsg, putV, sPar, tAndF, tOrF, tNotF, eLoc, sExpr, gTupF, gConsF, gNilF, g_law_is_refused, runAct, b_law_is_refused, sTry, eAct, h1, h2, h3, eIsE, eAnd, plainSlot, unpinR]

/-! ### the mathematics of turns -/
theorem frac_raw (n : Int) (r : List Int) : frac (n :: r) = raw 1 r n 1 := by
  have e : raw 0 (n :: r) 0 1 = raw (0 + 1) r (0 + n * 1) 1 := rfl
  have e2 : (0 + n * 1 : Int) = n := by omega
  unfold frac
  rw [e, e2]
  by_cases hz : (raw (0 + 1) r n 1).2 = 0
  · have := raw_inv r 0 n 1 (by intro h; cases h) hz
    simp only [hz, if_true]
    exact (Prod.ext this hz).symm
  · simp only [hz, if_false]
theorem raw_cons (k : Nat) (m : Int) (r : List Int) (t b : Int) : raw (k + 1) (m :: r) t b = raw (k + 2) r ((turn1 t b).1 + m * (turn1 t b).2) (turn1 t b).2 := by
  show raw (k + 1 + 1) r ((if k + 1 > 0 then turn1 t b else (t, b)).1 + m * (if k + 1 > 0 then turn1 t b else (t, b)).2) (if k + 1 > 0 then turn1 t b else (t, b)).2 = _
  rw [if_pos (Nat.succ_pos k)]
theorem raw_k (r : List Int) : ∀ (k k' : Nat) (t b : Int), raw (k + 1) r t b = raw (k' + 1) r t b := by
  induction r with
  | nil => exact fun _ _ _ _ => rfl
  | cons m r ih => intro k k' t b; rw [raw_cons, raw_cons]; exact ih _ _ _ _
/-- 0 between two: both are added -/
theorem raw_zero (k : Nat) (t b y : Int) (r : List Int) (hb : 0 ≤ b) (hi : b = 0 → t = 1) (ht : t = 0 → b = 1) : raw (k + 1) (0 :: y :: r) t b = raw (k + 1) r (t + y * b) b := by
  rw [raw_cons, raw_cons]
  have e : turn1 ((turn1 t b).1 + 0 * (turn1 t b).2) (turn1 t b).2 = (t, b) := by
    unfold turn1
    by_cases h0 : t = 0
    · have := ht h0
      subst h0 this
      rfl
    · by_cases h1 : t > 0
      · by_cases h2 : b = 0
        · have := hi h2
          subst h2 this
          rfl
        · have h3 : b > 0 := by omega
          simp [h0, h1, h2, h3]
      · have h2 : b ≠ 0 := fun h => by have := hi h; omega
        have h3 : ¬ (-b > 0) := by omega
        have h4 : ¬ (-b = 0) := by omega
        have h5 : ¬ b < 0 := by omega
        simp [h0, h1, h2, h5]
  rw [e]
  exact raw_k r _ _ _ _

def NegR (z z' : Int × Int) : Prop := z'.2 = z.2 ∧ (z'.1 = -z.1 ∨ (z.2 = 0 ∧ z.1 = 1 ∧ z'.1 = 1))
theorem turn_neg (t b t' : Int) (h : NegR (t, b) (t', b)) : NegR (turn1 t b) (turn1 t' b) := by
  rcases h.2 with h | ⟨h1, h2, h3⟩
  · have h : t' = -t := h
    subst h
    unfold turn1 NegR
    by_cases h0 : t = 0
    · subst h0; simp
    · by_cases h1 : t > 0
      · have h2 : ¬ (-t > 0) := by omega
        have h3 : ¬ (-t = 0) := by omega
        rw [if_neg h0, if_pos h1, if_neg h3, if_neg h2]
        exact ⟨Int.neg_neg t, .inl rfl⟩
      · have h2 : -t > 0 := by omega
        have h3 : ¬ (-t = 0) := by omega
        rw [if_neg h0, if_neg h1, if_neg h3, if_pos h2]
        exact ⟨rfl, .inl (Int.neg_neg b).symm⟩
  · have h1 : b = 0 := h1
    have h2 : t = 1 := h2
    have h3 : t' = 1 := h3
    subst h1 h2 h3
    exact ⟨rfl, .inl rfl⟩
theorem add_neg (z z' : Int × Int) (m : Int) (h : NegR z z') : NegR (z.1 + m * z.2, z.2) (z'.1 + -m * z'.2, z.2) := by
  obtain ⟨h1, h2⟩ := h
  refine ⟨rfl, ?_⟩
  rw [h1]
  rcases h2 with h2 | ⟨a, b, c⟩
  · left
    show z'.1 + -m * z.2 = -(z.1 + m * z.2)
    rw [h2, Int.neg_mul]; omega
  · right
    refine ⟨a, ?_, ?_⟩
    · show z.1 + m * z.2 = 1
      rw [a, b]; simp
    · show z'.1 + -m * z.2 = 1
      rw [a, c]; simp
theorem raw_neg : ∀ (r : List Int) (k : Nat) (t b t' : Int), NegR (t, b) (t', b) → NegR (raw (k + 1) r t b) (raw (k + 1) (r.map (0 - ·)) t' b)
  | [], k, t, b, t', h => h
  | m :: r, k, t, b, t', h => by
    rw [List.map_cons, raw_cons, raw_cons]
    have h1 := turn_neg t b t' h
    have h2 := add_neg _ _ m h1
    rw [show (0 - m : Int) = -m by omega, h1.1]
    rw [h1.1] at h2
    exact raw_neg r (k + 1) _ _ _ h2

/-- b is not negative, t and b have no common part: what a state along the chain keeps -/
def Good (t b : Int) : Prop := 0 ≤ b ∧ Int.gcd t b = 1
theorem Good.b0 {t b : Int} (h : Good t b) (hn : b = 0 → 0 < t) : b = 0 → t = 1 := fun e => by
  have := h.2
  rw [e, Int.gcd_zero_right] at this
  have := hn e
  omega
theorem Good.t0 {t b : Int} (h : Good t b) : t = 0 → b = 1 := fun e => by
  have h2 := h.2
  rw [e, Int.gcd_zero_left] at h2
  have := h.1
  omega
theorem gcd_add (t b m : Int) : Int.gcd (t + m * b) b = Int.gcd t b := by
  rw [Int.gcd_comm, Int.gcd_comm t b]
  rw [Int.mul_comm]; exact Int.gcd_add_mul_left_right b t m

theorem good_step (t b m : Int) (h : Good t b) : Good ((turn1 t b).1 + m * (turn1 t b).2) (turn1 t b).2 := by
  unfold turn1
  by_cases h0 : t = 0
  · rw [if_pos h0]; exact ⟨by simp, by simp⟩
  · by_cases h1 : t > 0
    · rw [if_neg h0, if_pos h1]
      refine ⟨by show 0 ≤ t; omega, ?_⟩
      show Int.gcd (b + m * t) t = 1
      rw [gcd_add, Int.gcd_comm]; exact h.2
    · rw [if_neg h0, if_neg h1]
      refine ⟨by show 0 ≤ -t; omega, ?_⟩
      show Int.gcd (-b + m * -t) (-t) = 1
      rw [gcd_add, Int.gcd_comm, Int.neg_gcd, Int.gcd_neg]; exact h.2
end K44

set_option maxRecDepth 100000
namespace K44
open PySem L2 Cs
/-! ### zero between two, the mathematics -/
def InvT (t b : Int) : Prop := Good t b ∧ (b = 0 → 0 < t)
theorem inv_step (t b m : Int) (h : InvT t b) : InvT ((turn1 t b).1 + m * (turn1 t b).2) (turn1 t b).2 := by
  refine ⟨good_step t b m h.1, ?_⟩
  unfold turn1
  by_cases h0 : t = 0
  · rw [if_pos h0]; simp
  · by_cases h1 : t > 0
    · rw [if_neg h0, if_pos h1]; intro z; exact absurd z h0
    · rw [if_neg h0, if_neg h1]; intro z; have : -t = 0 := z; omega
theorem inv_one (n : Int) : InvT n 1 := ⟨⟨by decide, by simp⟩, fun h => by cases h⟩
theorem raw_mid (x y : Int) (r : List Int) : ∀ (l : List Int) (k : Nat) (t b : Int), InvT t b → raw (k + 1) (l ++ (x - y) :: 0 :: y :: r) t b = raw (k + 1) (l ++ x :: r) t b
  | [], k, t, b, h => by
    have g := inv_step t b (x - y) h
    show raw (k + 1) ((x - y) :: 0 :: y :: r) t b = raw (k + 1) (x :: r) t b
    rw [raw_cons, raw_zero (k + 1) _ _ y r g.1.1 (g.1.b0 g.2) g.1.t0, raw_cons]
    have : (turn1 t b).1 + (x - y) * (turn1 t b).2 + y * (turn1 t b).2 = (turn1 t b).1 + x * (turn1 t b).2 := by rw [Int.sub_mul]; omega
    rw [this]
  | m :: l, k, t, b, h => by
    rw [List.cons_append, List.cons_append, raw_cons, raw_cons]
    exact raw_mid x y r l (k + 1) _ _ (inv_step t b m h)
theorem frac_mid (x y : Int) (r : List Int) : ∀ (l : List Int), frac (l ++ (x - y) :: 0 :: y :: r) = frac (l ++ x :: r)
  | [] => by
    show frac ((x - y) :: 0 :: y :: r) = frac (x :: r)
    rw [frac_raw, frac_raw, raw_zero 0 _ _ y r (by decide) (fun h => by cases h) (fun _ => rfl)]
    have : x - y + y * 1 = x := by omega
    rw [this]
  | n :: l => by
    rw [List.cons_append, List.cons_append, frac_raw, frac_raw]
    exact raw_mid x y r l 0 n 1 (inv_one n)
theorem frac_neg (n : Int) (r : List Int) (h : frac (n :: r) ≠ (1, 0)) : frac ((n :: r).map (0 - ·)) = (0 - (frac (n :: r)).1, (frac (n :: r)).2) := by
  rw [List.map_cons, frac_raw, frac_raw]
  rw [frac_raw] at h
  have k := raw_neg r 0 n 1 (0 - n) ⟨rfl, .inl (by show 0 - n = -n; omega)⟩
  rcases k.2 with k2 | ⟨k2, k3, _⟩
  · exact Prod.ext (k2.trans (by show -(raw 1 r n 1).1 = 0 - (raw 1 r n 1).1; omega)) k.1
  · exact absurd (Prod.ext k3 k2) h
end K44

set_option maxRecDepth 100000
namespace K44
open PySem L2 Cs
def s1_law_is_right : ES := sAsg (eCall tupleD (bCons (rdV (eFrz (oLc [1] false [1] (iArgs (aCons (e2 addD (eC (.int 1)) (eFn 2 f_law_draw (bCons (rdG (.slot 0) fun _ => rdS 0) (bCons (rdV (eC (.int 6))) (bNil))))) (aNil)) rng1) (Cs.ret true) (e2 subD (eFn 2 f_law_draw (bCons (rdG (.slot 0) fun _ => rdS 0) (bCons (rdV (eC (.int 11))) (bNil)))) (eC (.int 5)))))) (bNil))) (putV 10)
def s2_law_is_right : ES := sAsg (eCall tupleD (bCons (rdV (eFrz (oLc [1] false [1] (iArgs (aCons (e2 addD (eC (.int 1)) (eFn 2 f_law_draw (bCons (rdG (.slot 0) fun _ => rdS 0) (bCons (rdV (eC (.int 3))) (bNil))))) (aNil)) rng1) (Cs.ret true) (e2 subD (eFn 2 f_law_draw (bCons (rdG (.slot 0) fun _ => rdS 0) (bCons (rdV (eC (.int 7))) (bNil)))) (eC (.int 3)))))) (bNil))) (putV 2)
def s3_law_is_right : ES := sPar 3 4 (aCons (eFn 1 f_law_fraction (bCons (rdV (eLoc 10)) (bNil))) (aCons (eFn 1 f_law_fraction (bCons (rdV (eLoc 2)) (bNil))) (aNil)))
def s4_law_is_right : ES := sIf (tOrF (tv (e2 neD (eCall reprD (bCons (rdV (eFn 1 f_fraction_of (bCons (rdV (eLoc 10)) (bNil)))) bNil)) (eCall reprD (bCons (rdV (eLoc 3)) bNil)))) (tv (e2 neD (eCall reprD (bCons (rdV (eFn 2 f_same_tangles (bCons (rdV (eLoc 10)) (bCons (rdV (eLoc 2)) (bNil))))) bNil)) (eCall reprD (bCons (rdV (e2 eqD (eLoc 3) (eLoc 4))) bNil))))) (sRet (eC (.bl false))) (sNil)
def s5_law_is_right : ES := sAsg (eCall tupleD (bCons (rdV (eFrz (oLc [11] false [11] (iSeq (eLoc 10)) (Cs.ret true) (e2 subD (eC (.int 0)) (eLoc 11))))) (bNil))) (putV 5)
def s6_law_is_right : ES := sIf (tAndF (tv (e2 neD (eLoc 3) (eTup (aCons (eC (.int 1)) (aCons (eC (.int 0)) (aNil)))))) (tv (e2 neD (eFn 1 f_fraction_of (bCons (rdV (eLoc 5)) (bNil))) (eTup (aCons (e2 subD (eC (.int 0)) (e2 ixD (eLoc 3) (eC (.int 0)))) (aCons (e2 ixD (eLoc 3) (eC (.int 1))) (aNil))))))) (sRet (eC (.bl false))) (sNil)
def s7_law_is_right : ES := sAsg (eFn 2 f_law_draw (bCons (rdG (.slot 0) fun _ => rdS 0) (bCons (rdV (eCall lenD (bCons (rdV (eLoc 10)) (bNil)))) (bNil)))) (putV 1)
def s8_law_is_right : ES := sPar 6 7 (aCons (eSl (rdV (eLoc 10)) (pNone) (pInt (eLoc 1))) (aCons (eSl (rdV (eLoc 10)) (pInt (e2 addD (eLoc 1) (eC (.int 1)))) (pNone)) (aNil)))
def s9_law_is_right : ES := sAsg (e2 subD (eFn 2 f_law_draw (bCons (rdG (.slot 0) fun _ => rdS 0) (bCons (rdV (eC (.int 11))) (bNil)))) (eC (.int 5))) (putV 8)
def s10_law_is_right : ES := sIf (tAndF (tv (e2 ltD (eCall lenD (bCons (rdV (eLoc 10)) (bNil))) (eC (.int 5)))) (tv (eChain leD leD (e1 negD (eC (.int 5))) (e2 subD (e2 ixD (eLoc 10) (eLoc 1)) (eLoc 8)) (eC (.int 5))))) (sIf (tv (e2 isnotD (eFn 2 f_same_tangles (bCons (rdV (e2 addD (e2 addD (eLoc 6) (eTup (aCons (e2 subD (e2 ixD (eLoc 10) (eLoc 1)) (eLoc 8)) (aCons (eC (.int 0)) (aCons (eLoc 8) (aNil)))))) (eLoc 7))) (bCons (rdV (eLoc 10)) (bNil)))) (eC (.bl true)))) (sRet (eC (.bl false))) (sNil)) (sNil)
def s11_law_is_right : ES := sAsg (eLst (aCons (eC .non) (aCons (eTup (aNil)) (aCons (eFrz (oCall listO (bCons (rdV (eLoc 10)) (bNil)))) (aCons (e2 addD (eLoc 10) (eTup (aCons (eC (.int 6)) (aNil)))) (aCons (e2 addD (eSl (rdV (eLoc 10)) (pNone) (pInt (e1 negD (eC (.int 1))))) (eTup (aCons (e1 negD (eC (.int 6))) (aNil)))) (aCons (e2 addD (eSl (rdV (eLoc 10)) (pNone) (pInt (e1 negD (eC (.int 1))))) (eTup (aCons (eC .non) (aNil)))) (aCons (e2 addD (eSl (rdV (eLoc 10)) (pNone) (pInt (e1 negD (eC (.int 1))))) (eTup (aCons (eC (.bl true)) (aNil)))) (aNil))))))))) (putV 9)
def s12_law_is_right : ES := sAsg (eFn 2 f_law_any (bCons (rdG (.slot 0) fun _ => rdS 0) (bCons (rdV (e2 addD (eLoc 9) (eLst (aCons (e2 mulD (eTup (aCons (eC (.int 1)) (aNil))) (eC (.int 7))) (aCons (eC (.int 0)) (aCons (eC (.str "12")) (aCons (eDic0) (aCons (eTup (aCons (eC (.str "1")) (aNil))) (aCons (eFn 1 f_law_deep (bCons (rdG (.slot 0) fun _ => rdS 0) (bNil))) (aNil)))))))))) (bNil)))) (putV 9)
def s13_law_is_right : ES := sIf (tNotF (tv (eLam [0, 0, 0, 0, 0, 0, 0, 0, 0, 1, 0, 0] (eFn 1 f_fraction_of (bCons (rdV (eLoc 9)) (bNil))) g_law_is_refused))) (sRet (eC (.bl false))) (sNil)
def s14_law_is_right : ES := sIf (tNotF (tv (eLam [0, 0, 0, 0, 0, 0, 0, 0, 0, 1, 1, 0] (eFn 2 f_same_tangles (bCons (rdV (eLoc 10)) (bCons (rdV (eLoc 9)) (bNil)))) g_law_is_refused))) (sRet (eC (.bl false))) (sNil)
def s15_law_is_right : ES := sRet (eLam [0, 0, 0, 0, 0, 0, 0, 0, 0, 1, 1, 0] (eFn 2 f_same_tangles (bCons (rdV (eLoc 9)) (bCons (rdV (eLoc 10)) (bNil)))) g_law_is_refused)
theorem e_law_is_right : b_law_is_right = sq s1_law_is_right (sq s2_law_is_right (sq s3_law_is_right (sq s4_law_is_right (sq s5_law_is_right (sq s6_law_is_right (sq s7_law_is_right (sq s8_law_is_right (sq s9_law_is_right (sq s10_law_is_right (sq s11_law_is_right (sq s12_law_is_right (sq s13_law_is_right (sq s14_law_is_right (s15_law_is_right)))))))))))))) := rfl
def s1_law : ES := sAsgO (oFn 1 f_law_hand (bCons (rdV (eLoc 0)) (bNil))) 1
def s2_law : ES := sIf (tv (e2 neD (eFrz (oLc [2] false [2] (iSeq (eTup (aCons (eTup (aCons (eC (.int 2)) (aCons (eC (.int 1)) (aCons (eC (.int 2)) (aNil))))) (aCons (eTup (aCons (eC (.int 0)) (aNil))) (aCons (eTup (aCons (eC (.int 0)) (aCons (eC (.int 3)) (aNil)))) (aCons (eTup (aCons (e1 negD (eC (.int 2))) (aCons (eC (.int 0)) (aNil)))) (aNil))))))) (Cs.ret true) (eFn 1 f_fraction_of (bCons (rdV (eLoc 2)) (bNil))))) (eLst (aCons (eTup (aCons (eC (.int 8)) (aCons (eC (.int 3)) (aNil)))) (aCons (eTup (aCons (eC (.int 0)) (aCons (eC (.int 1)) (aNil)))) (aCons (eTup (aCons (eC (.int 1)) (aCons (eC (.int 0)) (aNil)))) (aCons (eTup (aCons (e1 negD (eC (.int 1))) (aCons (eC (.int 2)) (aNil)))) (aNil)))))))) (sRet (eC (.bl false))) (sNil)
def s3_law : ES := sRet (eCall allD (bCons (rdV (eFrz (oLc [3] false [3] (iArgs (aCons (eC (.int 8)) (aNil)) rng1) (Cs.ret true) (eFn 1 f_law_is_right (bCons (rdG (.slot 1) fun _ => rdS 1) (bNil)))))) (bNil)))
theorem e_law : b_law = sq s1_law (sq s2_law (s3_law)) := rfl
theorem olc_draw {fi : EM (List D)} {F : EM D} {P : Int → Prop} {r : Cs.Env} {o o1 : OO} {ds : List D} (hfi : fi (some (.bor o) :: none :: r) = .ok ds (some (.bor o1) :: none :: r)) (ho : HandOk o1)
    (hF : ∀ o d, HandOk o → ∃ k o', P k ∧ HandOk o' ∧ F (some (.bor o) :: some (.val d) :: r) = .ok (.int k) (some (.bor o') :: some (.val d) :: r)) (hn : ds.length ≤ sz) :
    ∃ (ks : List Int) (o' : OO), ks.length = ds.length ∧ (∀ k ∈ ks, P k) ∧ HandOk o' ∧ oLc [1] false [1] fi (Cs.ret true) F (some (.bor o) :: none :: r) = .ok (.lst (ks.map D.int)) (some (.bor o') :: none :: r) := by
  obtain ⟨ks, o2, h1, h2, h3, h4⟩ := lc_draw F P r hF ds [] o1 ho (by simpa using hn)
  refine ⟨ks, o2, h1, h2, h3, ?_⟩
  unfold oLc
  rw [ap_bnd, hfi, ap_bind]
  have c1 : ([1].all fun v => plainSlot (some (SV.bor o1) :: none :: r)[v]?) = true := rfl
  have c2 : ([1].all fun v => plainSlot (some (SV.bor o2) :: none :: r)[v]?) = true := rfl
  rw [if_pos c1]
  have hw : wipeE (some (SV.bor o1) :: none :: r) [1] = some (SV.bor o1) :: none :: r := rfl
  rw [hw, h4]
  dsimp only
  rw [if_pos c2]
  rfl
abbrev E (o : OO) (a b c d e f g h i j : Option D) : Cs.Env := [some (.bor o), vs a, vs b, vs c, vs d, vs e, vs f, vs g, vs h, vs i, vs j, none]
theorem rng_len (n : Nat) : (rng 0 n).length = n := by unfold rng; simp
theorem rng1_ok (k : Int) (h : 0 ≤ k) (h2 : k < 100) : rng1 [.int k] = some (rng 0 k.toNat) := by
  show (if -(2 ^ 62) ≤ k ∧ k < 2 ^ 62 then _ else _) = _
  rw [if_pos ⟨by omega, by omega⟩]
theorem s1_ok (o : OO) (ho : HandOk o) : ∃ (ns : List Int) (o' : OO), 1 ≤ ns.length ∧ ns.length ≤ 6 ∧ (∀ n ∈ ns, n.natAbs ≤ 5) ∧ HandOk o' ∧
    s1_law_is_right (E o none none none none none none none none none none) = .next (E o' none none none none none none none none none (some (.tup (ns.map D.int)))) := by
  obtain ⟨k, o1, hk, hk2, ho1, hd⟩ := v_draw o ho 6 (by omega) (by omega)
  have hc := draw_call o o1 ([none, none, none, none, none, none, none, none, none, none, none]) (eC (.int 6)) 6 k rfl hd
  obtain ⟨ns, o2, h1, h2, h3, h4⟩ := olc_draw (o := o) (P := fun n => n.natAbs ≤ 5) (fi := (iArgs (aCons (e2 addD (eC (.int 1)) (eFn 2 f_law_draw (bCons (rdG (.slot 0) fun _ => rdS 0) (bCons (rdV (eC (.int 6))) (bNil))))) (aNil)) rng1))
    (F := (e2 subD (eFn 2 f_law_draw (bCons (rdG (.slot 0) fun _ => rdS 0) (bCons (rdV (eC (.int 11))) (bNil)))) (eC (.int 5)))) (r := [none, none, none, none, none, none, none, none, none, none]) (ds := rng 0 (1 + k).toNat) (by simp [ap_bnd, ap_bind, ap_bindX, ap_bindB, ap_ret, ap_fail, ap_ofO, ap_ofON, ap_eC, ap_sq, ap_then, ap_thenR, ap_thenO, ap_thenX, ap_sB, ap_s, ap_sX, ap_sNil, ap_if, ap_ifS, ap_asBl, ap_tru, ap_add, ap_sub, ap_neg, ap_lt, ap_le, ap_gt, ap_ge, ap_eqI, ap_neI, runBody, env0, ioOs, bors, sIf, tv, tt, e2, e1, eIf, eTup, eLst, aCons, aNil, sRet, sRetN, sAsg, putV, sPar, tAndF, tOrF, tNotF, eLoc, sExpr, gTupF, gConsF, gNilF, iArgs, hc, rng1_ok (1 + k) (by omega) (by omega)]) ho1
    (fun o d ho => by
      obtain ⟨k, o', hk, hk2, ho', hd⟩ := v_draw o ho 11 (by omega) (by omega)
      have hc := draw_call o o' (some (.val d) :: [none, none, none, none, none, none, none, none, none, none]) (eC (.int 11)) 11 k rfl hd
      refine ⟨k - 5, o', by omega, ho', by simp [ap_bnd, ap_bind, ap_bindX, ap_bindB, ap_ret, ap_fail, ap_ofO, ap_ofON, ap_eC, ap_sq, ap_then, ap_thenR, ap_thenO, ap_thenX, ap_sB, ap_s, ap_sX, ap_sNil, ap_if, ap_ifS, ap_asBl, ap_tru, ap_add, ap_sub, ap_neg, ap_lt, ap_le, ap_gt, ap_ge, ap_eqI, ap_neI, runBody, env0, ioOs, bors, sIf, tv, tt, e2, e1, eIf, eTup, eLst, aCons, aNil, sRet, sRetN, sAsg, putV, sPar, tAndF, tOrF, tNotF, eLoc, sExpr, gTupF, gConsF, gNilF, hc]⟩) (by rw [rng_len]; exact sz_big _ (by omega))
  rw [rng_len] at h1
  refine ⟨ns, o2, by omega, by omega, h2, h3, ?_⟩
  unfold s1_law_is_right
  simp [ap_bnd, ap_bind, ap_bindX, ap_bindB, ap_ret, ap_fail, ap_ofO, ap_ofON, ap_eC, ap_sq, ap_then, ap_thenR, ap_thenO, ap_thenX, ap_sB, ap_s, ap_sX, ap_sNil, ap_if, ap_ifS, ap_asBl, ap_tru, ap_add, ap_sub, ap_neg, ap_lt, ap_le, ap_gt, ap_ge, ap_eqI, ap_neI, ap_rdV, ap_bCons, ap_bNil, ap_rdS, ap_rdG, ap_rdGs, ap_eCall, ap_oCall, ap_eFrz, ap_eFn, ap_oFn, ap_eSl, ap_pNone, ap_e2B, ap_sAsgO, ap_sPar, ap_e2, ap_e1, ap_tv, ap_tt, ap_tAnd, ap_tOr, ap_tNot, ap_eNot, ap_eAnd, ap_eOr, ap_eIf, ap_eChain, ap_aNil, ap_aCons, ap_eTup, ap_eLst, ap_oLst, ap_sExpr, ap_sRet, ap_sRetN, ap_sRetO, ap_sIf, ap_sAsg, ap_sFor, ap_iSeq, ap_iArgs, ap_pInt, ap_eIsi, ap_sRaise0, ap_eDic0, ap_gTup, ap_gCons, ap_gNil, le_sz, callK, argsOf, slotsOf, osets, oset, gets, Rd.get, putV, putO, eLoc, OO.fr, h4, tupleD, vs, E]
theorem s2_ok (o : OO) (ho : HandOk o) (T : D) : ∃ (ns : List Int) (o' : OO), 1 ≤ ns.length ∧ ns.length ≤ 3 ∧ (∀ n ∈ ns, n.natAbs ≤ 5) ∧ HandOk o' ∧
    s2_law_is_right (E o none none none none none none none none none (some T)) = .next (E o' none (some (.tup (ns.map D.int))) none none none none none none none (some T)) := by
  obtain ⟨k, o1, hk, hk2, ho1, hd⟩ := v_draw o ho 3 (by omega) (by omega)
  have hc := draw_call o o1 ([none, none, none, none, none, none, none, none, none, some (.val T), none]) (eC (.int 3)) 3 k rfl hd
  obtain ⟨ns, o2, h1, h2, h3, h4⟩ := olc_draw (o := o) (P := fun n => n.natAbs ≤ 5) (fi := (iArgs (aCons (e2 addD (eC (.int 1)) (eFn 2 f_law_draw (bCons (rdG (.slot 0) fun _ => rdS 0) (bCons (rdV (eC (.int 3))) (bNil))))) (aNil)) rng1))
    (F := (e2 subD (eFn 2 f_law_draw (bCons (rdG (.slot 0) fun _ => rdS 0) (bCons (rdV (eC (.int 7))) (bNil)))) (eC (.int 3)))) (r := [none, none, none, none, none, none, none, none, some (.val T), none]) (ds := rng 0 (1 + k).toNat) (by simp [ap_bnd, ap_bind, ap_bindX, ap_bindB, ap_ret, ap_fail, ap_ofO, ap_ofON, ap_eC, ap_sq, ap_then, ap_thenR, ap_thenO, ap_thenX, ap_sB, ap_s, ap_sX, ap_sNil, ap_if, ap_ifS, ap_asBl, ap_tru, ap_add, ap_sub, ap_neg, ap_lt, ap_le, ap_gt, ap_ge, ap_eqI, ap_neI, runBody, env0, ioOs, bors, sIf, tv, tt, e2, e1, eIf, eTup, eLst, aCons, aNil, sRet, sRetN, sAsg, putV, sPar, tAndF, tOrF, tNotF, eLoc, sExpr, gTupF, gConsF, gNilF, iArgs, hc, rng1_ok (1 + k) (by omega) (by omega)]) ho1
    (fun o d ho => by
      obtain ⟨k, o', hk, hk2, ho', hd⟩ := v_draw o ho 7 (by omega) (by omega)
      have hc := draw_call o o' (some (.val d) :: [none, none, none, none, none, none, none, none, some (.val T), none]) (eC (.int 7)) 7 k rfl hd
      refine ⟨k - 3, o', by omega, ho', by simp [ap_bnd, ap_bind, ap_bindX, ap_bindB, ap_ret, ap_fail, ap_ofO, ap_ofON, ap_eC, ap_sq, ap_then, ap_thenR, ap_thenO, ap_thenX, ap_sB, ap_s, ap_sX, ap_sNil, ap_if, ap_ifS, ap_asBl, ap_tru, ap_add, ap_sub, ap_neg, ap_lt, ap_le, ap_gt, ap_ge, ap_eqI, ap_neI, runBody, env0, ioOs, bors, sIf, tv, tt, e2, e1, eIf, eTup, eLst, aCons, aNil, sRet, sRetN, sAsg, putV, sPar, tAndF, tOrF, tNotF, eLoc, sExpr, gTupF, gConsF, gNilF, hc]⟩) (by rw [rng_len]; exact sz_big _ (by omega))
  rw [rng_len] at h1
  refine ⟨ns, o2, by omega, by omega, h2, h3, ?_⟩
  unfold s2_law_is_right
  simp [ap_bnd, ap_bind, ap_bindX, ap_bindB, ap_ret, ap_fail, ap_ofO, ap_ofON, ap_eC, ap_sq, ap_then, ap_thenR, ap_thenO, ap_thenX, ap_sB, ap_s, ap_sX, ap_sNil, ap_if, ap_ifS, ap_asBl, ap_tru, ap_add, ap_sub, ap_neg, ap_lt, ap_le, ap_gt, ap_ge, ap_eqI, ap_neI, ap_rdV, ap_bCons, ap_bNil, ap_rdS, ap_rdG, ap_rdGs, ap_eCall, ap_oCall, ap_eFrz, ap_eFn, ap_oFn, ap_eSl, ap_pNone, ap_e2B, ap_sAsgO, ap_sPar, ap_e2, ap_e1, ap_tv, ap_tt, ap_tAnd, ap_tOr, ap_tNot, ap_eNot, ap_eAnd, ap_eOr, ap_eIf, ap_eChain, ap_aNil, ap_aCons, ap_eTup, ap_eLst, ap_oLst, ap_sExpr, ap_sRet, ap_sRetN, ap_sRetO, ap_sIf, ap_sAsg, ap_sFor, ap_iSeq, ap_iArgs, ap_pInt, ap_eIsi, ap_sRaise0, ap_eDic0, ap_gTup, ap_gCons, ap_gNil, le_sz, callK, argsOf, slotsOf, osets, oset, gets, Rd.get, putV, putO, eLoc, OO.fr, h4, tupleD, vs, E]
end K44

set_option maxRecDepth 100000
namespace K44
open PySem L2 Cs
theorem turn_bd (t b : Int) (M : Int) (h1 : 1 ≤ M) (ht : -M ≤ t ∧ t ≤ M) (hb : -M ≤ b ∧ b ≤ M) : (-M ≤ (turn1 t b).1 ∧ (turn1 t b).1 ≤ M) ∧ (-M ≤ (turn1 t b).2 ∧ (turn1 t b).2 ≤ M) := by
  unfold turn1
  by_cases h0 : t = 0
  · rw [if_pos h0]; dsimp only; omega
  · by_cases h2 : t > 0
    · rw [if_neg h0, if_pos h2]; dsimp only; omega
    · rw [if_neg h0, if_neg h2]; dsimp only; omega
theorem raw_bd : ∀ (r : List Int) (k : Nat) (t b M : Int), (∀ n ∈ r, n.natAbs ≤ 5) → 1 ≤ M → (-M ≤ t ∧ t ≤ M) → (-M ≤ b ∧ b ≤ M) → (-(M * 6 ^ r.length) ≤ (raw (k + 1) r t b).1 ∧ (raw (k + 1) r t b).1 ≤ M * 6 ^ r.length) ∧ (-(M * 6 ^ r.length) ≤ (raw (k + 1) r t b).2 ∧ (raw (k + 1) r t b).2 ≤ M * 6 ^ r.length)
  | [], k, t, b, M, _, _, ht, hb => by
    show (-(M * 1) ≤ t ∧ t ≤ M * 1) ∧ (-(M * 1) ≤ b ∧ b ≤ M * 1)
    omega
  | m :: r, k, t, b, M, h, h1, ht, hb => by
    rw [raw_cons]
    obtain ⟨a1, a2⟩ := turn_bd t b M h1 ht hb
    have hm := h m (by simp)
    generalize (turn1 t b).1 = t' at *
    generalize (turn1 t b).2 = b' at *
    have hmb : -(5 * M) ≤ m * b' ∧ m * b' ≤ 5 * M := by
      have e : (m * b').natAbs = m.natAbs * b'.natAbs := Int.natAbs_mul m b'
      have hb' : b'.natAbs ≤ M.natAbs := by omega
      have : m.natAbs * b'.natAbs ≤ 5 * M.natAbs := Nat.mul_le_mul hm hb'
      omega
    have k1 := raw_bd r (k + 1) (t' + m * b') b' (M * 6) (fun n hn => h n (List.mem_cons_of_mem _ hn)) (by omega) (by omega) (by omega)
    have e6 : M * 6 * 6 ^ r.length = M * 6 ^ (m :: r).length := by
      rw [List.length_cons, Int.pow_succ, Int.mul_assoc, Int.mul_comm 6]
    rw [e6] at k1
    exact k1
theorem frac_bd : ∀ (ns : List Int), 1 ≤ ns.length → ns.length ≤ 6 → (∀ n ∈ ns, n.natAbs ≤ 5) → (frac ns).1.natAbs < 10 ^ 12 ∧ (frac ns).2.natAbs < 10 ^ 12
  | [], h, _, _ => by simp at h
  | n :: r, _, h2, h => by
    rw [frac_raw]
    have hn := h n (by simp)
    have k := raw_bd r 0 n 1 5 (fun n hn => h n (List.mem_cons_of_mem _ hn)) (by omega) (by omega) (by omega)
    have hl : (6 : Int) ^ r.length ≤ 6 ^ 5 := by
      have : r.length ≤ 5 := by simp at h2; omega
      exact_mod_cast Nat.pow_le_pow_right (by decide) this
    have e5 : (6 : Int) ^ 5 = 7776 := by decide
    rw [e5] at hl
    generalize (6 : Int) ^ r.length = L at *
    have k : (-(5 * L) ≤ (raw 1 r n 1).1 ∧ (raw 1 r n 1).1 ≤ 5 * L) ∧ (-(5 * L) ≤ (raw 1 r n 1).2 ∧ (raw 1 r n 1).2 ≤ 5 * L) := k
    omega
abbrev fr (ns : List Int) : D := .tup [.int (frac ns).1, .int (frac ns).2]
theorem fr_repr (ns : List Int) (h1 : 1 ≤ ns.length) (h2 : ns.length ≤ 6) (h : ∀ n ∈ ns, n.natAbs ≤ 5) : ∃ t, reprD [fr ns] = some (.str t) := by
  obtain ⟨a, b⟩ := frac_bd ns h1 h2 h
  exact repr_ok (by simp [rOk, rOks, a, b]) (by show 40 + 1 + (40 + 1 + 0) ≤ _; decide)
theorem v_law_fr (ns : List Int) (h1 : 1 ≤ ns.length) (h : ∀ n ∈ ns, n.natAbs ≤ 5) : f_law_fraction [.val (.tup (ns.map D.int))] = .val (fr ns) [] := by
  cases ns with
  | nil => simp at h1
  | cons n r => exact v_law_fraction n r (small64 h)
section
variable (o : OO) (ns ms : List Int) (h1 : 1 ≤ ns.length) (h2 : ns.length ≤ 6) (h : ∀ n ∈ ns, n.natAbs ≤ 5) (k1 : 1 ≤ ms.length) (k2 : ms.length ≤ 3) (k : ∀ n ∈ ms, n.natAbs ≤ 5)
include h1 h2 h k1 k2 k
theorem s3_ok : s3_law_is_right (E o none (some (.tup (ms.map D.int))) none none none none none none none (some (.tup (ns.map D.int)))) = .next (E o none (some (.tup (ms.map D.int))) (some (fr ns)) (some (fr ms)) none none none none none (some (.tup (ns.map D.int)))) := by
  have a1 := v_law_fr ns h1 h
  have a2 := v_law_fr ms k1 k
  unfold s3_law_is_right
  generalize D.tup (ns.map D.int) = T at *
  generalize D.tup (ms.map D.int) = U at *
  generalize fr ns = p at *
  generalize fr ms = q at *
  simp [ap_bnd, ap_bind, ap_bindX, ap_bindB, ap_ret, ap_fail, ap_ofO, ap_ofON, ap_eC, ap_sq, ap_then, ap_thenR, ap_thenO, ap_thenX, ap_sB, ap_s, ap_sX, ap_sNil, ap_if, ap_ifS, ap_asBl, ap_tru, ap_add, ap_sub, ap_neg, ap_lt, ap_le, ap_gt, ap_ge, ap_eqI, ap_neI, ap_rdV, ap_bCons, ap_bNil, ap_rdS, ap_rdG, ap_rdGs, ap_eCall, ap_oCall, ap_eFrz, ap_eFn, ap_oFn, ap_eSl, ap_pNone, ap_e2B, ap_sAsgO, ap_sPar, ap_e2, ap_e1, ap_tv, ap_tt, ap_tAnd, ap_tOr, ap_tNot, ap_eNot, ap_eAnd, ap_eOr, ap_eIf, ap_eChain, ap_aNil, ap_aCons, ap_eTup, ap_eLst, ap_oLst, ap_sExpr, ap_sRet, ap_sRetN, ap_sRetO, ap_sIf, ap_sAsg, ap_sFor, ap_iSeq, ap_iArgs, ap_pInt, ap_eIsi, ap_sRaise0, ap_eDic0, ap_gTup, ap_gCons, ap_gNil, le_sz, callK, argsOf, slotsOf, osets, oset, gets, Rd.get, putV, putO, eLoc, OO.fr, a1, a2, vs, E]
theorem s4_ok : s4_law_is_right (E o none (some (.tup (ms.map D.int))) (some (fr ns)) (some (fr ms)) none none none none none (some (.tup (ns.map D.int)))) = .next (E o none (some (.tup (ms.map D.int))) (some (fr ns)) (some (fr ms)) none none none none none (some (.tup (ns.map D.int)))) := by
  have a1 := v_fraction ns h1 h2 h
  have a2 := v_same ns ms h1 h2 h k1 (by omega) k
  obtain ⟨t, ht⟩ := fr_repr ns h1 h2 h
  have e1 : eqD (fr ns) (fr ms) = some (.bl (sameF ns ms)) := eq_pair _ _ _ _
  have e2 : ∃ t, reprD [D.bl (sameF ns ms)] = some (.str t) := repr_ok rfl (by show 0 ≤ _; omega)
  obtain ⟨t2, ht2⟩ := e2
  unfold s4_law_is_right
  have hfr : D.tup [.int (frac ns).1, .int (frac ns).2] = fr ns := rfl
  rw [hfr] at a1
  generalize D.tup (ns.map D.int) = T at *
  generalize D.tup (ms.map D.int) = U at *
  generalize fr ns = p at *
  generalize fr ms = q at *
  simp [ap_bnd, ap_bind, ap_bindX, ap_bindB, ap_ret, ap_fail, ap_ofO, ap_ofON, ap_eC, ap_sq, ap_then, ap_thenR, ap_thenO, ap_thenX, ap_sB, ap_s, ap_sX, ap_sNil, ap_if, ap_ifS, ap_asBl, ap_tru, ap_add, ap_sub, ap_neg, ap_lt, ap_le, ap_gt, ap_ge, ap_eqI, ap_neI, ap_rdV, ap_bCons, ap_bNil, ap_rdS, ap_rdG, ap_rdGs, ap_eCall, ap_oCall, ap_eFrz, ap_eFn, ap_oFn, ap_eSl, ap_pNone, ap_e2B, ap_sAsgO, ap_sPar, ap_e2, ap_e1, ap_tv, ap_tt, ap_tAnd, ap_tOr, ap_tNot, ap_eNot, ap_eAnd, ap_eOr, ap_eIf, ap_eChain, ap_aNil, ap_aCons, ap_eTup, ap_eLst, ap_oLst, ap_sExpr, ap_sRet, ap_sRetN, ap_sRetO, ap_sIf, ap_sAsg, ap_sFor, ap_iSeq, ap_iArgs, ap_pInt, ap_eIsi, ap_sRaise0, ap_eDic0, ap_gTup, ap_gCons, ap_gNil, le_sz, callK, argsOf, slotsOf, osets, oset, gets, Rd.get, putV, putO, eLoc, OO.fr, a1, a2, ht, e1, ht2, neStr1, vs, E]
theorem s5_ok (U p q : D) : s5_law_is_right (E o none (some U) (some p) (some q) none none none none none (some (.tup (ns.map D.int)))) = .next (E o none (some U) (some p) (some q) (some (.tup ((ns.map (0 - ·)).map D.int))) none none none none (some (.tup (ns.map D.int)))) := by
  have hl := oLc_map (i := 11) (fi := iSeq (eLoc 10)) (f := (e2 subD (eC (.int 0)) (eLoc 11))) (g := fun d => match d with | .int i => .int (0 - i) | _ => .non) (ds := ns.map D.int) (e0 := E o none (some U) (some p) (some q) none none none none none (some (.tup (ns.map D.int)))) (e1 := E o none (some U) (some p) (some q) none none none none none (some (.tup (ns.map D.int)))) rfl rfl (by rw [List.length_map]; exact sz_big _ (by omega)) (fun d hd => by
    obtain ⟨n, _, rfl⟩ := List.mem_map.mp hd
    simp [ap_bnd, ap_bind, ap_bindX, ap_bindB, ap_ret, ap_fail, ap_ofO, ap_ofON, ap_eC, ap_sq, ap_then, ap_thenR, ap_thenO, ap_thenX, ap_sB, ap_s, ap_sX, ap_sNil, ap_if, ap_ifS, ap_asBl, ap_tru, ap_add, ap_sub, ap_neg, ap_lt, ap_le, ap_gt, ap_ge, ap_eqI, ap_neI, ap_rdV, ap_bCons, ap_bNil, ap_rdS, ap_rdG, ap_rdGs, ap_eCall, ap_oCall, ap_eFrz, ap_eFn, ap_oFn, ap_eSl, ap_pNone, ap_e2B, ap_sAsgO, ap_sPar, ap_e2, ap_e1, ap_tv, ap_tt, ap_tAnd, ap_tOr, ap_tNot, ap_eNot, ap_eAnd, ap_eOr, ap_eIf, ap_eChain, ap_aNil, ap_aCons, ap_eTup, ap_eLst, ap_oLst, ap_sExpr, ap_sRet, ap_sRetN, ap_sRetO, ap_sIf, ap_sAsg, ap_sFor, ap_iSeq, ap_iArgs, ap_pInt, ap_eIsi, ap_sRaise0, ap_eDic0, ap_gTup, ap_gCons, ap_gNil, le_sz, callK, argsOf, slotsOf, osets, oset, gets, Rd.get, putV, putO, eLoc, OO.fr, vs, E])
  have hm : (ns.map D.int).map (fun d => match d with | .int i => .int (0 - i) | _ => .non) = (ns.map (0 - ·)).map D.int := by simp
  rw [hm] at hl
  unfold s5_law_is_right
  generalize (ns.map (0 - ·)).map D.int = N at *
  generalize ns.map D.int = T at *
  simp only [E, vs, Option.map] at hl ⊢
  simp [ap_bnd, ap_bind, ap_bindX, ap_bindB, ap_ret, ap_fail, ap_ofO, ap_ofON, ap_eC, ap_sq, ap_then, ap_thenR, ap_thenO, ap_thenX, ap_sB, ap_s, ap_sX, ap_sNil, ap_if, ap_ifS, ap_asBl, ap_tru, ap_add, ap_sub, ap_neg, ap_lt, ap_le, ap_gt, ap_ge, ap_eqI, ap_neI, ap_rdV, ap_bCons, ap_bNil, ap_rdS, ap_rdG, ap_rdGs, ap_eCall, ap_oCall, ap_eFrz, ap_eFn, ap_oFn, ap_eSl, ap_pNone, ap_e2B, ap_sAsgO, ap_sPar, ap_e2, ap_e1, ap_tv, ap_tt, ap_tAnd, ap_tOr, ap_tNot, ap_eNot, ap_eAnd, ap_eOr, ap_eIf, ap_eChain, ap_aNil, ap_aCons, ap_eTup, ap_eLst, ap_oLst, ap_sExpr, ap_sRet, ap_sRetN, ap_sRetO, ap_sIf, ap_sAsg, ap_sFor, ap_iSeq, ap_iArgs, ap_pInt, ap_eIsi, ap_sRaise0, ap_eDic0, ap_gTup, ap_gCons, ap_gNil, le_sz, callK, argsOf, slotsOf, osets, oset, gets, Rd.get, putV, putO, eLoc, OO.fr, hl, tupleD]
theorem s6_ok (U q : D) (T : D) : s6_law_is_right (E o none (some U) (some (fr ns)) (some q) (some (.tup ((ns.map (0 - ·)).map D.int))) none none none none (some T)) = .next (E o none (some U) (some (fr ns)) (some q) (some (.tup ((ns.map (0 - ·)).map D.int))) none none none none (some T)) := by
  have hneg : ∀ n ∈ ns.map (0 - ·), n.natAbs ≤ 5 := fun x hx => by
    obtain ⟨n, hn, rfl⟩ := List.mem_map.mp hx
    have := h n hn
    omega
  have a1 := v_fraction (ns.map (0 - ·)) (by simpa using h1) (by simpa using h2) hneg
  have ne1 : neD (fr ns) (.tup [.int 1, .int 0]) = some (.bl (!(decide ((frac ns).1 = 1) && decide ((frac ns).2 = 0)))) := ne_of_eq (eq_pair _ _ _ _)
  have ix0 : ixD (fr ns) (.int 0) = some (.int (frac ns).1) := rfl
  have ix1 : ixD (fr ns) (.int 1) = some (.int (frac ns).2) := rfl
  unfold s6_law_is_right
  by_cases hz : frac ns = (1, 0)
  · rw [hz] at ne1
    have hfr : fr ns = .tup [.int 1, .int 0] := by unfold fr; rw [hz]
    generalize fr ns = p at *
    generalize D.tup ((ns.map (0 - ·)).map D.int) = N at *
    simp [ap_bnd, ap_bind, ap_bindX, ap_bindB, ap_ret, ap_fail, ap_ofO, ap_ofON, ap_eC, ap_sq, ap_then, ap_thenR, ap_thenO, ap_thenX, ap_sB, ap_s, ap_sX, ap_sNil, ap_if, ap_ifS, ap_asBl, ap_tru, ap_add, ap_sub, ap_neg, ap_lt, ap_le, ap_gt, ap_ge, ap_eqI, ap_neI, ap_rdV, ap_bCons, ap_bNil, ap_rdS, ap_rdG, ap_rdGs, ap_eCall, ap_oCall, ap_eFrz, ap_eFn, ap_oFn, ap_eSl, ap_pNone, ap_e2B, ap_sAsgO, ap_sPar, ap_e2, ap_e1, ap_tv, ap_tt, ap_tAnd, ap_tOr, ap_tNot, ap_eNot, ap_eAnd, ap_eOr, ap_eIf, ap_eChain, ap_aNil, ap_aCons, ap_eTup, ap_eLst, ap_oLst, ap_sExpr, ap_sRet, ap_sRetN, ap_sRetO, ap_sIf, ap_sAsg, ap_sFor, ap_iSeq, ap_iArgs, ap_pInt, ap_eIsi, ap_sRaise0, ap_eDic0, ap_gTup, ap_gCons, ap_gNil, le_sz, callK, argsOf, slotsOf, osets, oset, gets, Rd.get, putV, putO, eLoc, OO.fr, ne1, vs, E]
  · have hz' : (!(decide ((frac ns).1 = 1) && decide ((frac ns).2 = 0))) = true := by
      have : ¬ ((frac ns).1 = 1 ∧ (frac ns).2 = 0) := fun z => hz (Prod.ext z.1 z.2)
      rw [← Bool.decide_and, decide_eq_false this]; rfl
    rw [hz'] at ne1
    have hneg2 : frac (ns.map (0 - ·)) = (0 - (frac ns).1, (frac ns).2) := by
      cases ns with
      | nil => simp at h1
      | cons n r => exact frac_neg n r hz
    rw [hneg2] at a1
    have ne2 : neD (.tup [.int (0 - (frac ns).1), .int (frac ns).2]) (.tup [.int (0 - (frac ns).1), .int (frac ns).2]) = some (.bl false) := by
      have := ne_of_eq (eq_pair (0 - (frac ns).1) (frac ns).2 (0 - (frac ns).1) (frac ns).2)
      simpa using this
    generalize hX : fr ns = p at *
    generalize D.tup ((ns.map (0 - ·)).map D.int) = N at *
    simp only [Int.zero_sub] at a1 ne2
    simp [ap_bnd, ap_bind, ap_bindX, ap_bindB, ap_ret, ap_fail, ap_ofO, ap_ofON, ap_eC, ap_sq, ap_then, ap_thenR, ap_thenO, ap_thenX, ap_sB, ap_s, ap_sX, ap_sNil, ap_if, ap_ifS, ap_asBl, ap_tru, ap_add, ap_sub, ap_neg, ap_lt, ap_le, ap_gt, ap_ge, ap_eqI, ap_neI, ap_rdV, ap_bCons, ap_bNil, ap_rdS, ap_rdG, ap_rdGs, ap_eCall, ap_oCall, ap_eFrz, ap_eFn, ap_oFn, ap_eSl, ap_pNone, ap_e2B, ap_sAsgO, ap_sPar, ap_e2, ap_e1, ap_tv, ap_tt, ap_tAnd, ap_tOr, ap_tNot, ap_eNot, ap_eAnd, ap_eOr, ap_eIf, ap_eChain, ap_aNil, ap_aCons, ap_eTup, ap_eLst, ap_oLst, ap_sExpr, ap_sRet, ap_sRetN, ap_sRetO, ap_sIf, ap_sAsg, ap_sFor, ap_iSeq, ap_iArgs, ap_pInt, ap_eIsi, ap_sRaise0, ap_eDic0, ap_gTup, ap_gCons, ap_gNil, le_sz, callK, argsOf, slotsOf, osets, oset, gets, Rd.get, putV, putO, eLoc, OO.fr, ne1, a1, ix0, ix1, ne2, vs, E]
end
end K44

set_option maxRecDepth 100000
namespace K44
open PySem L2 Cs
theorem sp (ns : List Int) (a : Int) (h0 : 0 ≤ a) (h1 : a < ns.length) : ∃ x, x ∈ ns ∧ ns[a.toNat]? = some x ∧ ns = ns.take a.toNat ++ x :: ns.drop (a.toNat + 1) := by
  have hl : a.toNat < ns.length := by omega
  refine ⟨ns[a.toNat], List.getElem_mem hl, List.getElem?_eq_getElem hl, ?_⟩
  rw [← List.drop_eq_getElem_cons hl, List.take_append_drop]
section
variable (ns : List Int) (h1 : 1 ≤ ns.length) (h2 : ns.length ≤ 6) (h : ∀ n ∈ ns, n.natAbs ≤ 5) (U p q b : D)
include h1 h2 h
theorem s7_ok (o : OO) (ho : HandOk o) : ∃ (a : Int) (o' : OO), 0 ≤ a ∧ a < ns.length ∧ HandOk o' ∧
    s7_law_is_right (E o none (some U) (some p) (some q) (some b) none none none none (some (.tup (ns.map D.int)))) = .next (E o' (some (.int a)) (some U) (some p) (some q) (some b) none none none none (some (.tup (ns.map D.int)))) := by
  have hl : (ns.map D.int).length = ns.length := by simp
  obtain ⟨k, o', hk, hk2, ho', hd⟩ := v_draw o ho ns.length (by omega) (by omega)
  refine ⟨k, o', hk, hk2, ho', ?_⟩
  unfold s7_law_is_right
  generalize ns.map D.int = T at *
  simp [ap_bnd, ap_bind, ap_bindX, ap_bindB, ap_ret, ap_fail, ap_ofO, ap_ofON, ap_eC, ap_sq, ap_then, ap_thenR, ap_thenO, ap_thenX, ap_sB, ap_s, ap_sX, ap_sNil, ap_if, ap_ifS, ap_asBl, ap_tru, ap_add, ap_sub, ap_neg, ap_lt, ap_le, ap_gt, ap_ge, ap_eqI, ap_neI, ap_rdV, ap_bCons, ap_bNil, ap_rdS, ap_rdG, ap_rdGs, ap_eCall, ap_oCall, ap_eFrz, ap_eFn, ap_oFn, ap_eSl, ap_pNone, ap_e2B, ap_sAsgO, ap_sPar, ap_e2, ap_e1, ap_tv, ap_tt, ap_tAnd, ap_tOr, ap_tNot, ap_eNot, ap_eAnd, ap_eOr, ap_eIf, ap_eChain, ap_aNil, ap_aCons, ap_eTup, ap_eLst, ap_oLst, ap_sExpr, ap_sRet, ap_sRetN, ap_sRetO, ap_sIf, ap_sAsg, ap_sFor, ap_iSeq, ap_iArgs, ap_pInt, ap_eIsi, ap_sRaise0, ap_eDic0, ap_gTup, ap_gCons, ap_gNil, le_sz, callK, argsOf, slotsOf, osets, oset, gets, Rd.get, putV, putO, eLoc, OO.fr, hl, lenT, hd, vs, E]
omit h in
theorem s8_ok (o : OO) (a : Int) (ha : 0 ≤ a) (ha2 : a < ns.length) : s8_law_is_right (E o (some (.int a)) (some U) (some p) (some q) (some b) none none none none (some (.tup (ns.map D.int)))) =
    .next (E o (some (.int a)) (some U) (some p) (some q) (some b) (some (.tup ((ns.take a.toNat).map D.int))) (some (.tup ((ns.drop (a.toNat + 1)).map D.int))) none none (some (.tup (ns.map D.int)))) := by
  have e1 : cutD (ns.map D.int) none (some a) = (ns.take a.toNat).map D.int := by rw [cut_take ha (by simp; omega), List.map_take]
  have e2 : cutD (ns.map D.int) (some (a + 1)) none = (ns.drop (a.toNat + 1)).map D.int := by
    rw [cut_drop (by omega) (by simp; omega), List.map_drop]
    congr 1; omega
  unfold s8_law_is_right
  generalize ns.map D.int = T at *
  generalize (ns.take a.toNat).map D.int = L at *
  generalize (ns.drop (a.toNat + 1)).map D.int = R at *
  simp [ap_bnd, ap_bind, ap_bindX, ap_bindB, ap_ret, ap_fail, ap_ofO, ap_ofON, ap_eC, ap_sq, ap_then, ap_thenR, ap_thenO, ap_thenX, ap_sB, ap_s, ap_sX, ap_sNil, ap_if, ap_ifS, ap_asBl, ap_tru, ap_add, ap_sub, ap_neg, ap_lt, ap_le, ap_gt, ap_ge, ap_eqI, ap_neI, ap_rdV, ap_bCons, ap_bNil, ap_rdS, ap_rdG, ap_rdGs, ap_eCall, ap_oCall, ap_eFrz, ap_eFn, ap_oFn, ap_eSl, ap_pNone, ap_e2B, ap_sAsgO, ap_sPar, ap_e2, ap_e1, ap_tv, ap_tt, ap_tAnd, ap_tOr, ap_tNot, ap_eNot, ap_eAnd, ap_eOr, ap_eIf, ap_eChain, ap_aNil, ap_aCons, ap_eTup, ap_eLst, ap_oLst, ap_sExpr, ap_sRet, ap_sRetN, ap_sRetO, ap_sIf, ap_sAsg, ap_sFor, ap_iSeq, ap_iArgs, ap_pInt, ap_eIsi, ap_sRaise0, ap_eDic0, ap_gTup, ap_gCons, ap_gNil, le_sz, callK, argsOf, slotsOf, osets, oset, gets, Rd.get, putV, putO, eLoc, OO.fr, slT, e1, e2, vs, E]
omit h1 h2 h in
theorem s9_ok (o : OO) (ho : HandOk o) (a l r T : D) : ∃ (x : Int) (o' : OO), x.natAbs ≤ 5 ∧ HandOk o' ∧ s9_law_is_right (E o (some a) (some U) (some p) (some q) (some b) (some l) (some r) none none (some T)) = .next (E o' (some a) (some U) (some p) (some q) (some b) (some l) (some r) (some (.int x)) none (some T)) := by
  obtain ⟨k, o', hk, hk2, ho', hd⟩ := v_draw o ho 11 (by omega) (by omega)
  refine ⟨k - 5, o', by omega, ho', ?_⟩
  unfold s9_law_is_right
  simp [ap_bnd, ap_bind, ap_bindX, ap_bindB, ap_ret, ap_fail, ap_ofO, ap_ofON, ap_eC, ap_sq, ap_then, ap_thenR, ap_thenO, ap_thenX, ap_sB, ap_s, ap_sX, ap_sNil, ap_if, ap_ifS, ap_asBl, ap_tru, ap_add, ap_sub, ap_neg, ap_lt, ap_le, ap_gt, ap_ge, ap_eqI, ap_neI, ap_rdV, ap_bCons, ap_bNil, ap_rdS, ap_rdG, ap_rdGs, ap_eCall, ap_oCall, ap_eFrz, ap_eFn, ap_oFn, ap_eSl, ap_pNone, ap_e2B, ap_sAsgO, ap_sPar, ap_e2, ap_e1, ap_tv, ap_tt, ap_tAnd, ap_tOr, ap_tNot, ap_eNot, ap_eAnd, ap_eOr, ap_eIf, ap_eChain, ap_aNil, ap_aCons, ap_eTup, ap_eLst, ap_oLst, ap_sExpr, ap_sRet, ap_sRetN, ap_sRetO, ap_sIf, ap_sAsg, ap_sFor, ap_iSeq, ap_iArgs, ap_pInt, ap_eIsi, ap_sRaise0, ap_eDic0, ap_gTup, ap_gCons, ap_gNil, le_sz, callK, argsOf, slotsOf, osets, oset, gets, Rd.get, putV, putO, eLoc, OO.fr, hd, vs, E]
theorem s10_ok (o : OO) (a y : Int) (ha : 0 ≤ a) (ha2 : a < ns.length) (hy : y.natAbs ≤ 5) : s10_law_is_right (E o (some (.int a)) (some U) (some p) (some q) (some b) (some (.tup ((ns.take a.toNat).map D.int))) (some (.tup ((ns.drop (a.toNat + 1)).map D.int))) (some (.int y)) none (some (.tup (ns.map D.int)))) =
    .next (E o (some (.int a)) (some U) (some p) (some q) (some b) (some (.tup ((ns.take a.toNat).map D.int))) (some (.tup ((ns.drop (a.toNat + 1)).map D.int))) (some (.int y)) none (some (.tup (ns.map D.int)))) := by
  obtain ⟨x, hx, hix, hsp⟩ := sp ns a ha ha2
  have hl : (ns.map D.int).length = ns.length := by simp
  have hix' : ixD (.tup (ns.map D.int)) (.int a) = some (.int x) := ixT ha (by rw [List.getElem?_map, hix]; rfl)
  by_cases c1 : (ns.length : Int) < 5
  · by_cases c2 : -5 ≤ x - y
    · by_cases c3 : x - y ≤ 5
      · -- the case itself
        have ht : (ns.take a.toNat).length + (ns.drop (a.toNat + 1)).length + 1 = ns.length := by simp; omega
        have m1 : ∀ n ∈ ns.take a.toNat ++ (x - y) :: 0 :: y :: ns.drop (a.toNat + 1), n.natAbs ≤ 5 := fun n hn => by
          rcases List.mem_append.mp hn with hn | hn
          · exact h n (List.mem_of_mem_take hn)
          · rcases List.mem_cons.mp hn with rfl | hn
            · omega
            · rcases List.mem_cons.mp hn with rfl | hn
              · decide
              · rcases List.mem_cons.mp hn with rfl | hn
                · exact hy
                · exact h n (List.mem_of_mem_drop hn)
        have hs := v_same (ns.take a.toNat ++ (x - y) :: 0 :: y :: ns.drop (a.toNat + 1)) ns (by simp; omega) (by simp; omega) m1 h1 h2 h
        have hf : frac (ns.take a.toNat ++ (x - y) :: 0 :: y :: ns.drop (a.toNat + 1)) = frac ns := by
          rw [frac_mid]; rw [← hsp]
        have hsame : sameF (ns.take a.toNat ++ (x - y) :: 0 :: y :: ns.drop (a.toNat + 1)) ns = true := by
          unfold sameF; rw [hf]; simp
        rw [hsame] at hs
        have a1 : addD (.tup ((ns.take a.toNat).map D.int)) (.tup [.int (x - y), .int 0, .int y]) = some (.tup ((ns.take a.toNat).map D.int ++ [.int (x - y), .int 0, .int y])) := addT (by simp; omega)
        have a2 : addD (.tup ((ns.take a.toNat).map D.int ++ [.int (x - y), .int 0, .int y])) (.tup ((ns.drop (a.toNat + 1)).map D.int)) = some (.tup ((ns.take a.toNat ++ (x - y) :: 0 :: y :: ns.drop (a.toNat + 1)).map D.int)) := by
          rw [addT (by simp; omega)]
          simp
        unfold s10_law_is_right
        have hlen : lenD [.tup (ns.map D.int)] = some (.int ns.length) := by rw [lenT, hl]
        generalize D.tup ((ns.take a.toNat).map D.int ++ [.int (x - y), .int 0, .int y]) = LM at *
        generalize D.tup ((ns.take a.toNat ++ (x - y) :: 0 :: y :: ns.drop (a.toNat + 1)).map D.int) = FU at *
        generalize D.tup (ns.map D.int) = T at *
        generalize D.tup ((ns.take a.toNat).map D.int) = L at *
        generalize D.tup ((ns.drop (a.toNat + 1)).map D.int) = R at *
        simp [ap_bnd, ap_bind, ap_bindX, ap_bindB, ap_ret, ap_fail, ap_ofO, ap_ofON, ap_eC, ap_sq, ap_then, ap_thenR, ap_thenO, ap_thenX, ap_sB, ap_s, ap_sX, ap_sNil, ap_if, ap_ifS, ap_asBl, ap_tru, ap_add, ap_sub, ap_neg, ap_lt, ap_le, ap_gt, ap_ge, ap_eqI, ap_neI, ap_rdV, ap_bCons, ap_bNil, ap_rdS, ap_rdG, ap_rdGs, ap_eCall, ap_oCall, ap_eFrz, ap_eFn, ap_oFn, ap_eSl, ap_pNone, ap_e2B, ap_sAsgO, ap_sPar, ap_e2, ap_e1, ap_tv, ap_tt, ap_tAnd, ap_tOr, ap_tNot, ap_eNot, ap_eAnd, ap_eOr, ap_eIf, ap_eChain, ap_aNil, ap_aCons, ap_eTup, ap_eLst, ap_oLst, ap_sExpr, ap_sRet, ap_sRetN, ap_sRetO, ap_sIf, ap_sAsg, ap_sFor, ap_iSeq, ap_iArgs, ap_pInt, ap_eIsi, ap_sRaise0, ap_eDic0, ap_gTup, ap_gCons, ap_gNil, le_sz, callK, argsOf, slotsOf, osets, oset, gets, Rd.get, putV, putO, eLoc, OO.fr, hlen, c1, hix', c2, c3, a1, a2, hs, isnotD, vs, E]
      · unfold s10_law_is_right
        generalize ns.map D.int = T at *
        simp [ap_bnd, ap_bind, ap_bindX, ap_bindB, ap_ret, ap_fail, ap_ofO, ap_ofON, ap_eC, ap_sq, ap_then, ap_thenR, ap_thenO, ap_thenX, ap_sB, ap_s, ap_sX, ap_sNil, ap_if, ap_ifS, ap_asBl, ap_tru, ap_add, ap_sub, ap_neg, ap_lt, ap_le, ap_gt, ap_ge, ap_eqI, ap_neI, ap_rdV, ap_bCons, ap_bNil, ap_rdS, ap_rdG, ap_rdGs, ap_eCall, ap_oCall, ap_eFrz, ap_eFn, ap_oFn, ap_eSl, ap_pNone, ap_e2B, ap_sAsgO, ap_sPar, ap_e2, ap_e1, ap_tv, ap_tt, ap_tAnd, ap_tOr, ap_tNot, ap_eNot, ap_eAnd, ap_eOr, ap_eIf, ap_eChain, ap_aNil, ap_aCons, ap_eTup, ap_eLst, ap_oLst, ap_sExpr, ap_sRet, ap_sRetN, ap_sRetO, ap_sIf, ap_sAsg, ap_sFor, ap_iSeq, ap_iArgs, ap_pInt, ap_eIsi, ap_sRaise0, ap_eDic0, ap_gTup, ap_gCons, ap_gNil, le_sz, callK, argsOf, slotsOf, osets, oset, gets, Rd.get, putV, putO, eLoc, OO.fr, hl, lenT, c1, hix', c2, c3, vs, E]
    · unfold s10_law_is_right
      generalize ns.map D.int = T at *
      simp [ap_bnd, ap_bind, ap_bindX, ap_bindB, ap_ret, ap_fail, ap_ofO, ap_ofON, ap_eC, ap_sq, ap_then, ap_thenR, ap_thenO, ap_thenX, ap_sB, ap_s, ap_sX, ap_sNil, ap_if, ap_ifS, ap_asBl, ap_tru, ap_add, ap_sub, ap_neg, ap_lt, ap_le, ap_gt, ap_ge, ap_eqI, ap_neI, ap_rdV, ap_bCons, ap_bNil, ap_rdS, ap_rdG, ap_rdGs, ap_eCall, ap_oCall, ap_eFrz, ap_eFn, ap_oFn, ap_eSl, ap_pNone, ap_e2B, ap_sAsgO, ap_sPar, ap_e2, ap_e1, ap_tv, ap_tt, ap_tAnd, ap_tOr, ap_tNot, ap_eNot, ap_eAnd, ap_eOr, ap_eIf, ap_eChain, ap_aNil, ap_aCons, ap_eTup, ap_eLst, ap_oLst, ap_sExpr, ap_sRet, ap_sRetN, ap_sRetO, ap_sIf, ap_sAsg, ap_sFor, ap_iSeq, ap_iArgs, ap_pInt, ap_eIsi, ap_sRaise0, ap_eDic0, ap_gTup, ap_gCons, ap_gNil, le_sz, callK, argsOf, slotsOf, osets, oset, gets, Rd.get, putV, putO, eLoc, OO.fr, hl, lenT, c1, hix', c2, vs, E]
  · unfold s10_law_is_right
    generalize ns.map D.int = T at *
    simp [ap_bnd, ap_bind, ap_bindX, ap_bindB, ap_ret, ap_fail, ap_ofO, ap_ofON, ap_eC, ap_sq, ap_then, ap_thenR, ap_thenO, ap_thenX, ap_sB, ap_s, ap_sX, ap_sNil, ap_if, ap_ifS, ap_asBl, ap_tru, ap_add, ap_sub, ap_neg, ap_lt, ap_le, ap_gt, ap_ge, ap_eqI, ap_neI, ap_rdV, ap_bCons, ap_bNil, ap_rdS, ap_rdG, ap_rdGs, ap_eCall, ap_oCall, ap_eFrz, ap_eFn, ap_oFn, ap_eSl, ap_pNone, ap_e2B, ap_sAsgO, ap_sPar, ap_e2, ap_e1, ap_tv, ap_tt, ap_tAnd, ap_tOr, ap_tNot, ap_eNot, ap_eAnd, ap_eOr, ap_eIf, ap_eChain, ap_aNil, ap_aCons, ap_eTup, ap_eLst, ap_oLst, ap_sExpr, ap_sRet, ap_sRetN, ap_sRetO, ap_sIf, ap_sAsg, ap_sFor, ap_iSeq, ap_iArgs, ap_pInt, ap_eIsi, ap_sRaise0, ap_eDic0, ap_gTup, ap_gCons, ap_gNil, le_sz, callK, argsOf, slotsOf, osets, oset, gets, Rd.get, putV, putO, eLoc, OO.fr, hl, lenT, c1, vs, E]
end
end K44

set_option maxRecDepth 100000
namespace K44
open PySem L2 Cs
def Bad (d : D) : Prop := std2 d ∧ turnsOk d = false
theorem bad_end (xs : List D) (y : D) (hx : ∀ x ∈ xs, std x = true) (hy : std y = true) (h : small y = false) : Bad (.tup (xs ++ [y])) := by
  refine ⟨⟨rfl, fun zs e x hx' => ?_⟩, ?_⟩
  · cases e
    rcases List.mem_append.mp hx' with m | m
    · exact hx x m
    · rw [List.mem_singleton.mp m]; exact hy
  · unfold turnsOk
    simp [List.all_append, h]
theorem std_of_ints (ns : List Int) : ∀ x ∈ ns.map D.int, std x = true := fun x hx => by
  obtain ⟨n, _, rfl⟩ := List.mem_map.mp hx
  rfl
def bads (X : List D) (dp : D) : List D := [.non, .tup [], .lst X, .tup (X ++ [.int 6]), .tup (X.take (X.length - 1) ++ [.int (-6)]), .tup (X.take (X.length - 1) ++ [.non]), .tup (X.take (X.length - 1) ++ [.bl true]), .tup (List.replicate 7 (.int 1)), .int 0, .str "12", .dic [], .tup [.str "1"], dp]
theorem bads_bad (ns : List Int) (dp : D) (hd : Deep dp) : ∀ d ∈ bads (ns.map D.int) dp, Bad d := by
  have ht : ∀ x ∈ (ns.map D.int).take ((ns.map D.int).length - 1), std x = true := fun x hx => std_of_ints ns x (List.mem_of_mem_take hx)
  intro d hm
  unfold bads at hm
  simp only [List.mem_cons, List.not_mem_nil, or_false] at hm
  rcases hm with rfl | rfl | rfl | rfl | rfl | rfl | rfl | rfl | rfl | rfl | rfl | rfl | rfl
  · exact ⟨⟨rfl, fun xs e => by cases e⟩, rfl⟩
  · exact ⟨⟨rfl, fun xs e x hx => by cases e; cases hx⟩, rfl⟩
  · exact ⟨⟨rfl, fun xs e => by cases e⟩, rfl⟩
  · exact bad_end _ _ (std_of_ints ns) rfl rfl
  · exact bad_end _ _ ht rfl rfl
  · exact bad_end _ _ ht rfl rfl
  · exact bad_end _ _ ht rfl rfl
  · exact ⟨⟨rfl, fun xs e x hx => by cases e; rw [(List.mem_replicate.mp hx).2]; rfl⟩, rfl⟩
  · exact ⟨⟨rfl, fun xs e => by cases e⟩, rfl⟩
  · exact ⟨⟨rfl, fun xs e => by cases e⟩, rfl⟩
  · exact ⟨⟨rfl, fun xs e => by cases e⟩, rfl⟩
  · exact ⟨⟨rfl, fun xs e x hx => by cases e; rw [List.mem_singleton.mp hx]; rfl⟩, rfl⟩
  · exact ⟨hd.std2, hd.bad⟩
theorem mulT7 : mulD (.tup [.int 1]) (.int 7) = some (.tup (List.replicate 7 (.int 1))) := rfl
theorem slI {xs : List D} : slD (.tup xs) none (some (-1)) = some (.tup (xs.take (xs.length - 1))) := by rw [slT, cut_init]
section
variable (X : List D) (hX : X.length ≤ 6) (U p q b a l r y : D)
include hX
theorem s11_ok (o : OO) : s11_law_is_right (E o (some a) (some U) (some p) (some q) (some b) (some l) (some r) (some y) none (some (.tup X))) =
    .next (E o (some a) (some U) (some p) (some q) (some b) (some l) (some r) (some y) (some (.lst ((bads X .non).take 7))) (some (.tup X))) := by
  have e1 : addD (.tup X) (.tup [.int 6]) = some (.tup (X ++ [.int 6])) := addT (by simp; omega)
  have e2 : ∀ d, addD (.tup (X.take (X.length - 1))) (.tup [d]) = some (.tup (X.take (X.length - 1) ++ [d])) := fun d => addT (by simp; omega)
  have e3 : listO [.tup X] = some (.lst X) := rfl
  have e4 : slD (.tup X) none (some (-1)) = some (.tup (X.take (X.length - 1))) := slI
  unfold s11_law_is_right bads
  generalize D.tup (X ++ [.int 6]) = X6 at *
  generalize X.take (X.length - 1) = Y at *
  simp [ap_bnd, ap_bind, ap_bindX, ap_bindB, ap_ret, ap_fail, ap_ofO, ap_ofON, ap_eC, ap_sq, ap_then, ap_thenR, ap_thenO, ap_thenX, ap_sB, ap_s, ap_sX, ap_sNil, ap_if, ap_ifS, ap_asBl, ap_tru, ap_add, ap_sub, ap_neg, ap_lt, ap_le, ap_gt, ap_ge, ap_eqI, ap_neI, ap_rdV, ap_bCons, ap_bNil, ap_rdS, ap_rdG, ap_rdGs, ap_eCall, ap_oCall, ap_eFrz, ap_eFn, ap_oFn, ap_eSl, ap_pNone, ap_e2B, ap_sAsgO, ap_sPar, ap_e2, ap_e1, ap_tv, ap_tt, ap_tAnd, ap_tOr, ap_tNot, ap_eNot, ap_eAnd, ap_eOr, ap_eIf, ap_eChain, ap_aNil, ap_aCons, ap_eTup, ap_eLst, ap_oLst, ap_sExpr, ap_sRet, ap_sRetN, ap_sRetO, ap_sIf, ap_sAsg, ap_sFor, ap_iSeq, ap_iArgs, ap_pInt, ap_eIsi, ap_sRaise0, ap_eDic0, ap_gTup, ap_gCons, ap_gNil, le_sz, callK, argsOf, slotsOf, osets, oset, gets, Rd.get, putV, putO, eLoc, OO.fr, e1, e2, e3, e4, vs, E]
theorem s12_ok (o : OO) (ho : HandOk o) (ns : List Int) (hns : X = ns.map D.int) : ∃ (d : D) (o' : OO), Bad d ∧ HandOk o' ∧ s12_law_is_right (E o (some a) (some U) (some p) (some q) (some b) (some l) (some r) (some y) (some (.lst ((bads X .non).take 7))) (some (.tup X))) =
    .next (E o' (some a) (some U) (some p) (some q) (some b) (some l) (some r) (some y) (some d) (some (.tup X))) := by
  obtain ⟨dp, o1, hdp, ho1, hd1⟩ := v_deep o ho
  obtain ⟨d, o2, hd, ho2, hd2⟩ := v_any o1 ho1 (bads X dp) (by unfold bads; simp) (by unfold bads; simp)
  have e1 : addD (.lst ((bads X .non).take 7)) (.lst [.tup (List.replicate 7 (.int 1)), .int 0, .str "12", .dic [], .tup [.str "1"], dp]) = some (.lst (bads X dp)) := by
    rw [addL (by unfold bads; simp)]
    rfl
  refine ⟨d, o2, ?_, ho2, ?_⟩
  · subst hns; exact bads_bad ns dp hdp d hd
  · unfold s12_law_is_right
    generalize (bads X .non).take 7 = B7 at *
    generalize bads X dp = BB at *
    generalize hR : List.replicate 7 (D.int 1) = R7 at *
    have m7 : mulD (.tup [.int 1]) (.int 7) = some (.tup R7) := by rw [mulT7, hR]
    simp [ap_bnd, ap_bind, ap_bindX, ap_bindB, ap_ret, ap_fail, ap_ofO, ap_ofON, ap_eC, ap_sq, ap_then, ap_thenR, ap_thenO, ap_thenX, ap_sB, ap_s, ap_sX, ap_sNil, ap_if, ap_ifS, ap_asBl, ap_tru, ap_add, ap_sub, ap_neg, ap_lt, ap_le, ap_gt, ap_ge, ap_eqI, ap_neI, ap_rdV, ap_bCons, ap_bNil, ap_rdS, ap_rdG, ap_rdGs, ap_eCall, ap_oCall, ap_eFrz, ap_eFn, ap_oFn, ap_eSl, ap_pNone, ap_e2B, ap_sAsgO, ap_sPar, ap_e2, ap_e1, ap_tv, ap_tt, ap_tAnd, ap_tOr, ap_tNot, ap_eNot, ap_eAnd, ap_eOr, ap_eIf, ap_eChain, ap_aNil, ap_aCons, ap_eTup, ap_eLst, ap_oLst, ap_sExpr, ap_sRet, ap_sRetN, ap_sRetO, ap_sIf, ap_sAsg, ap_sFor, ap_iSeq, ap_iArgs, ap_pInt, ap_eIsi, ap_sRaise0, ap_eDic0, ap_gTup, ap_gCons, ap_gNil, le_sz, callK, argsOf, slotsOf, osets, oset, gets, Rd.get, putV, putO, eLoc, OO.fr, hd1, hd2, m7, e1, vs, E]
end
theorem ap_eLam (V' : List Nat) (fl : EM D) (gs : R D → R D) (e : Cs.Env) : eLam V' fl gs e = match gs (fl (capE e V')) with | .ok d _ => .ok d e | _ => .bad := rfl
section
variable (ns : List Int) (h1 : 1 ≤ ns.length) (h2 : ns.length ≤ 6) (h : ∀ n ∈ ns, n.natAbs ≤ 5) (U p q b a l r y d : D) (hd : Bad d) (o : OO)
include hd
theorem s13_ok (T : D) : s13_law_is_right (E o (some a) (some U) (some p) (some q) (some b) (some l) (some r) (some y) (some d) (some T)) =
    .next (E o (some a) (some U) (some p) (some q) (some b) (some l) (some r) (some y) (some d) (some T)) := by
  have h1 := v_fraction_bad d hd.1 hd.2
  unfold s13_law_is_right
  simp [ap_bnd, ap_bind, ap_bindX, ap_bindB, ap_ret, ap_fail, ap_ofO, ap_ofON, ap_eC, ap_sq, ap_then, ap_thenR, ap_thenO, ap_thenX, ap_sB, ap_s, ap_sX, ap_sNil, ap_if, ap_ifS, ap_asBl, ap_tru, ap_add, ap_sub, ap_neg, ap_lt, ap_le, ap_gt, ap_ge, ap_eqI, ap_neI, ap_rdV, ap_bCons, ap_bNil, ap_rdS, ap_rdG, ap_rdGs, ap_eCall, ap_oCall, ap_eFrz, ap_eFn, ap_oFn, ap_eSl, ap_pNone, ap_e2B, ap_sAsgO, ap_sPar, ap_e2, ap_e1, ap_tv, ap_tt, ap_tAnd, ap_tOr, ap_tNot, ap_eNot, ap_eAnd, ap_eOr, ap_eIf, ap_eChain, ap_aNil, ap_aCons, ap_eTup, ap_eLst, ap_oLst, ap_sExpr, ap_sRet, ap_sRetN, ap_sRetO, ap_sIf, ap_sAsg, ap_sFor, ap_iSeq, ap_iArgs, ap_pInt, ap_eIsi, ap_sRaise0, ap_eDic0, ap_gTup, ap_gCons, ap_gNil, le_sz, callK, argsOf, slotsOf, osets, oset, gets, Rd.get, putV, putO, eLoc, OO.fr, ap_eLam, capE, h1, v_refused, vs, E]
include h1 h2 h
theorem s14_ok : s14_law_is_right (E o (some a) (some U) (some p) (some q) (some b) (some l) (some r) (some y) (some d) (some (.tup (ns.map D.int)))) =
    .next (E o (some a) (some U) (some p) (some q) (some b) (some l) (some r) (some y) (some d) (some (.tup (ns.map D.int)))) := by
  have h1 := v_same_bad2 ns d h1 h2 h hd.1 hd.2
  unfold s14_law_is_right
  generalize D.tup (ns.map D.int) = T at *
  simp [ap_bnd, ap_bind, ap_bindX, ap_bindB, ap_ret, ap_fail, ap_ofO, ap_ofON, ap_eC, ap_sq, ap_then, ap_thenR, ap_thenO, ap_thenX, ap_sB, ap_s, ap_sX, ap_sNil, ap_if, ap_ifS, ap_asBl, ap_tru, ap_add, ap_sub, ap_neg, ap_lt, ap_le, ap_gt, ap_ge, ap_eqI, ap_neI, ap_rdV, ap_bCons, ap_bNil, ap_rdS, ap_rdG, ap_rdGs, ap_eCall, ap_oCall, ap_eFrz, ap_eFn, ap_oFn, ap_eSl, ap_pNone, ap_e2B, ap_sAsgO, ap_sPar, ap_e2, ap_e1, ap_tv, ap_tt, ap_tAnd, ap_tOr, ap_tNot, ap_eNot, ap_eAnd, ap_eOr, ap_eIf, ap_eChain, ap_aNil, ap_aCons, ap_eTup, ap_eLst, ap_oLst, ap_sExpr, ap_sRet, ap_sRetN, ap_sRetO, ap_sIf, ap_sAsg, ap_sFor, ap_iSeq, ap_iArgs, ap_pInt, ap_eIsi, ap_sRaise0, ap_eDic0, ap_gTup, ap_gCons, ap_gNil, le_sz, callK, argsOf, slotsOf, osets, oset, gets, Rd.get, putV, putO, eLoc, OO.fr, ap_eLam, capE, h1, v_refused, vs, E]
omit h1 h2 h in
theorem s15_ok (T : D) : s15_law_is_right (E o (some a) (some U) (some p) (some q) (some b) (some l) (some r) (some y) (some d) (some T)) =
    .ret (.bl true) (E o (some a) (some U) (some p) (some q) (some b) (some l) (some r) (some y) (some d) (some T)) := by
  have h1 := v_same_bad1 d T hd.1 hd.2
  unfold s15_law_is_right
  simp [ap_bnd, ap_bind, ap_bindX, ap_bindB, ap_ret, ap_fail, ap_ofO, ap_ofON, ap_eC, ap_sq, ap_then, ap_thenR, ap_thenO, ap_thenX, ap_sB, ap_s, ap_sX, ap_sNil, ap_if, ap_ifS, ap_asBl, ap_tru, ap_add, ap_sub, ap_neg, ap_lt, ap_le, ap_gt, ap_ge, ap_eqI, ap_neI, ap_rdV, ap_bCons, ap_bNil, ap_rdS, ap_rdG, ap_rdGs, ap_eCall, ap_oCall, ap_eFrz, ap_eFn, ap_oFn, ap_eSl, ap_pNone, ap_e2B, ap_sAsgO, ap_sPar, ap_e2, ap_e1, ap_tv, ap_tt, ap_tAnd, ap_tOr, ap_tNot, ap_eNot, ap_eAnd, ap_eOr, ap_eIf, ap_eChain, ap_aNil, ap_aCons, ap_eTup, ap_eLst, ap_oLst, ap_sExpr, ap_sRet, ap_sRetN, ap_sRetO, ap_sIf, ap_sAsg, ap_sFor, ap_iSeq, ap_iArgs, ap_pInt, ap_eIsi, ap_sRaise0, ap_eDic0, ap_gTup, ap_gCons, ap_gNil, le_sz, callK, argsOf, slotsOf, osets, oset, gets, Rd.get, putV, putO, eLoc, OO.fr, ap_eLam, capE, h1, v_refused, vs, E]
end
theorem run_next {f g : ES} {e e1 : Cs.Env} (h : f e = .next e1) : sq f g e = g e1 := by rw [ap_sq, h, ap_then]
/-- each round is right -/
theorem v_is_right (o : OO) (ho : HandOk o) : ∃ o', HandOk o' ∧ f_law_is_right [.bor o] = .val (.bl true) [o'] := by
  obtain ⟨ns, o1, n1, n2, n3, ho1, r1⟩ := s1_ok o ho
  obtain ⟨ms, o2, m1, m2, m3, ho2, r2⟩ := s2_ok o1 ho1 (.tup (ns.map D.int))
  have r3 := s3_ok o2 ns ms n1 n2 n3 m1 m2 m3
  have r4 := s4_ok o2 ns ms n1 n2 n3 m1 m2 m3
  have r5 := s5_ok o2 ns ms n1 n2 n3 m1 m2 m3 (.tup (ms.map D.int)) (fr ns) (fr ms)
  have r6 := s6_ok o2 ns ms n1 n2 n3 m1 m2 m3 (.tup (ms.map D.int)) (fr ms) (.tup (ns.map D.int))
  obtain ⟨a, o3, a1, a2, ho3, r7⟩ := s7_ok ns n1 n2 n3 (.tup (ms.map D.int)) (fr ns) (fr ms) (.tup ((ns.map (0 - ·)).map D.int)) o2 ho2
  have r8 := s8_ok ns n1 n2 (.tup (ms.map D.int)) (fr ns) (fr ms) (.tup ((ns.map (0 - ·)).map D.int)) o3 a a1 a2
  obtain ⟨y, o4, y1, ho4, r9⟩ := s9_ok (.tup (ms.map D.int)) (fr ns) (fr ms) (.tup ((ns.map (0 - ·)).map D.int)) o3 ho3 (.int a) (.tup ((ns.take a.toNat).map D.int)) (.tup ((ns.drop (a.toNat + 1)).map D.int)) (.tup (ns.map D.int))
  have r10 := s10_ok ns n1 n2 n3 (.tup (ms.map D.int)) (fr ns) (fr ms) (.tup ((ns.map (0 - ·)).map D.int)) o4 a y a1 a2 y1
  have r11 := s11_ok (ns.map D.int) (by simpa using n2) (.tup (ms.map D.int)) (fr ns) (fr ms) (.tup ((ns.map (0 - ·)).map D.int)) (.int a) (.tup ((ns.take a.toNat).map D.int)) (.tup ((ns.drop (a.toNat + 1)).map D.int)) (.int y) o4
  obtain ⟨d, o5, hd, ho5, r12⟩ := s12_ok (ns.map D.int) (by simpa using n2) (.tup (ms.map D.int)) (fr ns) (fr ms) (.tup ((ns.map (0 - ·)).map D.int)) (.int a) (.tup ((ns.take a.toNat).map D.int)) (.tup ((ns.drop (a.toNat + 1)).map D.int)) (.int y) o4 ho4 ns rfl
  have r13 := s13_ok (.tup (ms.map D.int)) (fr ns) (fr ms) (.tup ((ns.map (0 - ·)).map D.int)) (.int a) (.tup ((ns.take a.toNat).map D.int)) (.tup ((ns.drop (a.toNat + 1)).map D.int)) (.int y) d hd o5 (.tup (ns.map D.int))
  have r14 := s14_ok ns n1 n2 n3 (.tup (ms.map D.int)) (fr ns) (fr ms) (.tup ((ns.map (0 - ·)).map D.int)) (.int a) (.tup ((ns.take a.toNat).map D.int)) (.tup ((ns.drop (a.toNat + 1)).map D.int)) (.int y) d hd o5
  have r15 := s15_ok (.tup (ms.map D.int)) (fr ns) (fr ms) (.tup ((ns.map (0 - ·)).map D.int)) (.int a) (.tup ((ns.take a.toNat).map D.int)) (.tup ((ns.drop (a.toNat + 1)).map D.int)) (.int y) d hd o5 (.tup (ns.map D.int))
  refine ⟨o5, ho5, ?_⟩
  have e0 : env0 12 [SV.bor o] = E o none none none none none none none none none none := rfl
  have all : b_law_is_right (env0 12 [SV.bor o]) = .ret (.bl true) (E o5 (some (.int a)) (some (.tup (ms.map D.int))) (some (fr ns)) (some (fr ms)) (some (.tup ((ns.map (0 - ·)).map D.int))) (some (.tup ((ns.take a.toNat).map D.int))) (some (.tup ((ns.drop (a.toNat + 1)).map D.int))) (some (.int y)) (some d) (some (.tup (ns.map D.int)))) := by
    rw [e_law_is_right, e0, run_next r1, run_next r2, run_next r3, run_next r4, run_next r5, run_next r6, run_next r7, run_next r8, run_next r9, run_next r10, run_next r11, run_next r12, run_next r13, run_next r14, r15]
  unfold f_law_is_right runBody
  rw [all]
  rfl
end K44

set_option maxRecDepth 100000
namespace K44
open PySem L2 Cs
theorem v_hand (cs : List Int) (hn : cs.length ≤ 63) : ∃ o, HandOk o ∧ f_law_hand [.val (.scr (cs.map D.int))] = .own o [] := by
  have hcut : cutD (cs.map D.int) none (some 63) = cs.map D.int := cut_full (by
    unfold sIxD
    have h1 : ¬ (63 : Int) < 0 := by decide
    simp only [h1, if_false, List.length_map]
    exact ⟨trivial, by omega⟩)
  have hi : iSeq (eSl (rdV (eLoc 0)) (pNone) (pInt (eC (.int 63)))) ([some (.val (.scr (cs.map D.int))), none, none] : Cs.Env) = .ok (cs.map D.int) [some (.val (.scr (cs.map D.int))), none, none] := by
    have e1 : slD (.scr (cs.map D.int)) none (some 63) = some (.lst (cs.map D.int)) := by show some (D.lst (cutD _ _ _)) = _; rw [hcut]
    generalize D.scr (cs.map D.int) = S at *
    simp [ap_bnd, ap_bind, ap_bindX, ap_bindB, ap_ret, ap_fail, ap_ofO, ap_ofON, ap_eC, ap_sq, ap_then, ap_thenR, ap_thenO, ap_thenX, ap_sB, ap_s, ap_sX, ap_sNil, ap_if, ap_ifS, ap_asBl, ap_tru, ap_add, ap_sub, ap_neg, ap_lt, ap_le, ap_gt, ap_ge, ap_eqI, ap_neI, ap_rdV, ap_bCons, ap_bNil, ap_rdS, ap_rdG, ap_rdGs, ap_eCall, ap_oCall, ap_eFrz, ap_eFn, ap_oFn, ap_eSl, ap_pNone, ap_e2B, ap_sAsgO, ap_sPar, ap_e2, ap_e1, ap_tv, ap_tt, ap_tAnd, ap_tOr, ap_tNot, ap_eNot, ap_eAnd, ap_eOr, ap_eIf, ap_eChain, ap_aNil, ap_aCons, ap_eTup, ap_eLst, ap_oLst, ap_sExpr, ap_sRet, ap_sRetN, ap_sRetO, ap_sIf, ap_sAsg, ap_sFor, ap_iSeq, ap_iArgs, ap_pInt, ap_eIsi, ap_sRaise0, ap_eDic0, ap_gTup, ap_gCons, ap_gNil, le_sz, callK, argsOf, slotsOf, osets, oset, gets, Rd.get, putV, putO, eLoc, OO.fr, e1, itD]
  have hl := oLc_map (i := 2) (fi := iSeq (eSl (rdV (eLoc 0)) (pNone) (pInt (eC (.int 63))))) (f := (eCall absD (bCons (rdV (eCall intD (bCons (rdV (eLoc 2)) (bNil)))) (bNil)))) (g := fun d => match d with | .int i => .int (if i < 0 then -i else i) | _ => .non) hi rfl (by rw [List.length_map]; exact sz_big _ (by omega)) (fun d hd => by
    obtain ⟨n, _, rfl⟩ := List.mem_map.mp hd
    generalize D.scr (cs.map D.int) = S
    simp [ap_bnd, ap_bind, ap_bindX, ap_bindB, ap_ret, ap_fail, ap_ofO, ap_ofON, ap_eC, ap_sq, ap_then, ap_thenR, ap_thenO, ap_thenX, ap_sB, ap_s, ap_sX, ap_sNil, ap_if, ap_ifS, ap_asBl, ap_tru, ap_add, ap_sub, ap_neg, ap_lt, ap_le, ap_gt, ap_ge, ap_eqI, ap_neI, ap_rdV, ap_bCons, ap_bNil, ap_rdS, ap_rdG, ap_rdGs, ap_eCall, ap_oCall, ap_eFrz, ap_eFn, ap_oFn, ap_eSl, ap_pNone, ap_e2B, ap_sAsgO, ap_sPar, ap_e2, ap_e1, ap_tv, ap_tt, ap_tAnd, ap_tOr, ap_tNot, ap_eNot, ap_eAnd, ap_eOr, ap_eIf, ap_eChain, ap_aNil, ap_aCons, ap_eTup, ap_eLst, ap_oLst, ap_sExpr, ap_sRet, ap_sRetN, ap_sRetO, ap_sIf, ap_sAsg, ap_sFor, ap_iSeq, ap_iArgs, ap_pInt, ap_eIsi, ap_sRaise0, ap_eDic0, ap_gTup, ap_gCons, ap_gNil, le_sz, callK, argsOf, slotsOf, osets, oset, gets, Rd.get, putV, putO, eLoc, OO.fr, intD, absD])
  have hm : (cs.map D.int).map (fun d => match d with | .int i => .int (if i < 0 then -i else i) | _ => .non) = (cs.map fun i => if i < 0 then -i else i).map D.int := by simp
  rw [hm] at hl
  refine ⟨.lst [.lst ((cs.map fun i => if i < 0 then -i else i).map D.int), .int 0, .int 0, .int (4209 + 7 * ((cs.map fun i => if i < 0 then -i else i).map D.int).length), .int 0], ⟨cs.map fun i => if i < 0 then -i else i, 0, 0, _, 0, rfl, fun x hx => ?_, by omega, by omega⟩, ?_⟩
  · obtain ⟨n, _, rfl⟩ := List.mem_map.mp hx
    split <;> omega
  · unfold f_law_hand b_law_hand runBody
    generalize (cs.map fun i => if i < 0 then -i else i).map D.int = Y at *
    generalize D.scr (cs.map D.int) = S at *
    have e0 : env0 3 [SV.val S] = [some (.val S), none, none] := rfl
    rw [e0]
    have lY : lenD [.lst Y] = some (.int Y.length) := rfl
    simp [ap_bnd, ap_bind, ap_bindX, ap_bindB, ap_ret, ap_fail, ap_ofO, ap_ofON, ap_eC, ap_sq, ap_then, ap_thenR, ap_thenO, ap_thenX, ap_sB, ap_s, ap_sX, ap_sNil, ap_if, ap_ifS, ap_asBl, ap_tru, ap_add, ap_sub, ap_neg, ap_lt, ap_le, ap_gt, ap_ge, ap_eqI, ap_neI, ap_rdV, ap_bCons, ap_bNil, ap_rdS, ap_rdG, ap_rdGs, ap_eCall, ap_oCall, ap_eFrz, ap_eFn, ap_oFn, ap_eSl, ap_pNone, ap_e2B, ap_sAsgO, ap_sPar, ap_e2, ap_e1, ap_tv, ap_tt, ap_tAnd, ap_tOr, ap_tNot, ap_eNot, ap_eAnd, ap_eOr, ap_eIf, ap_eChain, ap_aNil, ap_aCons, ap_eTup, ap_eLst, ap_oLst, ap_sExpr, ap_sRet, ap_sRetN, ap_sRetO, ap_sIf, ap_sAsg, ap_sFor, ap_iSeq, ap_iArgs, ap_pInt, ap_eIsi, ap_sRaise0, ap_eDic0, ap_gTup, ap_gCons, ap_gNil, le_sz, callK, argsOf, slotsOf, osets, oset, gets, Rd.get, putV, putO, eLoc, OO.fr, hl, lY, mul_small, ioOs, bors]
theorem v_law (cs : List Int) (hn : cs.length ≤ 63) : f_law [.val (.scr (cs.map D.int))] = .val (.bl true) [] := by
  obtain ⟨o, ho, hh⟩ := v_hand cs hn
  unfold f_law runBody
  rw [e_law]
  generalize D.scr (cs.map D.int) = S at *
  have e0 : env0 4 [SV.val S] = [some (.val S), none, none, none] := rfl
  rw [e0]
  have r1 : s1_law [some (.val S), none, none, none] = .next [some (.val S), some (.own o), none, none] := by
    unfold s1_law
    simp [ap_bnd, ap_bind, ap_bindX, ap_bindB, ap_ret, ap_fail, ap_ofO, ap_ofON, ap_eC, ap_sq, ap_then, ap_thenR, ap_thenO, ap_thenX, ap_sB, ap_s, ap_sX, ap_sNil, ap_if, ap_ifS, ap_asBl, ap_tru, ap_add, ap_sub, ap_neg, ap_lt, ap_le, ap_gt, ap_ge, ap_eqI, ap_neI, ap_rdV, ap_bCons, ap_bNil, ap_rdS, ap_rdG, ap_rdGs, ap_eCall, ap_oCall, ap_eFrz, ap_eFn, ap_oFn, ap_eSl, ap_pNone, ap_e2B, ap_sAsgO, ap_sPar, ap_e2, ap_e1, ap_tv, ap_tt, ap_tAnd, ap_tOr, ap_tNot, ap_eNot, ap_eAnd, ap_eOr, ap_eIf, ap_eChain, ap_aNil, ap_aCons, ap_eTup, ap_eLst, ap_oLst, ap_sExpr, ap_sRet, ap_sRetN, ap_sRetO, ap_sIf, ap_sAsg, ap_sFor, ap_iSeq, ap_iArgs, ap_pInt, ap_eIsi, ap_sRaise0, ap_eDic0, ap_gTup, ap_gCons, ap_gNil, le_sz, callK, argsOf, slotsOf, osets, oset, gets, Rd.get, putV, putO, eLoc, OO.fr, hh]
  have r2 : s2_law [some (.val S), some (.own o), none, none] = .next [some (.val S), some (.own o), none, none] := by
    have f1 : f_fraction_of [.val (.tup [.int 2, .int 1, .int 2])] = .val (.tup [.int 8, .int 3]) [] := v_fraction [2, 1, 2] (by decide) (by decide) (by decide)
    have f2 : f_fraction_of [.val (.tup [.int 0])] = .val (.tup [.int 0, .int 1]) [] := v_fraction [0] (by decide) (by decide) (by decide)
    have f3 : f_fraction_of [.val (.tup [.int 0, .int 3])] = .val (.tup [.int 1, .int 0]) [] := v_fraction [0, 3] (by decide) (by decide) (by decide)
    have f4 : f_fraction_of [.val (.tup [.int (-2), .int 0])] = .val (.tup [.int (-1), .int 2]) [] := v_fraction [-2, 0] (by decide) (by decide) (by decide)
    let ds : List D := [.tup [.int 2, .int 1, .int 2], .tup [.int 0], .tup [.int 0, .int 3], .tup [.int (-2), .int 0]]
    let g : D → D := fun d => match f_fraction_of [.val d] with | .val x _ => x | _ => .non
    have hi : iSeq (eTup (aCons (eTup (aCons (eC (.int 2)) (aCons (eC (.int 1)) (aCons (eC (.int 2)) (aNil))))) (aCons (eTup (aCons (eC (.int 0)) (aNil))) (aCons (eTup (aCons (eC (.int 0)) (aCons (eC (.int 3)) (aNil)))) (aCons (eTup (aCons (e1 negD (eC (.int 2))) (aCons (eC (.int 0)) (aNil)))) (aNil)))))) [some (.val S), some (.own o), none, none] = .ok ds [some (.val S), some (.own o), none, none] := by
      simp [ap_bnd, ap_bind, ap_bindX, ap_bindB, ap_ret, ap_fail, ap_ofO, ap_ofON, ap_eC, ap_sq, ap_then, ap_thenR, ap_thenO, ap_thenX, ap_sB, ap_s, ap_sX, ap_sNil, ap_if, ap_ifS, ap_asBl, ap_tru, ap_add, ap_sub, ap_neg, ap_lt, ap_le, ap_gt, ap_ge, ap_eqI, ap_neI, ap_rdV, ap_bCons, ap_bNil, ap_rdS, ap_rdG, ap_rdGs, ap_eCall, ap_oCall, ap_eFrz, ap_eFn, ap_oFn, ap_eSl, ap_pNone, ap_e2B, ap_sAsgO, ap_sPar, ap_e2, ap_e1, ap_tv, ap_tt, ap_tAnd, ap_tOr, ap_tNot, ap_eNot, ap_eAnd, ap_eOr, ap_eIf, ap_eChain, ap_aNil, ap_aCons, ap_eTup, ap_eLst, ap_oLst, ap_sExpr, ap_sRet, ap_sRetN, ap_sRetO, ap_sIf, ap_sAsg, ap_sFor, ap_iSeq, ap_iArgs, ap_pInt, ap_eIsi, ap_sRaise0, ap_eDic0, ap_gTup, ap_gCons, ap_gNil, le_sz, callK, argsOf, slotsOf, osets, oset, gets, Rd.get, putV, putO, eLoc, OO.fr, itD, ds]
    have hl := oLc_map (i := 2) (f := (eFn 1 f_fraction_of (bCons (rdV (eLoc 2)) (bNil)))) (g := g) (ds := ds) hi rfl (by decide) (fun d hd => by
      have : d = .tup [.int 2, .int 1, .int 2] ∨ d = .tup [.int 0] ∨ d = .tup [.int 0, .int 3] ∨ d = .tup [.int (-2), .int 0] := by simpa [ds] using hd
      rcases this with rfl | rfl | rfl | rfl
      · simp [ap_bnd, ap_bind, ap_bindX, ap_bindB, ap_ret, ap_fail, ap_ofO, ap_ofON, ap_eC, ap_sq, ap_then, ap_thenR, ap_thenO, ap_thenX, ap_sB, ap_s, ap_sX, ap_sNil, ap_if, ap_ifS, ap_asBl, ap_tru, ap_add, ap_sub, ap_neg, ap_lt, ap_le, ap_gt, ap_ge, ap_eqI, ap_neI, ap_rdV, ap_bCons, ap_bNil, ap_rdS, ap_rdG, ap_rdGs, ap_eCall, ap_oCall, ap_eFrz, ap_eFn, ap_oFn, ap_eSl, ap_pNone, ap_e2B, ap_sAsgO, ap_sPar, ap_e2, ap_e1, ap_tv, ap_tt, ap_tAnd, ap_tOr, ap_tNot, ap_eNot, ap_eAnd, ap_eOr, ap_eIf, ap_eChain, ap_aNil, ap_aCons, ap_eTup, ap_eLst, ap_oLst, ap_sExpr, ap_sRet, ap_sRetN, ap_sRetO, ap_sIf, ap_sAsg, ap_sFor, ap_iSeq, ap_iArgs, ap_pInt, ap_eIsi, ap_sRaise0, ap_eDic0, ap_gTup, ap_gCons, ap_gNil, le_sz, callK, argsOf, slotsOf, osets, oset, gets, Rd.get, putV, putO, eLoc, OO.fr, f1, g]
      · simp [ap_bnd, ap_bind, ap_bindX, ap_bindB, ap_ret, ap_fail, ap_ofO, ap_ofON, ap_eC, ap_sq, ap_then, ap_thenR, ap_thenO, ap_thenX, ap_sB, ap_s, ap_sX, ap_sNil, ap_if, ap_ifS, ap_asBl, ap_tru, ap_add, ap_sub, ap_neg, ap_lt, ap_le, ap_gt, ap_ge, ap_eqI, ap_neI, ap_rdV, ap_bCons, ap_bNil, ap_rdS, ap_rdG, ap_rdGs, ap_eCall, ap_oCall, ap_eFrz, ap_eFn, ap_oFn, ap_eSl, ap_pNone, ap_e2B, ap_sAsgO, ap_sPar, ap_e2, ap_e1, ap_tv, ap_tt, ap_tAnd, ap_tOr, ap_tNot, ap_eNot, ap_eAnd, ap_eOr, ap_eIf, ap_eChain, ap_aNil, ap_aCons, ap_eTup, ap_eLst, ap_oLst, ap_sExpr, ap_sRet, ap_sRetN, ap_sRetO, ap_sIf, ap_sAsg, ap_sFor, ap_iSeq, ap_iArgs, ap_pInt, ap_eIsi, ap_sRaise0, ap_eDic0, ap_gTup, ap_gCons, ap_gNil, le_sz, callK, argsOf, slotsOf, osets, oset, gets, Rd.get, putV, putO, eLoc, OO.fr, f2, g]
      · simp [ap_bnd, ap_bind, ap_bindX, ap_bindB, ap_ret, ap_fail, ap_ofO, ap_ofON, ap_eC, ap_sq, ap_then, ap_thenR, ap_thenO, ap_thenX, ap_sB, ap_s, ap_sX, ap_sNil, ap_if, ap_ifS, ap_asBl, ap_tru, ap_add, ap_sub, ap_neg, ap_lt, ap_le, ap_gt, ap_ge, ap_eqI, ap_neI, ap_rdV, ap_bCons, ap_bNil, ap_rdS, ap_rdG, ap_rdGs, ap_eCall, ap_oCall, ap_eFrz, ap_eFn, ap_oFn, ap_eSl, ap_pNone, ap_e2B, ap_sAsgO, ap_sPar, ap_e2, ap_e1, ap_tv, ap_tt, ap_tAnd, ap_tOr, ap_tNot, ap_eNot, ap_eAnd, ap_eOr, ap_eIf, ap_eChain, ap_aNil, ap_aCons, ap_eTup, ap_eLst, ap_oLst, ap_sExpr, ap_sRet, ap_sRetN, ap_sRetO, ap_sIf, ap_sAsg, ap_sFor, ap_iSeq, ap_iArgs, ap_pInt, ap_eIsi, ap_sRaise0, ap_eDic0, ap_gTup, ap_gCons, ap_gNil, le_sz, callK, argsOf, slotsOf, osets, oset, gets, Rd.get, putV, putO, eLoc, OO.fr, f3, g]
      · simp [ap_bnd, ap_bind, ap_bindX, ap_bindB, ap_ret, ap_fail, ap_ofO, ap_ofON, ap_eC, ap_sq, ap_then, ap_thenR, ap_thenO, ap_thenX, ap_sB, ap_s, ap_sX, ap_sNil, ap_if, ap_ifS, ap_asBl, ap_tru, ap_add, ap_sub, ap_neg, ap_lt, ap_le, ap_gt, ap_ge, ap_eqI, ap_neI, ap_rdV, ap_bCons, ap_bNil, ap_rdS, ap_rdG, ap_rdGs, ap_eCall, ap_oCall, ap_eFrz, ap_eFn, ap_oFn, ap_eSl, ap_pNone, ap_e2B, ap_sAsgO, ap_sPar, ap_e2, ap_e1, ap_tv, ap_tt, ap_tAnd, ap_tOr, ap_tNot, ap_eNot, ap_eAnd, ap_eOr, ap_eIf, ap_eChain, ap_aNil, ap_aCons, ap_eTup, ap_eLst, ap_oLst, ap_sExpr, ap_sRet, ap_sRetN, ap_sRetO, ap_sIf, ap_sAsg, ap_sFor, ap_iSeq, ap_iArgs, ap_pInt, ap_eIsi, ap_sRaise0, ap_eDic0, ap_gTup, ap_gCons, ap_gNil, le_sz, callK, argsOf, slotsOf, osets, oset, gets, Rd.get, putV, putO, eLoc, OO.fr, f4, g])
    have hg : ds.map g = [.tup [.int 8, .int 3], .tup [.int 0, .int 1], .tup [.int 1, .int 0], .tup [.int (-1), .int 2]] := by simp [ds, g, f1, f2, f3, f4]
    rw [hg] at hl
    have hne : neD (.lst [.tup [.int 8, .int 3], .tup [.int 0, .int 1], .tup [.int 1, .int 0], .tup [.int (-1), .int 2]]) (.lst [.tup [.int 8, .int 3], .tup [.int 0, .int 1], .tup [.int 1, .int 0], .tup [.int (-1), .int 2]]) = some (.bl false) := ne_of_eq (eq_self (n := 5) (by decide +kernel) (by decide))
    unfold s2_law
    simp [ap_bnd, ap_bind, ap_bindX, ap_bindB, ap_ret, ap_fail, ap_ofO, ap_ofON, ap_eC, ap_sq, ap_then, ap_thenR, ap_thenO, ap_thenX, ap_sB, ap_s, ap_sX, ap_sNil, ap_if, ap_ifS, ap_asBl, ap_tru, ap_add, ap_sub, ap_neg, ap_lt, ap_le, ap_gt, ap_ge, ap_eqI, ap_neI, ap_rdV, ap_bCons, ap_bNil, ap_rdS, ap_rdG, ap_rdGs, ap_eCall, ap_oCall, ap_eFrz, ap_eFn, ap_oFn, ap_eSl, ap_pNone, ap_e2B, ap_sAsgO, ap_sPar, ap_e2, ap_e1, ap_tv, ap_tt, ap_tAnd, ap_tOr, ap_tNot, ap_eNot, ap_eAnd, ap_eOr, ap_eIf, ap_eChain, ap_aNil, ap_aCons, ap_eTup, ap_eLst, ap_oLst, ap_sExpr, ap_sRet, ap_sRetN, ap_sRetO, ap_sIf, ap_sAsg, ap_sFor, ap_iSeq, ap_iArgs, ap_pInt, ap_eIsi, ap_sRaise0, ap_eDic0, ap_gTup, ap_gCons, ap_gNil, le_sz, callK, argsOf, slotsOf, osets, oset, gets, Rd.get, putV, putO, eLoc, OO.fr, hl, hne]
  have r3 : ∃ o', s3_law [some (.val S), some (.own o), none, none] = .ret (.bl true) [some (.val S), some (.own o'), none, none] := by
    obtain ⟨ys, e', y1, y2, ⟨o', ho', rfl⟩, y3⟩ := lcL_inv (vs := [3]) (t := false) (is := [3]) (f := (eFn 1 f_law_is_right (bCons (rdG (.slot 1) fun _ => rdS 1) (bNil)))) (fun e => ∃ o, HandOk o ∧ e = [some (.val S), some (.own o), none, none]) (fun _ y => y = .bl true) (rng 0 8) [] [some (.val S), some (.own o), none, none] ⟨o, ho, rfl⟩ (fun d hd e he => by
      obtain ⟨o, ho, rfl⟩ := he
      obtain ⟨o', ho', hr⟩ := v_is_right o ho
      refine ⟨[d], [some (.val S), some (.own o), none, some (.val d)], .bl true, [some (.val S), some (.own o'), none, some (.val d)], rfl, rfl, ?_, rfl, rfl, o', ho', rfl⟩
      simp [ap_bnd, ap_bind, ap_bindX, ap_bindB, ap_ret, ap_fail, ap_ofO, ap_ofON, ap_eC, ap_sq, ap_then, ap_thenR, ap_thenO, ap_thenX, ap_sB, ap_s, ap_sX, ap_sNil, ap_if, ap_ifS, ap_asBl, ap_tru, ap_add, ap_sub, ap_neg, ap_lt, ap_le, ap_gt, ap_ge, ap_eqI, ap_neI, ap_rdV, ap_bCons, ap_bNil, ap_rdS, ap_rdG, ap_rdGs, ap_eCall, ap_oCall, ap_eFrz, ap_eFn, ap_oFn, ap_eSl, ap_pNone, ap_e2B, ap_sAsgO, ap_sPar, ap_e2, ap_e1, ap_tv, ap_tt, ap_tAnd, ap_tOr, ap_tNot, ap_eNot, ap_eAnd, ap_eOr, ap_eIf, ap_eChain, ap_aNil, ap_aCons, ap_eTup, ap_eLst, ap_oLst, ap_sExpr, ap_sRet, ap_sRetN, ap_sRetO, ap_sIf, ap_sAsg, ap_sFor, ap_iSeq, ap_iArgs, ap_pInt, ap_eIsi, ap_sRaise0, ap_eDic0, ap_gTup, ap_gCons, ap_gNil, le_sz, callK, argsOf, slotsOf, osets, oset, gets, Rd.get, putV, putO, eLoc, OO.fr, hr]) (by rw [rng_len]; decide)
    refine ⟨o', ?_⟩
    have hb : boolsOf ys = some (List.replicate 8 true) := by
      have hy : ∀ y ∈ ys, y = .bl true := fun y hy => by
        obtain ⟨a, _, h⟩ := mem_zip_snd y1.symm y hy
        exact y2 _ h
      have hl : ys.length = 8 := by rw [y1, rng_len]
      have : ys = List.replicate 8 (.bl true) := List.eq_replicate_iff.mpr ⟨hl, hy⟩
      rw [this]; rfl
    have ho : oLc [3] false [3] (iArgs (aCons (eC (.int 8)) (aNil)) rng1) (Cs.ret true) (eFn 1 f_law_is_right (bCons (rdG (.slot 1) fun _ => rdS 1) (bNil))) [some (.val S), some (.own o), none, none] = .ok (.lst ys) [some (.val S), some (.own o'), none, none] := by
      unfold oLc
      have hi : iArgs (aCons (eC (.int 8)) (aNil)) rng1 [some (.val S), some (.own o), none, none] = .ok (rng 0 8) [some (.val S), some (.own o), none, none] := by
        have : rng1 [.int 8] = some (rng 0 8) := rng1_ok 8 (by decide) (by decide)
        simp [ap_bnd, ap_bind, ap_bindX, ap_bindB, ap_ret, ap_fail, ap_ofO, ap_ofON, ap_eC, ap_sq, ap_then, ap_thenR, ap_thenO, ap_thenX, ap_sB, ap_s, ap_sX, ap_sNil, ap_if, ap_ifS, ap_asBl, ap_tru, ap_add, ap_sub, ap_neg, ap_lt, ap_le, ap_gt, ap_ge, ap_eqI, ap_neI, ap_rdV, ap_bCons, ap_bNil, ap_rdS, ap_rdG, ap_rdGs, ap_eCall, ap_oCall, ap_eFrz, ap_eFn, ap_oFn, ap_eSl, ap_pNone, ap_e2B, ap_sAsgO, ap_sPar, ap_e2, ap_e1, ap_tv, ap_tt, ap_tAnd, ap_tOr, ap_tNot, ap_eNot, ap_eAnd, ap_eOr, ap_eIf, ap_eChain, ap_aNil, ap_aCons, ap_eTup, ap_eLst, ap_oLst, ap_sExpr, ap_sRet, ap_sRetN, ap_sRetO, ap_sIf, ap_sAsg, ap_sFor, ap_iSeq, ap_iArgs, ap_pInt, ap_eIsi, ap_sRaise0, ap_eDic0, ap_gTup, ap_gCons, ap_gNil, le_sz, callK, argsOf, slotsOf, osets, oset, gets, Rd.get, putV, putO, eLoc, OO.fr, this]
      rw [ap_bnd, hi, ap_bind]
      have c1 : ([3].all fun v => plainSlot ([some (SV.val S), some (.own o), none, none] : Cs.Env)[v]?) = true := rfl
      have c2 : ([3].all fun v => plainSlot ([some (SV.val S), some (.own o'), none, none] : Cs.Env)[v]?) = true := rfl
      rw [if_pos c1]
      have hw : wipeE [some (SV.val S), some (.own o), none, none] [3] = [some (SV.val S), some (.own o), none, none] := rfl
      rw [hw, y3]
      dsimp only
      rw [if_pos c2]
      rfl
    unfold s3_law
    have ha : allD [.lst ys] = some (.bl true) := by
      show (boolsOf ys).map _ = _
      rw [hb]; rfl
    simp [ap_bnd, ap_bind, ap_bindX, ap_bindB, ap_ret, ap_fail, ap_ofO, ap_ofON, ap_eC, ap_sq, ap_then, ap_thenR, ap_thenO, ap_thenX, ap_sB, ap_s, ap_sX, ap_sNil, ap_if, ap_ifS, ap_asBl, ap_tru, ap_add, ap_sub, ap_neg, ap_lt, ap_le, ap_gt, ap_ge, ap_eqI, ap_neI, ap_rdV, ap_bCons, ap_bNil, ap_rdS, ap_rdG, ap_rdGs, ap_eCall, ap_oCall, ap_eFrz, ap_eFn, ap_oFn, ap_eSl, ap_pNone, ap_e2B, ap_sAsgO, ap_sPar, ap_e2, ap_e1, ap_tv, ap_tt, ap_tAnd, ap_tOr, ap_tNot, ap_eNot, ap_eAnd, ap_eOr, ap_eIf, ap_eChain, ap_aNil, ap_aCons, ap_eTup, ap_eLst, ap_oLst, ap_sExpr, ap_sRet, ap_sRetN, ap_sRetO, ap_sIf, ap_sAsg, ap_sFor, ap_iSeq, ap_iArgs, ap_pInt, ap_eIsi, ap_sRaise0, ap_eDic0, ap_gTup, ap_gCons, ap_gNil, le_sz, callK, argsOf, slotsOf, osets, oset, gets, Rd.get, putV, putO, eLoc, OO.fr, ho, ha]
  obtain ⟨o', r3⟩ := r3
  rw [run_next r1, run_next r2, r3]
  rfl
end K44

set_option maxRecDepth 100000
namespace K44
open PySem L2 Cs
set_option maxHeartbeats 4000000
section
variable {gb : Bool} {P : Program} {w : World} {K : PySem.W.Frag} {mg : Str → Option Value} {base : Heap} {T : List (Addr × Str)}
theorem law_ok (H : Facts K mg base T) : LawIs P w K mg base T 8 "law" s_law ["script"] 1 f_law := by
  refine law_is (N := ["script", "hand", "turns", "lap"]) (ps := ["script"]) (V := [2, 3, 0, 0]) (Gs := ["_law_hand", "all", "range"]) (b := b_law) sc_law (by decide +kernel) (by decide) H.tu (lamOk_no (fun Pt => H.nl Pt _ (by decide +kernel))) fun C e1 e2 e3 e4 e5 hc hs hf hx hq hT hgb hr => ?_
  subst e1 e2 e3 e4 e5 hT
  have F_law_hand : FnIs C.gb C.X.prog C.X.w C.X.K C.X.mg C.X.base C.T 1 "_law_hand" 1 f_law_hand := ok_law_hand H
  have F_law_is_right : FnIs C.gb C.X.prog C.X.w C.X.K C.X.mg C.X.base C.T 7 "_law_is_right" 1 f_law_is_right := by rw [hgb]; exact ok_law_is_right H
  have F_fraction_of : FnIs C.gb C.X.prog C.X.w C.X.K C.X.mg C.X.base C.T 4 "fraction_of" 1 f_fraction_of := ok_fraction_of H
  unfold b_law
  exact ss_cons (s_setO 1 (o_fn ⟨F_law_hand.ex⟩ (hr.mono (by decide)) 0 (b_cons (b_val (d_loc 0)) (b_nil)))) (ss_cons (s_if (t_ne (d_frz (o_lc [("turns", 2)] [0, 0, 2, 0] ["fraction_of"] hc (by decide +kernel) (it_seq (d_tup (a_cons (d_tup (a_cons (d_int) (a_cons (d_int) (a_cons (d_int) (a_nil))))) (a_cons (d_tup (a_cons (d_int) (a_nil))) (a_cons (d_tup (a_cons (d_int) (a_cons (d_int) (a_nil)))) (a_cons (d_tup (a_cons (d_neg (d_int)) (a_cons (d_int) (a_nil)))) (a_nil))))))) (fun s H2 Ca cl fp F => ct_name 2) (fun s H2 Ca cl fp F => ts_nil) (fun s H2 Ca cl fp F => d_fn ⟨F_fraction_of.ex⟩ (hr.mono (by decide)) 0 (b_cons (b_val (d_loc 2)) (b_nil))))) (d_lst (a_cons (d_tup (a_cons (d_int) (a_cons (d_int) (a_nil)))) (a_cons (d_tup (a_cons (d_int) (a_cons (d_int) (a_nil)))) (a_cons (d_tup (a_cons (d_int) (a_cons (d_int) (a_nil)))) (a_cons (d_tup (a_cons (d_neg (d_int)) (a_cons (d_int) (a_nil)))) (a_nil))))))) (ss_one (s_ret (d_bl))) (ss_nil)) (ss_one (s_ret (d_all 1 hc H.n_all (b_cons (b_val (d_frz (o_lc [("lap", 3)] [0, 1, 0, 2] ["_law_is_right"] hc (by decide +kernel) (it_range1 2 rfl H.n_range (a_cons (d_int) (a_nil))) (fun s H2 Ca cl fp F => ct_name 3) (fun s H2 Ca cl fp F => ts_nil) (fun s H2 Ca cl fp F => d_fn ⟨F_law_is_right.ex⟩ (hr.mono (by decide)) 0 (b_cons (b_slot 1) (b_nil)))))) (b_nil))))))
end
end K44
namespace K44
open PySem L2 Cs
def TT : List (Addr × Str) := [(135, "_law_is_right.<locals>.<lambda>")]
def CS : List (Addr × Addr) := [(137, 135)]
theorem nl_T : ∀ Pt x, x ∈ (["_law_hand", "is_sized", "is_integer", "check_turns", "turned_over", "raw_fraction", "fraction_of", "_law_draw", "_law_fraction", "same_tangles", "_law_any", "_law_deep", "_law_is_refused", "law"] : List Str) → (Pt, (x ++ ".<locals>.") ++ "<lambda>") ∉ TT := by
  intro Pt x hx m
  have key : ∀ x ∈ (["_law_hand", "is_sized", "is_integer", "check_turns", "turned_over", "raw_fraction", "fraction_of", "_law_draw", "_law_fraction", "same_tangles", "_law_any", "_law_deep", "_law_is_refused", "law"] : List Str), ∀ p ∈ TT, p.2 ≠ (x ++ ".<locals>.") ++ "<lambda>" := by decide +kernel
  exact key x hx _ m rfl
theorem nll_law_is_right_T : ∀ Pt, (Pt, (((("_law_is_right" : Str) ++ ".<locals>.") ++ "<lambda>") ++ ".<locals>.") ++ "<lambda>") ∉ TT := by
  intro Pt m
  have key : ∀ p ∈ TT, p.2 ≠ (((("_law_is_right" : Str) ++ ".<locals>.") ++ "<lambda>") ++ ".<locals>.") ++ "<lambda>" := by decide +kernel
  exact key _ m rfl
theorem at_law_is_right : ∀ Pt, (Pt, (("_law_is_right" : Str) ++ ".<locals>.") ++ "<lambda>") ∈ TT → (137, Pt) ∈ CS := by
  intro Pt m
  have key : ∀ p ∈ TT, p.2 = (("_law_is_right" : Str) ++ ".<locals>.") ++ "<lambda>" → (137, p.1) ∈ CS := by decide +kernel
  exact key _ m rfl
end K44
open PySem PySem.W PyProof.Rows Cs in
set_option maxHeartbeats 0 in
theorem PySem.Challenge.cw_cordshall_k44_whole_fractions_of_turns_holds : PySem.Challenge.rw_cordshall_k44_whole_fractions_of_turns.Holds := by
  w_on; o_law
  k_head
  (case hw => w_witness2)
  k_fill
  refine Cs.walk_ofB (k := 8) (x := "script") rfl (by decide) (by kernel_rfl) ⟨rfl, by decide, by decide⟩ (fun w h Y => km_in_of Y) ?F
  intro w mg fa h Y KX G hmg0
  have hmg : mg ("law" : PySem.Str) = some (.ref fa) := hmg0
  clear hmg0
  have hT8 := km_tabs_of Y
  have n_ValueError := nm_none (x := "ValueError") KX G (by k_is)
  have n_abs := nm_none (x := "abs") KX G (by k_is)
  have n_all := nm_none (x := "all") KX G (by k_is)
  have n_bool := nm_none (x := "bool") KX G (by k_is)
  have n_enumerate := nm_none (x := "enumerate") KX G (by k_is)
  have n_int := nm_none (x := "int") KX G (by k_is)
  have n_isinstance := nm_none (x := "isinstance") KX G (by k_is)
  have n_len := nm_none (x := "len") KX G (by k_is)
  have n_list := nm_none (x := "list") KX G (by k_is)
  have n_range := nm_none (x := "range") KX G (by k_is)
  have n_repr := nm_none (x := "repr") KX G (by k_is)
  have n_tuple := nm_none (x := "tuple") KX G (by k_is)
  have c_MOST_TURN : GlobD (Kof KX) mg "MOST_TURN" (.int 5) := by refine' globInt2 KX G ?e_12; (case e_12 => k_is)
  have c_MOST_TURNS : GlobD (Kof KX) mg "MOST_TURNS" (.int 6) := by refine' globInt2 KX G ?e_13; (case e_13 => k_is)
  have d_law_hand : DefIs (Kof KX) mg "_law_hand" K44.s_law_hand ["script"] := by refine' DefIs.mk2 KX G ?m_14 ?l_14 ?c_14 ?k_14 ?b_14; (case m_14 => k_is); (case l_14 => k_is); (case c_14 => k_is); (case k_14 => k_is); exact fun _ _ _ _ _ _ us hl => match us, hl with | [_], _ => rfl
  have d_is_sized : DefIs (Kof KX) mg "is_sized" K44.s_is_sized ["thing", "least", "most"] := by refine' DefIs.mk2 KX G ?m_15 ?l_15 ?c_15 ?k_15 ?b_15; (case m_15 => k_is); (case l_15 => k_is); (case c_15 => k_is); (case k_15 => k_is); exact fun _ _ _ _ _ _ us hl => match us, hl with | [_, _, _], _ => rfl
  have d_is_integer : DefIs (Kof KX) mg "is_integer" K44.s_is_integer ["thing"] := by refine' DefIs.mk2 KX G ?m_16 ?l_16 ?c_16 ?k_16 ?b_16; (case m_16 => k_is); (case l_16 => k_is); (case c_16 => k_is); (case k_16 => k_is); exact fun _ _ _ _ _ _ us hl => match us, hl with | [_], _ => rfl
  have d_check_turns : DefIs (Kof KX) mg "check_turns" K44.s_check_turns ["thing"] := by refine' DefIs.mk2 KX G ?m_17 ?l_17 ?c_17 ?k_17 ?b_17; (case m_17 => k_is); (case l_17 => k_is); (case c_17 => k_is); (case k_17 => k_is); exact fun _ _ _ _ _ _ us hl => match us, hl with | [_], _ => rfl
  have d_turned_over : DefIs (Kof KX) mg "turned_over" K44.s_turned_over ["p", "q"] := by refine' DefIs.mk2 KX G ?m_18 ?l_18 ?c_18 ?k_18 ?b_18; (case m_18 => k_is); (case l_18 => k_is); (case c_18 => k_is); (case k_18 => k_is); exact fun _ _ _ _ _ _ us hl => match us, hl with | [_, _], _ => rfl
  have d_raw_fraction : DefIs (Kof KX) mg "raw_fraction" K44.s_raw_fraction ["turns"] := by refine' DefIs.mk2 KX G ?m_19 ?l_19 ?c_19 ?k_19 ?b_19; (case m_19 => k_is); (case l_19 => k_is); (case c_19 => k_is); (case k_19 => k_is); exact fun _ _ _ _ _ _ us hl => match us, hl with | [_], _ => rfl
  have d_fraction_of : DefIs (Kof KX) mg "fraction_of" K44.s_fraction_of ["turns"] := by refine' DefIs.mk2 KX G ?m_20 ?l_20 ?c_20 ?k_20 ?b_20; (case m_20 => k_is); (case l_20 => k_is); (case c_20 => k_is); (case k_20 => k_is); exact fun _ _ _ _ _ _ us hl => match us, hl with | [_], _ => rfl
  have d_law_draw : DefIs (Kof KX) mg "_law_draw" K44.s_law_draw ["hand", "below"] := by refine' DefIs.mk2 KX G ?m_21 ?l_21 ?c_21 ?k_21 ?b_21; (case m_21 => k_is); (case l_21 => k_is); (case c_21 => k_is); (case k_21 => k_is); exact fun _ _ _ _ _ _ us hl => match us, hl with | [_, _], _ => rfl
  have d_law_fraction : DefIs (Kof KX) mg "_law_fraction" K44.s_law_fraction ["turns"] := by refine' DefIs.mk2 KX G ?m_22 ?l_22 ?c_22 ?k_22 ?b_22; (case m_22 => k_is); (case l_22 => k_is); (case c_22 => k_is); (case k_22 => k_is); exact fun _ _ _ _ _ _ us hl => match us, hl with | [_], _ => rfl
  have d_same_tangles : DefIs (Kof KX) mg "same_tangles" K44.s_same_tangles ["turns", "other"] := by refine' DefIs.mk2 KX G ?m_23 ?l_23 ?c_23 ?k_23 ?b_23; (case m_23 => k_is); (case l_23 => k_is); (case c_23 => k_is); (case k_23 => k_is); exact fun _ _ _ _ _ _ us hl => match us, hl with | [_, _], _ => rfl
  have d_law_any : DefIs (Kof KX) mg "_law_any" K44.s_law_any ["hand", "some"] := by refine' DefIs.mk2 KX G ?m_24 ?l_24 ?c_24 ?k_24 ?b_24; (case m_24 => k_is); (case l_24 => k_is); (case c_24 => k_is); (case k_24 => k_is); exact fun _ _ _ _ _ _ us hl => match us, hl with | [_, _], _ => rfl
  have d_law_deep : DefIs (Kof KX) mg "_law_deep" K44.s_law_deep ["hand"] := by refine' DefIs.mk2 KX G ?m_25 ?l_25 ?c_25 ?k_25 ?b_25; (case m_25 => k_is); (case l_25 => k_is); (case c_25 => k_is); (case k_25 => k_is); exact fun _ _ _ _ _ _ us hl => match us, hl with | [_], _ => rfl
  have d_law_is_refused : DefIs (Kof KX) mg "_law_is_refused" K44.s_law_is_refused ["call"] := by refine' DefIs.mk2 KX G ?m_26 ?l_26 ?c_26 ?k_26 ?b_26; (case m_26 => k_is); (case l_26 => k_is); (case c_26 => k_is); (case k_26 => k_is); exact fun _ _ _ _ _ _ us hl => match us, hl with | [_], _ => rfl
  have d_law_is_right : DefIsL (Kof KX) mg "_law_is_right" K44.s_law_is_right ["hand"] 137 := by refine' DefIsL.mk2 (Pt := 135) KX G ?m_27 ?l_27 ?c1_27 ?k_27 ?b_27; (case m_27 => k_is); (case l_27 => k_is); (case c1_27 => k_is); (case k_27 => k_is); exact fun _ _ _ _ _ _ us hl => match us, hl with | [_], _ => rfl
  have d_law : DefIs (Kof KX) mg "law" K44.s_law ["script"] := by refine' DefIs.mk2 KX G ?m_28 ?l_28 ?c_28 ?k_28 ?b_28; (case m_28 => k_is); (case l_28 => k_is); (case c_28 => k_is); (case k_28 => k_is); exact fun _ _ _ _ _ _ us hl => match us, hl with | [_], _ => rfl
  have x_NoTurns : Exc0 (Kof KX) mg "NoTurns" K44.s_init := by refine' Exc0.mk2 KX G ?m_29 (oexC_mk ?o1_29 ?o6_29 ?o2_29 ?o3_29 ?o4_29 ?o5_29) ?i_29 ?t_29 ?l_29 ?c_29 ?k_29 ?b_29; (case m_29 => k_is); (case o1_29 => k_is); (case o6_29 => decide +kernel); (case o2_29 => k_is); (case o3_29 => k_is); (case o4_29 => k_is); (case o5_29 => k_is); (case i_29 => k_is); (case t_29 => k_is); (case l_29 => k_is); (case c_29 => k_is); (case k_29 => k_is); exact fun _ _ _ _ _ _ us hl => match us, hl with | [_], _ => rfl
  have vV := vv_mk KX (by k_is)
  have k_NoTurns : ∃ cv, OwnCls mg "NoTurns" cv ∧ IsEOkK (Kof KX) mg cv K44.tab_NoTurns := by refine' kOwn_mk KX G ?m_31 (isE_cons KX G ?m0_31 ⟨?e10_31, ?e20_31, ?e30_31, ?e40_31, ?e50_31, ?e60_31, ?e70_31, ?e80_31⟩ ?Kk0_31 (isE_nil)); (case m_31 => k_is); (case m0_31 => k_is); (case e10_31 => k_is); (case e20_31 => k_is); (case e30_31 => k_is); (case e40_31 => k_is); (case e50_31 => k_is); (case e60_31 => k_is); (case e70_31 => k_is); (case e80_31 => k_is); (case Kk0_31 => kernel_rfl);
  have k_ValueError : IsEOkK (Kof KX) mg (.type "ValueError") K44.tab_ValueError := by refine' isE_cons KX G ?m0_32 ⟨?e10_32, ?e20_32, ?e30_32, ?e40_32, ?e50_32, ?e60_32, ?e70_32, ?e80_32⟩ ?Kk0_32 (isE_nil); (case m0_32 => k_is); (case e10_32 => k_is); (case e20_32 => k_is); (case e30_32 => k_is); (case e40_32 => k_is); (case e50_32 => k_is); (case e60_32 => k_is); (case e70_32 => k_is); (case e80_32 => k_is); (case Kk0_32 => kernel_rfl);
  have cat_CordError : ∃ Ct : Addr, mg "CordError" = some (.ref Ct) ∧ CatOkK (Kof KX) mg (.ref Ct) K44.tab_CordError := by refine' cat_mk KX G ?m_33 (cat_cons KX G ?m0_33 ?Kk0_33 (cat_nil)); (case m_33 => k_is); (case m0_33 => k_is); (case Kk0_33 => kernel_rfl);
  have hC0 : CodeHd h 137 135 := codeHd_of_K KX (by kernel_rfl)
  have hP0 := hT8 135 (by k_mem)
  refine lawAt_of K44.TT K44.CS (List.forall_mem_cons.mpr ⟨hP0, (fun _ hz => absurd hz (List.not_mem_nil))⟩) (List.forall_mem_cons.mpr ⟨(by kernel_rfl), (fun _ hz => absurd hz (List.not_mem_nil))⟩) (List.forall_mem_cons.mpr ⟨hC0, (fun _ hz => absurd hz (List.not_mem_nil))⟩) (by decide +kernel) d_law (fun _ _ _ _ _ _ us hl => match us, hl with | [_], _ => rfl) hmg (fun base kb gb hB => K44.law_ok ?H) ?f
  case H => exact { n_ValueError := n_ValueError, n_abs := n_abs, n_all := n_all, n_bool := n_bool, n_enumerate := n_enumerate, n_int := n_int, n_isinstance := n_isinstance, n_len := n_len, n_list := n_list, n_range := n_range, n_repr := n_repr, n_tuple := n_tuple, c_MOST_TURN := c_MOST_TURN, c_MOST_TURNS := c_MOST_TURNS, d_law_hand := d_law_hand, d_is_sized := d_is_sized, d_is_integer := d_is_integer, d_check_turns := d_check_turns, d_turned_over := d_turned_over, d_raw_fraction := d_raw_fraction, d_fraction_of := d_fraction_of, d_law_draw := d_law_draw, d_law_fraction := d_law_fraction, d_same_tangles := d_same_tangles, d_law_any := d_law_any, d_law_deep := d_law_deep, d_law_is_refused := d_law_is_refused, d_law_is_right := ⟨_, d_law_is_right, fun Pt m => hB _ (K44.at_law_is_right Pt m)⟩, d_law := d_law, x_NoTurns := x_NoTurns, vV := vV, k_NoTurns := k_NoTurns, k_ValueError := k_ValueError, cat_CordError := cat_CordError, tu := by decide +kernel, nl := K44.nl_T, ht_law_is_right := ⟨135, by decide +kernel⟩, nll_law_is_right := K44.nll_law_is_right_T }
  case f => exact fun ns hl hb => K44.v_law ns hl
