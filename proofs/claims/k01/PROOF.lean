import PyProof.Rows.All
import Wide.All
import OpenK.AllK
import Wide.FinOn
import HandS.ForMost
import HandS.ForExc
import HandS.Walk
import HandS.Zip
import HandS.Lambda
import HandS.ExcSuper
import HandS.ExcIs
import HandS.ExcField
import HandS.OwnEq
import HandS.IsInst
import HandS.SortOrd
import HandS.TupMul
import HandS.EndTab
import HandS.Flow
import HandS.Defaults
import HandS.TupAny
import HandS.TupLe
import HandS.Conv
import HandS.Deep
import HandS.CallSlots
import HandS.Style
import KE.GoesNew
import KE.GoesEnum
import HandS.Comp
import HandS.Codes
import PyProof.InstNe
import HandS.WordsExc
import HandS.Dict
import KE.KExcSuper
import HandS.Exc
import HandS.HeadHook1
import HandS.HeadHook2
import KE.KExcIs
import HandS.TryOnly
import PyProof.ReprRoads
import KE.DataMinMax
import KE.DataFind
import KE.KTupSum
import HandS.CallRecv
import HandS.Head0
import HandS.Head1
import HandS.Head2
import HandS.HeadEnd
import HandS.HeadWalk
import KE.KStateDown
import KE.KNestM
import PyProof.ReprLen
import PySem.Challenge.RW_tokennets_k01_whole_nets_marks_and_deeds
set_option Elab.async false
set_option linter.all false
set_option maxRecDepth 100000
set_option maxHeartbeats 2000000
/-! PVa: plain data D, how values represent it in the hand layer's heap: frozen values, owned containers. -/
namespace PV
open PySem L2

/-- plain data -/
inductive D where
  | non | bl (b : Bool) | int (i : Int) | str (x : Str)
  | tup (l : List D) | lst (l : List D)
  | dct (ks vs : List D)
  | ins (c : Nat) (l : List D)
  | exc (a : Addr) (dd : Option Addr) (c : Nat) (l : List D)
  | scr (l : List D)
  | tape | thk (T : Hp → V → Prop)
  deriving Inhabited

/-- what is fixed through a law -/
structure Gx where
  P : Program
  w : World
  K : PySem.W.Frag
  mg : Str → Option Value
  base : Heap
  ca : Nat → Addr
  cf : Nat → List Str
  ah : Option Addr
  tb : List (Addr × Str)

/-- not a code object -/
class Nco (o : HO) : Prop where
  ne : ∀ (c : Addr) (q : Str), o ≠ LamX.CodeO c q
instance {xs : List V} : Nco (.lst xs) := ⟨fun c q z => by unfold LamX.CodeO at z; cases z⟩
instance {xs : List V} : Nco (.tup xs) := ⟨fun c q z => by unfold LamX.CodeO at z; cases z⟩
instance {xs : List (Key × V)} : Nco (.dK xs) := ⟨fun c q z => by unfold LamX.CodeO at z; cases z⟩
instance {C dx : Addr} {fs : List (Str × V)} : Nco (.ins C dx fs) := ⟨fun c q z => by unfold LamX.CodeO at z; cases z⟩
instance {ps : Array Value} : Nco (.tbl ps) := ⟨fun c q z => by unfold LamX.CodeO at z; cases z⟩
/-- what changes for all: the tape, the tables of code objects -/
def Gx.gm (G : Gx) (b : Addr) : Prop := G.ah = some b ∨ ∃ q, (b, q) ∈ G.tb
def TupAt (G : Gx) (H : Hp) (A : Addr → Prop) (a : Addr) (xs : List V) : Prop := (H a = some (.tup xs) ∧ ¬ A a) ∨ ∀ H', SqT G.K H' a xs
def ScrAt (G : Gx) (H : Hp) (A : Addr → Prop) (a : Addr) (xs : List V) : Prop := (Rd H a (.lst xs) ∧ ¬ A a) ∨ ∀ H', SqL G.K H' a xs
def LstAt (H : Hp) (A : Addr → Prop) (a : Addr) (xs : List V) : Prop := H a = some (.lst xs) ∧ ¬ A a

/-- the data of a dict whose keys are ints and texts -/
def keyD : Key → D
  | .inl i => .int i
  | .inr x => .str x

mutual
/-- v represents d by what is not in A -/
inductive Fz (G : Gx) (H : Hp) (A : Addr → Prop) : D → V → Prop
  | non : Fz G H A .non .non
  | bl (b : Bool) : Fz G H A (.bl b) (.bl b)
  | int (i : Int) : Fz G H A (.int i) (.int i)
  | str (x : Str) : Fz G H A (.str x) (.str x)
  | tup {a : Addr} {xs : List V} {ds : List D} : TupAt G H A a xs → FzL G H A ds xs → Fz G H A (.tup ds) (.ref a)
  | lst {a : Addr} {xs : List V} {ds : List D} : LstAt H A a xs → FzL G H A ds xs → Fz G H A (.lst ds) (.ref a)
  | dct {a : Addr} {kvs : List (Key × V)} {ds : List D} : H a = some (.dK kvs) → ¬ A a → FzL G H A ds (kvs.map (·.2)) → Fz G H A (.dct (kvs.map fun p => keyD p.1) ds) (.ref a)
  | ins {a dx : Addr} {c : Nat} {fs : List (Str × V)} {ds : List D} : H a = some (.ins (G.ca c) dx fs) → ¬ A a → fs.map (·.1) = (G.cf c).take ds.length → FzL G H A ds (fs.map (·.2)) → Fz G H A (.ins c ds) (.ref a)
  | scr {a : Addr} {xs : List V} {ds : List D} : ScrAt G H A a xs → FzL G H A ds xs → Fz G H A (.scr ds) (.ref a)
  | tape {a : Addr} : G.ah = some a → Fz G H A .tape (.ref a)
  | exc0 {a : Addr} {c : Nat} : Fz G H A (.exc a none c []) (.ref a)
  | exc1 {a d : Addr} {c : Nat} {vs : List V} {ds : List D} : H d = some (.xd ((G.cf c).zip vs)) → ¬ A d → vs.length = (G.cf c).length → FzL G H A ds vs → Fz G H A (.exc a (some d) c ds) (.ref a)
  | thk {v : V} {T : Hp → V → Prop} {H0 : Hp} : T H0 v → (∀ b o, H0 b = some o → ¬ G.gm b → H b = some o ∧ ¬ A b) → Fz G H A (.thk T) v
inductive FzL (G : Gx) (H : Hp) (A : Addr → Prop) : List D → List V → Prop
  | nil : FzL G H A [] []
  | cons {d : D} {ds : List D} {v : V} {vs : List V} : Fz G H A d v → FzL G H A ds vs → FzL G H A (d :: ds) (v :: vs)
end

section
variable {G : Gx} {H H' : Hp} {A A' : Addr → Prop}
theorem FzL.length : ∀ {ds : List D} {vs : List V}, FzL G H A ds vs → ds.length = vs.length
  | _, _, .nil => rfl
  | _, _, .cons _ t => by simp [FzL.length t]
theorem FzL.get : ∀ {ds : List D} {vs : List V} {i : Nat} {d : D}, FzL G H A ds vs → ds[i]? = some d → ∃ v, vs[i]? = some v ∧ Fz G H A d v
  | _, _, i, d, .nil, e => by simp at e
  | _, _, 0, d, .cons r _, e => by simp at e; subst e; exact ⟨_, rfl, r⟩
  | _, _, i + 1, d, .cons _ t, e => by
    obtain ⟨v, h1, h2⟩ := FzL.get (i := i) (d := d) t (by simpa using e)
    exact ⟨v, by simpa using h1, h2⟩
theorem FzL.get' : ∀ {ds : List D} {vs : List V} {i : Nat} {v : V}, FzL G H A ds vs → vs[i]? = some v → ∃ d, ds[i]? = some d ∧ Fz G H A d v
  | _, _, i, d, .nil, e => by simp at e
  | _, _, 0, d, .cons r _, e => by simp at e; subst e; exact ⟨_, rfl, r⟩
  | _, _, i + 1, d, .cons _ t, e => by
    obtain ⟨v, h1, h2⟩ := FzL.get' (i := i) (v := d) t (by simpa using e)
    exact ⟨v, by simpa using h1, h2⟩
theorem FzL.append : ∀ {ds es : List D} {vs ws : List V}, FzL G H A ds vs → FzL G H A es ws → FzL G H A (ds ++ es) (vs ++ ws)
  | _, _, _, _, .nil, s => s
  | _, _, _, _, .cons r t, s => .cons r (FzL.append t s)
theorem FzL.set {d : D} {v : V} (r : Fz G H A d v) : ∀ {ds : List D} {vs : List V} (i : Nat), FzL G H A ds vs → FzL G H A (ds.set i d) (vs.set i v)
  | _, _, _, .nil => .nil
  | _, _, 0, .cons _ t => .cons r t
  | _, _, i + 1, .cons q t => .cons q (FzL.set r i t)
theorem FzL.take : ∀ {ds : List D} {vs : List V} (n : Nat), FzL G H A ds vs → FzL G H A (ds.take n) (vs.take n)
  | _, _, 0, _ => by simp; exact .nil
  | _, _, n + 1, .nil => .nil
  | _, _, n + 1, .cons r t => .cons r (FzL.take n t)
theorem FzL.drop : ∀ {ds : List D} {vs : List V} (n : Nat), FzL G H A ds vs → FzL G H A (ds.drop n) (vs.drop n)
  | _, _, 0, r => r
  | _, _, n + 1, .nil => .nil
  | _, _, n + 1, .cons _ t => FzL.drop n t
theorem FzL.rep {d : D} {v : V} (r : Fz G H A d v) : ∀ n : Nat, FzL G H A (List.replicate n d) (List.replicate n v)
  | 0 => .nil
  | n + 1 => .cons r (FzL.rep r n)

/-- nothing outside M has changed, what is avoided anew was free -/
structure Ext (M : Addr → Prop) (H : Hp) (A : Addr → Prop) (H' : Hp) (A' : Addr → Prop) : Prop where
  keep : ∀ b o, H b = some o → ¬ M b → H' b = some o
  new : ∀ a, A' a → A a ∨ H a = none
theorem Rd.some {H : Hp} {a : Addr} {u : HO} (r : Rd H a u) : ∃ o, H a = some o := by
  rcases r with r | ⟨o, r⟩ <;> exact ⟨_, r⟩
theorem TupAt.ext {a : Addr} {xs : List V} (h : TupAt G H A a xs) (e : ∀ b o, H b = some o → ¬ A b → H' b = some o) (n : ∀ a, A' a → A a ∨ H a = none) : TupAt G H' A' a xs := by
  rcases h with ⟨h, na⟩ | h
  · refine .inl ⟨e _ _ h na, fun q => ?_⟩
    rcases n a q with q | q
    · exact na q
    · rw [h] at q; cases q
  · exact .inr h
theorem ScrAt.ext {a : Addr} {xs : List V} (h : ScrAt G H A a xs) (e : ∀ b o, H b = some o → ¬ A b → H' b = some o) (n : ∀ a, A' a → A a ∨ H a = none) : ScrAt G H' A' a xs := by
  rcases h with ⟨h, na⟩ | h
  · refine .inl ⟨h.imp (fun h => e _ _ h na) fun ⟨o, h⟩ => ⟨o, e _ _ h na⟩, fun q => ?_⟩
    rcases n a q with q | q
    · exact na q
    · rcases h with h | ⟨o, h⟩ <;> (rw [h] at q; cases q)
  · exact .inr h
theorem ScrAt.sq {a : Addr} {xs : List V} (h : ScrAt G H A a xs) : SqL G.K H a xs := by
  rcases h with ⟨h, _⟩ | h
  · exact .inl h
  · exact h H
theorem ScrAt.of {a : Addr} {xs : List V} (h : SqL G.K H a xs) (n : ¬ A a) : ScrAt G H A a xs := h.imp (fun h => ⟨h, n⟩) fun h H' => .inr h
theorem LstAt.ext {a : Addr} {xs : List V} (h : LstAt H A a xs) (e : ∀ b o, H b = some o → ¬ A b → H' b = some o) (n : ∀ a, A' a → A a ∨ H a = none) : LstAt H' A' a xs := by
  obtain ⟨h, na⟩ := h
  refine ⟨e _ _ h na, fun q => ?_⟩
  rcases n a q with q | q
  · exact na q
  · rw [h] at q; cases q
mutual
theorem Fz.ext' (e : ∀ b o, H b = some o → ¬ A b → H' b = some o) (n : ∀ a, A' a → A a ∨ H a = none) : ∀ {d : D} {v : V}, Fz G H A d v → Fz G H' A' d v
  | _, _, .non => .non
  | _, _, .bl b => .bl b
  | _, _, .int i => .int i
  | _, _, .str x => .str x
  | _, _, .tup h r => .tup (h.ext e n) (FzL.ext' e n r)
  | _, _, .lst h r => .lst (h.ext e n) (FzL.ext' e n r)
  | _, _, .dct h na r => .dct (e _ _ h na) (fun q => by
      rcases n _ q with q | q
      · exact na q
      · rw [h] at q; cases q) (FzL.ext' e n r)
  | _, _, .ins h na k r => .ins (e _ _ h na) (fun q => by
      rcases n _ q with q | q
      · exact na q
      · rw [h] at q; cases q) k (FzL.ext' e n r)
  | _, _, .scr h r => .scr (h.ext e n) (FzL.ext' e n r)
  | _, _, .tape h => .tape h
  | _, _, .exc0 => .exc0
  | _, _, .exc1 h na l r => .exc1 (e _ _ h na) (fun q => by
      rcases n _ q with q | q
      · exact na q
      · rw [h] at q; cases q) l (FzL.ext' e n r)
  | _, _, .thk w k => .thk w fun b o q m => ⟨e b o (k b o q m).1 (k b o q m).2, fun z => by
      rcases n b z with z | z
      · exact (k b o q m).2 z
      · rw [(k b o q m).1] at z; cases z⟩
theorem FzL.ext' (e : ∀ b o, H b = some o → ¬ A b → H' b = some o) (n : ∀ a, A' a → A a ∨ H a = none) : ∀ {ds : List D} {vs : List V}, FzL G H A ds vs → FzL G H' A' ds vs
  | _, _, .nil => .nil
  | _, _, .cons r t => .cons (Fz.ext' e n r) (FzL.ext' e n t)
end
theorem Fz.ext {M : Addr → Prop} (x : Ext M H A H' A') (hM : ∀ a, M a → A a) {d : D} {v : V} (h : Fz G H A d v) : Fz G H' A' d v :=
  h.ext' (fun b o q n => x.keep b o q fun m => n (hM b m)) x.new
theorem FzL.ext {M : Addr → Prop} (x : Ext M H A H' A') (hM : ∀ a, M a → A a) {d : List D} {v : List V} (h : FzL G H A d v) : FzL G H' A' d v :=
  h.ext' (fun b o q n => x.keep b o q fun m => n (hM b m)) x.new
theorem Fz.mono (s : ∀ a, A' a → A a) {d : D} {v : V} (h : Fz G H A d v) : Fz G H A' d v := h.ext' (fun _ _ q _ => q) fun a q => .inl (s a q)
theorem FzL.mono (s : ∀ a, A' a → A a) {d : List D} {v : List V} (h : FzL G H A d v) : FzL G H A' d v := h.ext' (fun _ _ q _ => q) fun a q => .inl (s a q)
theorem Ext.refl {M : Addr → Prop} : Ext M H A H A := ⟨fun _ _ q _ => q, fun _ q => .inl q⟩
theorem Ext.trans {M : Addr → Prop} {H1 H2 : Hp} {A1 A2 : Addr → Prop} (x : Ext M H A H1 A1) (y : Ext M H1 A1 H2 A2) (hM : ∀ a, M a → A a) : Ext M H A H2 A2 := by
  refine ⟨fun b o q n => y.keep b o (x.keep b o q n) n, fun a q => ?_⟩
  rcases y.new a q with q | q
  · exact x.new a q
  · cases e : H a with
    | none => exact .inr rfl
    | some o =>
      by_cases m : M a
      · exact .inl (hM a m)
      · rw [x.keep a o e m] at q; cases q
theorem Ext.alloc {M : Addr → Prop} {p : Addr} {o : HO} (h : H p = none) : Ext M H A (upd H p o) A :=
  ⟨fun b u q _ => by rw [upd_ne (ne_of_none q h)]; exact q, fun _ q => .inl q⟩
end
end PV

/-! PVb: slots, the tape, the relation of a frame's plain state with the hand layer's, what an expression's outcome says. -/
namespace PV
open PySem L2

inductive Fl where
  | frz | own | lck
  deriving DecidableEq, Inhabited
abbrev Slots := List (Option (D × Fl))
abbrev Tp := List D
/-- a value's kind: frozen, a new container, one that a slot owns -/
inductive Kd where
  | frz | fr | pk
  deriving DecidableEq, Inhabited
inductive Ot where
  | ok (d : D) (k : Kd) (tp : Tp)
  | ex (c : Nat) (f : List D) (tp : Tp)
  | bad
  deriving Inhabited
inductive Otl where
  | ok (ds : List (D × Bool)) (tp : Tp)
  | ex (c : Nat) (f : List D) (tp : Tp)
  | bad
  deriving Inhabited

def adA (A : Addr → Prop) (a : Addr) : Addr → Prop := fun b => A b ∨ b = a

/-- what stands at such an address -/
structure GmC (G : Gx) (H : Hp) (A : Addr → Prop) (tp : List D) (a : Addr) (o : HO) : Prop where
  tape : G.ah = some a → ∃ xs, o = .lst xs ∧ FzL G H A tp xs
  tab : ∀ q, (a, q) ∈ G.tb → ∃ ps : Array Value, o = .tbl ps ∧ PySem.TriplesOk ps.toList ∧ ∀ (pos : Pos) (cv : Value), PySem.codeAmong pos ps.toList = some cv → ∃ c, cv = .ref c ∧ H c = some (LamX.CodeO c q) ∧ ¬ A c
theorem GmC.ext' {G : Gx} {H H' : Hp} {A A' : Addr → Prop} {tp : List D} {a : Addr} {o : HO} (h : GmC G H A tp a o) (e : ∀ b o, H b = some o → ¬ A b → H' b = some o) (n : ∀ a, A' a → A a ∨ H a = none) : GmC G H' A' tp a o :=
  ⟨fun z => by
    obtain ⟨xs, h1, h2⟩ := h.tape z
    exact ⟨xs, h1, h2.ext' e n⟩, fun q z => by
    obtain ⟨ps, h1, h2, h3⟩ := h.tab q z
    refine ⟨ps, h1, h2, fun pos cv hc => ?_⟩
    obtain ⟨c, e1, e2, e3⟩ := h3 pos cv hc
    refine ⟨c, e1, e _ _ e2 e3, fun w => ?_⟩
    rcases n c w with w | w
    · exact e3 w
    · rw [e2] at w; cases w⟩
theorem GmC.nco {G : Gx} {H : Hp} {A : Addr → Prop} {tp : List D} {a : Addr} {o : HO} (h : GmC G H A tp a o) (g : G.gm a) : Nco o := by
  rcases g with g | ⟨q, g⟩
  · obtain ⟨xs, rfl, _⟩ := h.tape g
    exact inferInstance
  · obtain ⟨ps, rfl, _⟩ := h.tab q g
    exact inferInstance
theorem GmC.mono {G : Gx} {H : Hp} {A A' : Addr → Prop} {tp : List D} {a : Addr} {o : HO} (h : GmC G H A tp a o) (s : ∀ a, A' a → A a) : GmC G H A' tp a o := h.ext' (fun _ _ q _ => q) fun a q => .inl (s a q)
/-- the container at a holds d; what is within is frozen -/
def OwC (G : Gx) (H : Hp) (A : Addr → Prop) (a : Addr) : D → Prop
  | .lst ds => ∃ xs, H a = some (.lst xs) ∧ FzL G H A ds xs
  | .dct ks ds => ∃ kvs : List (Key × V), H a = some (.dK kvs) ∧ ks = kvs.map (fun p => keyD p.1) ∧ FzL G H A ds (kvs.map (·.2))
  | .ins c ds => ∃ dx fs, H a = some (.ins (G.ca c) dx fs) ∧ fs.map (·.1) = (G.cf c).take ds.length ∧ FzL G H A ds (fs.map (·.2))
  | _ => False
/-- v is seen as d: frozen, or a container that is owned -/
def OwV (G : Gx) (H : Hp) (A : Addr → Prop) (d : D) (v : V) : Prop := ∃ a, v = .ref a ∧ A a ∧ ¬ G.gm a ∧ OwC G H A a d
def Vw (G : Gx) (H : Hp) (A : Addr → Prop) (d : D) (v : V) : Prop := Fz G H A d v ∨ OwV G H A d v
inductive VwL (G : Gx) (H : Hp) (A : Addr → Prop) : List D → List V → Prop
  | nil : VwL G H A [] []
  | cons {d : D} {ds : List D} {v : V} {vs : List V} : Vw G H A d v → VwL G H A ds vs → VwL G H A (d :: ds) (v :: vs)

/-- by kinds: true for what is owned, seen alone -/
inductive VkL (G : Gx) (H : Hp) (A : Addr → Prop) : List (D × Bool) → List V → Prop
  | nil : VkL G H A [] []
  | fz {d : D} {ds : List (D × Bool)} {v : V} {vs : List V} : Fz G H A d v → VkL G H A ds vs → VkL G H A ((d, false) :: ds) (v :: vs)
  | ow {d : D} {ds : List (D × Bool)} {v : V} {vs : List V} : OwV G H A d v → VkL G H A ds vs → VkL G H A ((d, true) :: ds) (v :: vs)
section
variable {G : Gx} {H H' : Hp} {A A' : Addr → Prop}
theorem VkL.vw : ∀ {ds : List (D × Bool)} {vs : List V}, VkL G H A ds vs → VwL G H A (ds.map (·.1)) vs
  | _, _, .nil => .nil
  | _, _, .fz r t => .cons (.inl r) (VkL.vw t)
  | _, _, .ow r t => .cons (.inr r) (VkL.vw t)
theorem VkL.fzs : ∀ {ds : List (D × Bool)} {vs : List V}, VkL G H A ds vs → ds.any (·.2) = false → FzL G H A (ds.map (·.1)) vs
  | _, _, .nil, _ => .nil
  | _, _, .fz r t, e => .cons r (VkL.fzs t (by simpa using e))
  | _, _, .ow r t, e => by simp at e
theorem VkL.length : ∀ {ds : List (D × Bool)} {vs : List V}, VkL G H A ds vs → ds.length = vs.length
  | _, _, .nil => rfl
  | _, _, .fz r t => by simp [VkL.length t]
  | _, _, .ow r t => by simp [VkL.length t]
theorem OwC.obj {a : Addr} {d : D} (h : OwC G H A a d) : ∃ o, H a = some o := by
  cases d with
  | lst ds => exact ⟨_, h.choose_spec.1⟩
  | dct ks ds => exact ⟨_, h.choose_spec.1⟩
  | ins c ds => exact ⟨_, h.choose_spec.choose_spec.1⟩
  | _ => exact h.elim
theorem OwC.objN {a : Addr} {d : D} (h : OwC G H A a d) : ∃ o, H a = some o ∧ Nco o := by
  cases d with
  | lst ds => exact ⟨_, h.choose_spec.1, inferInstance⟩
  | dct ks ds => exact ⟨_, h.choose_spec.1, inferInstance⟩
  | ins c ds => exact ⟨_, h.choose_spec.choose_spec.1, inferInstance⟩
  | _ => exact h.elim
theorem OwC.ext' {a : Addr} {d : D} (h : OwC G H A a d) (ha : H' a = H a) (e : ∀ b o, H b = some o → ¬ A b → H' b = some o) (n : ∀ a, A' a → A a ∨ H a = none) : OwC G H' A' a d := by
  cases d with
  | lst ds => obtain ⟨xs, h1, h2⟩ := h; exact ⟨xs, ha.trans h1, h2.ext' e n⟩
  | dct ks ds => obtain ⟨kvs, h1, h2, h3⟩ := h; exact ⟨kvs, ha.trans h1, h2, h3.ext' e n⟩
  | ins c ds => obtain ⟨dx, fs, h1, h2, h3⟩ := h; exact ⟨dx, fs, ha.trans h1, h2, h3.ext' e n⟩
  | _ => exact h.elim
theorem OwC.mono {a : Addr} {d : D} (h : OwC G H A a d) (s : ∀ a, A' a → A a) : OwC G H A' a d := h.ext' rfl (fun _ _ q _ => q) fun a q => .inl (s a q)
/-- a container at an address that is not avoided is frozen -/
theorem OwC.frz {a : Addr} {d : D} (h : OwC G H A a d) (na : ¬ A' a) (s : ∀ a, A' a → A a) : Fz G H A' d (.ref a) := by
  cases d with
  | lst ds => obtain ⟨xs, h1, h2⟩ := h; exact .lst ⟨h1, na⟩ (h2.mono s)
  | dct ks ds => obtain ⟨kvs, h1, rfl, h3⟩ := h; exact .dct h1 na (h3.mono s)
  | ins c ds => obtain ⟨dx, fs, h1, h2, h3⟩ := h; exact .ins h1 na h2 (h3.mono s)
  | _ => exact h.elim
theorem VwL.length : ∀ {ds : List D} {vs : List V}, VwL G H A ds vs → ds.length = vs.length
  | _, _, .nil => rfl
  | _, _, .cons _ t => by simp [VwL.length t]
theorem FzL.vw : ∀ {ds : List D} {vs : List V}, FzL G H A ds vs → VwL G H A ds vs
  | _, _, .nil => .nil
  | _, _, .cons r t => .cons (.inl r) (FzL.vw t)
end

structure RelS (G : Gx) (A : Addr → Prop) (S : Slots) (tp : Tp) (σ : St) (H : Hp) : Prop where
  len : S.length = σ.length
  frz : ∀ (i : Nat) (d : D), S[i]? = some (some (d, Fl.frz)) → ∃ v, σ[i]? = some (some v) ∧ Fz G H A d v
  own : ∀ (i : Nat) (d : D) (fl : Fl), fl ≠ Fl.frz → S[i]? = some (some (d, fl)) → ∃ a, σ[i]? = some (some (.ref a)) ∧ A a ∧ ¬ G.gm a ∧ OwC G H A a d
  dis : ∀ (i j : Nat) (a : Addr) (d e : D) (fl : Fl), fl ≠ Fl.frz → S[i]? = some (some (d, .own)) → S[j]? = some (some (e, fl)) → σ[i]? = some (some (.ref a)) → σ[j]? = some (some (.ref a)) → i = j
  avd : ∀ a, A a → ∃ o, H a = some o ∧ Nco o
  tap : ∀ a, G.gm a → A a ∧ ∃ o, H a = some o ∧ GmC G H A tp a o

/-- the heap is kept, but for the tape -/
def Kp (G : Gx) (H H' : Hp) : Prop := ∀ b o, H b = some o → ¬ G.gm b → H' b = some o
section
variable {G : Gx} {H H' H1 : Hp} {A A' : Addr → Prop} {S : Slots} {tp tp' : Tp} {σ : St}
theorem Kp.refl : Kp G H H := fun _ _ q _ => q
theorem Kp.trans (a : Kp G H H1) (b : Kp G H1 H') : Kp G H H' := fun c o q n => b c o (a c o q n) n
theorem Kp.alloc {p : Addr} {o : HO} (h : H p = none) : Kp G H (upd H p o) := fun b u q _ => by rw [upd_ne (ne_of_none q h)]; exact q
theorem Kp.all (h : ∀ b o, H b = some o → H' b = some o) : Kp G H H' := fun b o q _ => h b o q
/-- what is frozen stays frozen -/
theorem RelS.stay (R : RelS G A S tp σ H) (k : Kp G H H') : ∀ b o, H b = some o → ¬ A b → H' b = some o := fun b o q n => k b o q fun e => n (R.tap b e).1
theorem Fz.kp (R : RelS G A S tp σ H) (k : Kp G H H') {d : D} {v : V} (h : Fz G H A d v) : Fz G H' A d v := h.ext' (R.stay k) fun _ q => .inl q
theorem FzL.kp (R : RelS G A S tp σ H) (k : Kp G H H') {d : List D} {v : List V} (h : FzL G H A d v) : FzL G H' A d v := h.ext' (R.stay k) fun _ q => .inl q
theorem GmC.kp (R : RelS G A S tp σ H) (k : Kp G H H') {t : Tp} {a : Addr} {o : HO} (h : GmC G H A t a o) : GmC G H' A t a o := h.ext' (R.stay k) fun _ q => .inl q
theorem OwC.kp (R : RelS G A S tp σ H) (k : Kp G H H') {d : D} {a : Addr} (h : OwC G H A a d) (n : ¬ G.gm a) : OwC G H' A a d := by
  obtain ⟨o, ho⟩ := h.obj
  exact h.ext' ((k a o ho n).trans ho.symm) (R.stay k) fun _ q => .inl q
theorem OwV.kp (R : RelS G A S tp σ H) (k : Kp G H H') {d : D} {v : V} (h : OwV G H A d v) : OwV G H' A d v := by
  obtain ⟨a, e, ha, n, h⟩ := h
  exact ⟨a, e, ha, n, h.kp R k n⟩
theorem Vw.kp (R : RelS G A S tp σ H) (k : Kp G H H') {d : D} {v : V} (h : Vw G H A d v) : Vw G H' A d v := h.imp (·.kp R k) (·.kp R k)
theorem VwL.kp (R : RelS G A S tp σ H) (k : Kp G H H') : ∀ {d : List D} {v : List V}, VwL G H A d v → VwL G H' A d v
  | _, _, .nil => .nil
  | _, _, .cons h t => .cons (h.kp R k) (VwL.kp R k t)
theorem VkL.kp (R : RelS G A S tp σ H) (k : Kp G H H') : ∀ {d : List (D × Bool)} {v : List V}, VkL G H A d v → VkL G H' A d v
  | _, _, .nil => .nil
  | _, _, .fz h t => .fz (h.kp R k) (VkL.kp R k t)
  | _, _, .ow h t => .ow (h.kp R k) (VkL.kp R k t)
/-- the state behind what only lays new objects (and turns the tape) -/
theorem RelS.kp (R : RelS G A S tp σ H) (k : Kp G H H') (ht : ∀ a, G.gm a → ∃ o, H' a = some o ∧ GmC G H' A tp' a o) : RelS G A S tp' σ H' := by
  refine ⟨R.len, fun i d e => ?_, fun i d fl n e => ?_, R.dis, fun a q => ?_, fun a e => ⟨(R.tap a e).1, ht a e⟩⟩
  · obtain ⟨v, h1, h2⟩ := R.frz i d e
    exact ⟨v, h1, h2.kp R k⟩
  · obtain ⟨a, h1, h2, h3, h4⟩ := R.own i d fl n e
    exact ⟨a, h1, h2, h3, h4.kp R k h3⟩
  · obtain ⟨o, ho, hc⟩ := R.avd a q
    by_cases z : G.gm a
    · obtain ⟨xs, h, g⟩ := ht a z
      exact ⟨_, h, g.nco z⟩
    · exact ⟨o, k a o ho z, hc⟩
/-- a new object that is not of the state's -/
theorem RelS.kpAll (R : RelS G A S tp σ H) (k : ∀ b o, H b = some o → H' b = some o) : RelS G A S tp σ H' :=
  R.kp (Kp.all k) fun a e => by
    obtain ⟨_, xs, h1, h2⟩ := R.tap a e
    exact ⟨xs, k _ _ h1, h2.kp R (Kp.all k)⟩
theorem RelS.alloc (R : RelS G A S tp σ H) {p : Addr} {o : HO} (h : H p = none) : RelS G A S tp σ (upd H p o) :=
  R.kpAll fun b u q => by rw [upd_ne (ne_of_none q h)]; exact q
theorem RelS.free (R : RelS G A S tp σ H) {p : Addr} (h : H p = none) : ¬ A p := fun q => by
  obtain ⟨o, e, _⟩ := R.avd p q
  rw [h] at e; cases e
/-- one more address that is avoided -/
theorem RelS.add (R : RelS G A S tp σ H) (k : ∀ b o, H b = some o → H' b = some o) {p : Addr} (h : H p = none) (h' : ∃ o, H' p = some o ∧ Nco o) : RelS G (adA A p) S tp σ H' := by
  have e1 : ∀ b o, H b = some o → ¬ A b → H' b = some o := fun b o q _ => k b o q
  have n1 : ∀ a, adA A p a → A a ∨ H a = none := fun a q => q.elim .inl fun z => .inr (z ▸ h)
  refine ⟨R.len, fun i d e => ?_, fun i d fl n e => ?_, R.dis, fun a q => ?_, fun a e => ?_⟩
  · obtain ⟨v, q1, q2⟩ := R.frz i d e
    exact ⟨v, q1, q2.ext' e1 n1⟩
  · obtain ⟨a, q1, q2, q3, q4⟩ := R.own i d fl n e
    obtain ⟨o, ho⟩ := q4.obj
    exact ⟨a, q1, .inl q2, q3, q4.ext' ((k a o ho).trans ho.symm) e1 n1⟩
  · rcases q with q | q
    · obtain ⟨o, ho, hc⟩ := R.avd a q
      exact ⟨o, k a o ho, hc⟩
    · rw [q]; exact h'
  · obtain ⟨q1, xs, q2, q3⟩ := R.tap a e
    exact ⟨.inl q1, xs, k _ _ q2, q3.ext' e1 n1⟩
theorem RelS.less (R : RelS G A S tp σ H) (s : ∀ a, A' a → A a) (ho : ∀ (i : Nat) (d : D) (fl : Fl) (a : Addr), fl ≠ Fl.frz → S[i]? = some (some (d, fl)) → σ[i]? = some (some (.ref a)) → A' a) (ht : ∀ a, G.gm a → A' a) : RelS G A' S tp σ H := by
  refine ⟨R.len, fun i d e => ?_, fun i d fl n e => ?_, R.dis, fun a q => R.avd a (s a q), fun a e => ?_⟩
  · obtain ⟨v, q1, q2⟩ := R.frz i d e
    exact ⟨v, q1, q2.mono s⟩
  · obtain ⟨a, q1, q2, q3, q4⟩ := R.own i d fl n e
    exact ⟨a, q1, ho i d fl a n e q1, q3, q4.mono s⟩
  · obtain ⟨q1, xs, q2, q3⟩ := R.tap a e
    exact ⟨ht a e, xs, q2, q3.mono s⟩
end

/-- what an expression's value says -/
def Res (G : Gx) (A : Addr → Prop) (S : Slots) (tp' : Tp) (σ : St) (H H' : Hp) (d : D) (k : Kd) (v : V) : Prop :=
  Kp G H H' ∧ match k with
  | .frz => RelS G A S tp' σ H' ∧ Fz G H' A d v
  | .pk => RelS G A S tp' σ H' ∧ OwV G H' A d v
  | .fr => ∃ a, v = .ref a ∧ H a = none ∧ RelS G (adA A a) S tp' σ H' ∧ OwC G H' (adA A a) a d
def ResL (G : Gx) (A : Addr → Prop) (S : Slots) (tp' : Tp) (σ : St) (H H' : Hp) (ds : List (D × Bool)) (vs : List V) : Prop :=
  Kp G H H' ∧ RelS G A S tp' σ H' ∧ VkL G H' A ds vs
section
variable {G : Gx} {H H' H1 : Hp} {A A' : Addr → Prop} {S : Slots} {tp tp' : Tp} {σ : St} {d : D} {k : Kd} {v : V}
theorem RelS.unadd (R0 : RelS G A S tp σ H) (a : Addr) (R : RelS G (adA A a) S tp' σ H') : RelS G A S tp' σ H' :=
  R.less (fun _ q => .inl q) (fun i d fl a n e1 e2 => by
    obtain ⟨b, q1, q2, _⟩ := R0.own i d fl n e1
    rw [e2] at q1; cases q1; exact q2) fun a e => (R0.tap a e).1
theorem Res.rel (R : RelS G A S tp σ H) (r : Res G A S tp' σ H H' d k v) : RelS G A S tp' σ H' := by
  obtain ⟨_, r⟩ := r
  cases k with
  | frz => exact r.1
  | pk => exact r.1
  | fr => obtain ⟨a, _, _, r, _⟩ := r; exact R.unadd a r
theorem Res.vw (R : RelS G A S tp σ H) (r : Res G A S tp' σ H H' d k v) : Vw G H' A d v := by
  obtain ⟨_, r⟩ := r
  cases k with
  | frz => exact .inl r.2
  | pk => exact .inr r.2
  | fr =>
    obtain ⟨a, rfl, h, r, q⟩ := r
    exact .inl (q.frz (R.free h) fun _ z => .inl z)
theorem Res.fz (R : RelS G A S tp σ H) (r : Res G A S tp' σ H H' d k v) (hk : k ≠ .pk) : Fz G H' A d v := by
  obtain ⟨_, r⟩ := r
  cases k with
  | frz => exact r.2
  | pk => exact absurd rfl hk
  | fr =>
    obtain ⟨a, rfl, h, r, q⟩ := r
    exact q.frz (R.free h) fun _ z => .inl z
end
end PV

/-! PVc: readings of expressions by their outcomes; the context; names, constants, displays, arguments. -/
namespace PV
open PySem L2

abbrev ME := Slots → Tp → Ot
abbrev MEs := Slots → Tp → Otl
def Ot.bind : Ot → (D → Kd → Tp → Ot) → Ot
  | .ok d k tp, f => f d k tp
  | .ex c f tp, _ => .ex c f tp
  | .bad, _ => .bad
def Ot.bindL : Ot → (D → Kd → Tp → Otl) → Otl
  | .ok d k tp, f => f d k tp
  | .ex c f tp, _ => .ex c f tp
  | .bad, _ => .bad
def Otl.bind : Otl → (List (D × Bool) → Tp → Ot) → Ot
  | .ok ds tp, f => f ds tp
  | .ex c f tp, _ => .ex c f tp
  | .bad, _ => .bad
def Otl.bindL : Otl → (List (D × Bool) → Tp → Otl) → Otl
  | .ok ds tp, f => f ds tp
  | .ex c f tp, _ => .ex c f tp
  | .bad, _ => .bad

/-- an exception of the class c: its fields, of the names cf c, by its own dict -/
def ExOk (G : Gx) (H : Hp) (A : Addr → Prop) (c : Nat) (fs : List D) (cv : Value) (dd : Option Addr) : Prop :=
  cv = .ref (G.ca c) ∧ (fs = [] ∧ dd = none ∨ ∃ d vs, dd = some d ∧ H d = some (.xd ((G.cf c).zip vs)) ∧ ¬ A d ∧ vs.length = (G.cf c).length ∧ FzL G H A fs vs)
def OutE (G : Gx) (W : WX) (A : Addr → Prop) (S : Slots) (σ : St) (H : Hp) (Q : VK) : Ot → Prop
  | .ok d k tp' => ∀ v H', Res G A S tp' σ H H' d k v → Q v H'
  | .ex c f tp' => ∀ cv dd H', RelS G A S tp' σ H' → Kp G H H' → ExOk G H' A c f cv dd → W cv dd σ H'
  | .bad => False
def OutL (G : Gx) (W : WX) (A : Addr → Prop) (S : Slots) (σ : St) (H : Hp) (Q : List V → Hp → Prop) : Otl → Prop
  | .ok ds tp' => ∀ vs H', ResL G A S tp' σ H H' ds vs → Q vs H'
  | .ex c f tp' => ∀ cv dd H', RelS G A S tp' σ H' → Kp G H H' → ExOk G H' A c f cv dd → W cv dd σ H'
  | .bad => False
def tE (G : Gx) (W : WX) (m : ME) : TE := fun σ H Q => ∃ A S tp, RelS G A S tp σ H ∧ OutE G W A S σ H Q (m S tp)
def tL (G : Gx) (W : WX) (m : MEs) : TA := fun σ H Q => ∃ A S tp, RelS G A S tp σ H ∧ OutL G W A S σ H Q (m S tp)

/-- room for k levels of calls, and no repr under way -/
structure RoomG (k : Nat) (A : Around) : Prop where
  rm : Room k A
  gd : A.guards = some []
theorem RoomG.mono {j k : Nat} {A : Around} (r : RoomG k A) (h : j ≤ k) : RoomG j A := ⟨r.rm.mono h, r.gd⟩
theorem RoomG.deeper {k : Nat} {A : Around} (r : RoomG (k + 1) A) (env : Env) : RoomG k (A.deeper env) := ⟨r.rm.deeper env, r.gd⟩
theorem RoomG.in1 {k : Nat} {A : Around} (r : RoomG (k + 1) A) : RoomG k A.in1 := ⟨r.rm.in1, r.gd⟩
/-- a def's promise, where no repr is under way -/
structure FnOkG (P : Program) (w : World) (K : PySem.W.Frag) (mg : Str → Option Value) (base : Heap) (CX : CXT) (k : Nat) (f : Addr) (fd : FuncData) (ps : List Str) (sp : Sp) : Prop where
  len : ∀ vs H Q E, sp vs H Q E → vs.length = ps.length
  run : ∀ (A : Around) (outer : List Env) (s : Shared) (H : Hp) (args : Args) (us : List Value) (vs : List V) (Q : VK) (E : XK), RoomG k A → Env0 P w K mg base A outer s H → PySem.BindsTo s fd args (ps.zip us) → Vals vs us → sp vs H Q E → codeAny (model P w) A (.call (.ref f) args) (CR CX outer P w H s Q E) s
theorem okG2 {CX : CXT} {P : Program} {w : World} {K : PySem.W.Frag} {mg : Str → Option Value} {base : Heap} {k : Nat} {f : Addr} {name qual : Str} {params : Arguments} {body : List Stmt} {scope : Scope} {dV kV doc pm cdv ct oc : Value} {an od : Option Addr} {osl : Array (Option Value)} {N ps : List Str} {sp : Sp}
    (lk : K.lookup f = some ⟨oc, od, .func (PySem.W.fnOf name qual params body scope dV kV doc pm an cdv ct), osl⟩) (hcd : PySem.W.codeIn K cdv qual = true) (S : FnScope N ps scope) (len : ∀ vs H Q E, sp vs H Q E → vs.length = ps.length)
    (hbody : ∀ (Ar : Around) (outer : List Env) (s : Shared) (H : Hp) (vs : List V) (Q : VK) (E : XK), RoomG k (Ar.deeper (PyProof.Rows.envOfC qual scope s.heap.objs.size f cdv)) → sp vs H Q E →
      ∃ t, PSs (cxOf CX P w K mg base N qual scope f cdv Ar outer s H E) body t ∧ t { nx := fun _ H' => Q .non H', rt := Q } (L2.start N vs) H) : FnOkG P w K mg base CX (k + 1) f (PySem.W.fnOf name qual params body scope dV kV doc pm an cdv ct) ps sp :=
  ⟨len, fun A outer s H args us vs Q E hr e0 hb r hsp => LamX.run_ofS lk hcd S hr.rm e0 hb r (len _ _ _ _ hsp) fun hr' => hbody A outer s H vs Q E ⟨hr', hr.gd⟩ hsp⟩
theorem okG {K : PySem.W.Frag} {x qual : Str} {params : Arguments} {body : List Stmt} {scope : Scope} {dvs : List V} {kws : List (Str × V)} {f : Addr} {fd : FuncData} {CX : CXT} {N ps : List Str} {k : Nat} {sp : Sp} {P : Program} {w : World} {mg : Str → Option Value} {base : Heap}
    (F : FunD K x qual params body scope dvs kws f fd) (S : FnScope N ps scope) (len : ∀ vs H Q E, sp vs H Q E → vs.length = ps.length)
    (hbody : ∀ (cdv : Value) (Ar : Around) (outer : List Env) (s : Shared) (H : Hp) (vs : List V) (Q : VK) (E : XK), RoomG k (Ar.deeper (PyProof.Rows.envOfC qual scope s.heap.objs.size f cdv)) → sp vs H Q E →
      ∃ t, PSs (cxOf CX P w K mg base N qual scope f cdv Ar outer s H E) body t ∧ t { nx := fun _ H' => Q .non H', rt := Q } (L2.start N vs) H) : FnOkG P w K mg base CX (k + 1) f fd ps sp := by
  obtain ⟨oc, od, dV, kV, doc, pm, an, cdv, ct, osl, rfl, lk, hcd, _, _⟩ := F.ex
  exact ⟨len, fun A outer s H args us vs Q E hr e0 hb r hsp => LamX.run_ofS lk hcd S hr.rm e0 hb r (len _ _ _ _ hsp) fun hr' => hbody cdv A outer s H vs Q E ⟨hr', hr.gd⟩ hsp⟩
/-- a context in which the rules below hold; k: levels of calls -/
structure Cw (G : Gx) (k : Nat) (X : Cx) : Prop where
  eP : X.prog = G.P
  ew : X.w = G.w
  eK : X.K = G.K
  em : X.mg = G.mg
  eb : X.base = G.base
  nd : X.N.Nodup
  room : Room k X.A
  gd : X.A.guards = some []
theorem Cw.roomG {G : Gx} {k : Nat} {X : Cx} (C : Cw G k X) : RoomG k X.A := ⟨C.room, C.gd⟩
def EvE (G : Gx) (X : Cx) (e : Expr) (m : ME) : Prop := ∀ W, Takes X W → PE X e (tE G W m)
structure EvL (G : Gx) (X : Cx) (es : List Expr) (m : MEs) : Prop where
  run : ∀ W, Takes X W → PA X es (tL G W m)
  len : ∀ S tp ds tp', m S tp = .ok ds tp' → ds.length = es.length

section
variable {G : Gx} {H H' H1 : Hp} {A A' : Addr → Prop} {S : Slots} {tp tp' : Tp} {σ : St} {d : D} {k : Kd} {v : V} {W : WX} {X : Cx}
theorem Kp.none (R : RelS G A S tp σ H1) (k : Kp G H H1) {a : Addr} (h : H1 a = none) : H a = none := by
  cases e : H a with
  | none => rfl
  | some o =>
    by_cases z : G.gm a
    · obtain ⟨_, xs, q, _⟩ := R.tap a z
      rw [h] at q; cases q
    · rw [k a o e z] at h; cases h
theorem Res.of (R : RelS G A S tp σ H1) (k1 : Kp G H H1) (r : Res G A S tp' σ H1 H' d k v) : Res G A S tp' σ H H' d k v := by
  obtain ⟨q, r⟩ := r
  refine ⟨k1.trans q, ?_⟩
  cases k with
  | frz => exact r
  | pk => exact r
  | fr => obtain ⟨a, h1, h2, h3⟩ := r; exact ⟨a, h1, k1.none R h2, h3⟩
theorem OutE.of {Q : VK} {o : Ot} (R : RelS G A S tp σ H1) (k1 : Kp G H H1) (h : OutE G W A S σ H Q o) : OutE G W A S σ H1 Q o := by
  cases o with
  | ok d k tp' => exact fun v H' r => h v H' (r.of R k1)
  | ex c f tp' => exact fun cv dd H' r q x => h cv dd H' r (k1.trans q) x
  | bad => exact h
theorem OutE.mono {Q Q' : VK} {o : Ot} (h : OutE G W A S σ H Q o) (hq : ∀ v H', Kp G H H' → Q v H' → Q' v H') : OutE G W A S σ H Q' o := by
  cases o with
  | ok d k tp' => exact fun v H' r => hq v H' r.1 (h v H' r)
  | ex c f tp' => exact h
  | bad => exact h
/-- one after another -/
theorem OutE.bind {Q : VK} {o : Ot} {f : D → Kd → Tp → Ot} (R : RelS G A S tp σ H) (h : OutE G W A S σ H Q (o.bind f)) :
    OutE G W A S σ H (fun v H1 => ∃ d k tp1, Res G A S tp1 σ H H1 d k v ∧ RelS G A S tp1 σ H1 ∧ OutE G W A S σ H1 Q (f d k tp1)) o := by
  cases o with
  | ok d k tp' => exact fun v H' r => ⟨d, k, tp', r, r.rel R, OutE.of (r.rel R) r.1 h⟩
  | ex c f tp' => exact h
  | bad => exact h
theorem OutL.of {Q : List V → Hp → Prop} {o : Otl} (R : RelS G A S tp σ H1) (k1 : Kp G H H1) (h : OutL G W A S σ H Q o) : OutL G W A S σ H1 Q o := by
  cases o with
  | ok d tp' => exact fun v H' r => h v H' ⟨k1.trans r.1, r.2⟩
  | ex c f tp' => exact fun cv dd H' r q x => h cv dd H' r (k1.trans q) x
  | bad => exact h
theorem OutE.bindL {Q : List V → Hp → Prop} {o : Ot} {f : D → Kd → Tp → Otl} (R : RelS G A S tp σ H) (h : OutL G W A S σ H Q (o.bindL f)) :
    OutE G W A S σ H (fun v H1 => ∃ d k tp1, Res G A S tp1 σ H H1 d k v ∧ RelS G A S tp1 σ H1 ∧ OutL G W A S σ H1 Q (f d k tp1)) o := by
  cases o with
  | ok d k tp' => exact fun v H' r => ⟨d, k, tp', r, r.rel R, OutL.of (r.rel R) r.1 h⟩
  | ex c f tp' => exact h
  | bad => exact h
theorem OutL.bind {Q : VK} {o : Otl} {f : List (D × Bool) → Tp → Ot} (R : RelS G A S tp σ H) (h : OutE G W A S σ H Q (o.bind f)) :
    OutL G W A S σ H (fun vs H1 => ∃ ds tp1, ResL G A S tp1 σ H H1 ds vs ∧ OutE G W A S σ H1 Q (f ds tp1)) o := by
  cases o with
  | ok d tp' => exact fun v H' r => ⟨d, tp', r, OutE.of r.2.1 r.1 h⟩
  | ex c f tp' => exact h
  | bad => exact h
theorem OutL.bindL {Q : List V → Hp → Prop} {o : Otl} {f : List (D × Bool) → Tp → Otl} (R : RelS G A S tp σ H) (h : OutL G W A S σ H Q (o.bindL f)) :
    OutL G W A S σ H (fun vs H1 => ∃ ds tp1, ResL G A S tp1 σ H H1 ds vs ∧ OutL G W A S σ H1 Q (f ds tp1)) o := by
  cases o with
  | ok d tp' => exact fun v H' r => ⟨d, tp', r, OutL.of r.2.1 r.1 h⟩
  | ex c f tp' => exact h
  | bad => exact h
theorem _root_.L2.PE.imp {X : Cx} {e : Expr} {t t' : TE} (h : PE X e t) (hi : ∀ σ H Q, t' σ H Q → t σ H Q) : PE X e t' := ⟨fun pins s σ H Q I q => h.run pins s σ H Q I (hi _ _ _ q)⟩
theorem _root_.L2.PA.imp {X : Cx} {e : List Expr} {t t' : TA} (h : PA X e t) (hi : ∀ σ H Q, t' σ H Q → t σ H Q) : PA X e t' := ⟨fun pos pins s σ H Q I q => h.run pos pins s σ H Q I (hi _ _ _ q)⟩
theorem _root_.L2.PT.imp {X : Cx} {e : Expr} {t t' : TT} (h : PT X e t) (hi : ∀ σ H Q, t' σ H Q → t σ H Q) : PT X e t' := ⟨fun pins s σ H Q I q => h.run pins s σ H Q I (hi _ _ _ q)⟩
theorem _root_.L2.PW.imp {X : Cx} {e : Expr} {t t' : TT} (h : PW X e t) (hi : ∀ σ H Q, t' σ H Q → t σ H Q) : PW X e t' := ⟨fun wh pins s σ H Q I q => h.run wh pins s σ H Q I (hi _ _ _ q)⟩
theorem _root_.L2.PS.imp {X : Cx} {e : Stmt} {t t' : TS} (h : PS X e t) (hi : ∀ D σ H, t' D σ H → t D σ H) : PS X e t' := ⟨fun pins s σ H D I q => h.run pins s σ H D I (hi D σ H q)⟩
theorem _root_.L2.PI.imp' {X : Cx} {tg e : Expr} {t t' : TI} (h : PI X tg e t) (hi : ∀ σ H Q, t' σ H Q → t σ H Q) : PI X tg e t' := ⟨fun pins s σ H Q I q => h.run pins s σ H Q I (hi _ _ _ q)⟩
theorem _root_.L2.PSs.imp {X : Cx} {e : List Stmt} {t t' : TS} (h : PSs X e t) (hi : ∀ D σ H, t' D σ H → t D σ H) : PSs X e t' := ⟨fun pins s σ H D I q => h.run pins s σ H D I (hi D σ H q)⟩

/-! ### names and constants -/
/-- the slot i; what it owns is seen, not handed on -/
def mNm (i : Nat) : ME := fun S tp => match S[i]? with
  | some (some (d, .frz)) => .ok d .frz tp
  | some (some (d, _)) => .ok d .pk tp
  | _ => .bad
theorem x_nm (i : Nat) {x : Str} {pos : Pos} (hN : X.N[i]? = some x) (hv : Vis X.env.scope x) (hd : (x == ("__debug__" : Str)) = false := by decide) (hcd : (x == ("__classdict__" : Str)) = false := by decide) : EvE G X (.Name x pos) (mNm i) := by
  intro W tk
  refine (pe_var (i := i) hN hv hd hcd).imp fun σ H Q h => ?_
  obtain ⟨A, S, tp, R, h⟩ := h
  unfold mNm at h
  split at h
  · rename_i d e
    obtain ⟨v, h1, h2⟩ := R.frz i d e
    exact ⟨v, h1, h v H ⟨Kp.refl, R, h2⟩⟩
  · rename_i d fl hn e
    obtain ⟨a, h1, h2, h3, h4⟩ := R.own i d fl hn e
    exact ⟨_, h1, h _ H ⟨Kp.refl, R, ⟨a, rfl, h2, h3, h4⟩⟩⟩
  · exact h.elim
def mC (d : D) : ME := fun _ tp => .ok d .frz tp
theorem out_c {Q : VK} (R : RelS G A S tp σ H) (h : OutE G W A S σ H Q (mC d S tp)) (hv : Fz G H A d v) : Q v H := h v H ⟨Kp.refl, R, hv⟩
theorem x_int {i j pos} : EvE G X (.Constant (.int i) j pos) (mC (.int i)) := fun W tk => pe_int.imp fun σ H Q ⟨A, S, tp, R, h⟩ => out_c R h (.int i)
theorem x_bl {b j pos} : EvE G X (.Constant (.bool b) j pos) (mC (.bl b)) := fun W tk => pe_bl.imp fun σ H Q ⟨A, S, tp, R, h⟩ => out_c R h (.bl b)
theorem x_non {j pos} : EvE G X (.Constant .none j pos) (mC .non) := fun W tk => pe_non.imp fun σ H Q ⟨A, S, tp, R, h⟩ => out_c R h .non
theorem x_str {x j pos} : EvE G X (.Constant (.str x) j pos) (mC (.str x)) := fun W tk => pe_str.imp fun σ H Q ⟨A, S, tp, R, h⟩ => out_c R h (.str x)

/-! ### arguments -/
def Kd.isPk : Kd → Bool
  | .pk => true
  | _ => false
def mNil : MEs := fun _ tp => .ok [] tp
def mCons (m : ME) (ms : MEs) : MEs := fun S tp => (m S tp).bindL fun d k tp1 => (ms S tp1).bindL fun ds tp2 => .ok ((d, k.isPk) :: ds) tp2
theorem Res.vk {ds : List (D × Bool)} {vs : List V} (R : RelS G A S tp σ H) (r : Res G A S tp' σ H H' d k v) (R' : RelS G A S tp' σ H') (kp : Kp G H' H1) (t : VkL G H1 A ds vs) : VkL G H1 A ((d, k.isPk) :: ds) (v :: vs) := by
  cases k with
  | frz => exact .fz ((r.fz R (by decide)).kp R' kp) t
  | fr => exact .fz ((r.fz R (by decide)).kp R' kp) t
  | pk => exact .ow (r.2.2.kp R' kp) t
theorem l_nil : EvL G X [] mNil := ⟨fun W tk => pa_nil.imp fun σ H Q ⟨A, S, tp, R, h⟩ => h [] H ⟨Kp.refl, R, .nil⟩, fun S tp ds tp' h => by cases h; rfl⟩
theorem l_cons {e : Expr} {es : List Expr} {m : ME} {ms : MEs} (he : EvE G X e m) (hr : EvL G X es ms) (hs : starEach (e :: es) X.env = (false, eval e X.env) :: starEach es X.env := by rfl) : EvL G X (e :: es) (mCons m ms) := by
  refine ⟨fun W tk => (pa_cons (he W tk) (hr.run W tk) hs).imp fun σ H Q ⟨A, S, tp, R, h⟩ => ?_, fun S tp ds tp' h => ?_⟩
  · refine ⟨A, S, tp, R, (OutE.bindL R h).mono fun v H1 _ q => ?_⟩
    obtain ⟨d, k, tp1, r, R1, q⟩ := q
    refine ⟨A, S, tp1, R1, ?_⟩
    have q2 := OutL.bindL R1 q
    revert q2
    cases ms S tp1 with
    | ok ds tp2 =>
      intro q2 vs H2 r2
      obtain ⟨ds', tp2', r2', q3⟩ := q2 vs H2 r2
      exact q3 (v :: vs) H2 ⟨Kp.refl, r2'.2.1, r.vk R R1 r2'.1 r2'.2.2⟩
    | ex c f tp2 => exact fun q2 => q2
    | bad => exact fun q2 => q2
  · unfold mCons at h
    cases e1 : m S tp with
    | ok d k tp1 =>
      rw [e1] at h
      have h : ((ms S tp1).bindL fun ds tp2 => .ok ((d, k.isPk) :: ds) tp2) = Otl.ok ds tp' := h
      cases e2 : ms S tp1 with
      | ok es' tp2 =>
        rw [e2] at h
        cases h
        rw [List.length_cons, List.length_cons, hr.len _ _ _ _ e2]
      | ex c f tp2 => rw [e2] at h; cases h
      | bad => rw [e2] at h; cases h
    | ex c f tp1 => rw [e1] at h; cases h
    | bad => rw [e1] at h; cases h
end
end PV

/-! PVd: operators, comparisons, builtins by values. -/
namespace PV
open PySem L2

section
variable {G : Gx} {H H' : Hp} {A : Addr → Prop} {v : V}
theorem Vw.int {i : Int} (h : Vw G H A (.int i) v) : v = .int i := by
  rcases h with h | ⟨a, _, _, _, h⟩
  · cases h; rfl
  · exact h.elim
theorem Vw.bl {i : Bool} (h : Vw G H A (.bl i) v) : v = .bl i := by
  rcases h with h | ⟨a, _, _, _, h⟩
  · cases h; rfl
  · exact h.elim
theorem Vw.str {i : Str} (h : Vw G H A (.str i) v) : v = .str i := by
  rcases h with h | ⟨a, _, _, _, h⟩
  · cases h; rfl
  · exact h.elim
theorem Vw.non (h : Vw G H A .non v) : v = .non := by
  rcases h with h | ⟨a, _, _, _, h⟩
  · cases h; rfl
  · exact h.elim
theorem TupAt.sq {a : Addr} {xs : List V} (h : TupAt G H A a xs) : SqT G.K H a xs := by
  rcases h with ⟨h, _⟩ | h
  · exact .of h
  · exact h H
theorem Vw.tup {ds : List D} (h : Vw G H A (.tup ds) v) : ∃ a xs, v = .ref a ∧ TupAt G H A a xs ∧ FzL G H A ds xs := by
  rcases h with h | ⟨a, _, _, _, h⟩
  · cases h with
    | tup h r => exact ⟨_, _, rfl, h, r⟩
  · exact h.elim
theorem Vw.lst {ds : List D} (h : Vw G H A (.lst ds) v) : ∃ a xs, v = .ref a ∧ H a = some (.lst xs) ∧ FzL G H A ds xs := by
  rcases h with h | ⟨a, e, _, _, xs, h, r⟩
  · cases h with
    | lst h r => exact ⟨_, _, rfl, h.1, r⟩
  · exact ⟨a, xs, e, h, r⟩
theorem Vw.ins {c : Nat} {ds : List D} (h : Vw G H A (.ins c ds) v) : ∃ a dx fs, v = .ref a ∧ H a = some (.ins (G.ca c) dx fs) ∧ fs.map (·.1) = (G.cf c).take ds.length ∧ FzL G H A ds (fs.map (·.2)) := by
  rcases h with h | ⟨a, e, _, _, dx, fs, h, r1, r⟩
  · cases h with
    | ins h _ k r => exact ⟨_, _, _, rfl, h, k, r⟩
  · exact ⟨a, dx, fs, e, h, r1, r⟩
theorem Vw.dct {ks ds : List D} (h : Vw G H A (.dct ks ds) v) : ∃ a kvs, v = .ref a ∧ H a = some (.dK kvs) ∧ ks = kvs.map (fun p => keyD p.1) ∧ FzL G H A ds (kvs.map (·.2)) := by
  rcases h with h | ⟨a, e, _, _, kvs, h, r1, r⟩
  · cases h with
    | dct h _ r => exact ⟨_, _, rfl, h, rfl, r⟩
  · exact ⟨a, kvs, e, h, r1, r⟩

/-- what an operation by values says -/
def RsV (G : Gx) (A : Addr → Prop) (H H' : Hp) (d : D) (k : Kd) (v : V) : Prop :=
  (∀ b o, H b = some o → H' b = some o) ∧ match k with
  | .frz => Fz G H' A d v
  | .fr => ∃ a, v = .ref a ∧ H a = none ∧ OwC G H' (adA A a) a d
  | .pk => False
abbrev Avd (A : Addr → Prop) (H : Hp) : Prop := ∀ a, A a → ∃ o, H a = some o ∧ Nco o
theorem RsV.frz (h : Fz G H A d v) : RsV G A H H d .frz v := ⟨fun _ _ q => q, h⟩
theorem Avd.free (h : Avd A H) {p : Addr} (e : H p = none) : ¬ A p := fun q => by
  obtain ⟨o, z, _⟩ := h p q
  rw [e] at z; cases z
theorem RsV.tup {p : Addr} {xs : List V} {ds : List D} (hA : Avd A H) (e : H p = none) (r : FzL G H A ds xs) : RsV G A H (upd H p (.tup xs)) (.tup ds) .frz (.ref p) := by
  refine ⟨fun b o q => by rw [upd_ne (ne_of_none q e)]; exact q, .tup (.inl ⟨upd_same, hA.free e⟩) (r.ext' (fun b o q _ => by rw [upd_ne (ne_of_none q e)]; exact q) fun _ q => .inl q)⟩
theorem RsV.lst {p : Addr} {xs : List V} {ds : List D} (e : H p = none) (r : FzL G H A ds xs) : RsV G A H (upd H p (.lst xs)) (.lst ds) .fr (.ref p) := by
  refine ⟨fun b o q => by rw [upd_ne (ne_of_none q e)]; exact q, p, rfl, e, xs, upd_same, r.ext' (fun b o q _ => by rw [upd_ne (ne_of_none q e)]; exact q) fun a q => ?_⟩
  rcases q with q | q
  · exact .inl q
  · exact .inr (q ▸ e)
theorem RsV.res {S : Slots} {tp : Tp} {σ : St} {k : Kd} (R : RelS G A S tp σ H) (r : RsV G A H H' d k v) : Res G A S tp σ H H' d k v := by
  obtain ⟨q, r⟩ := r
  refine ⟨Kp.all q, ?_⟩
  cases k with
  | frz => exact ⟨R.kpAll q, r⟩
  | pk => exact r.elim
  | fr =>
    obtain ⟨a, h1, h2, h3⟩ := r
    exact ⟨a, h1, h2, R.add q h2 h3.objN, h3⟩
end

abbrev F2 := D → D → Option (D × Kd)
abbrev FL := List D → Option (D × Kd)
def rV2 (G : Gx) (f : F2) : R2 := fun x y H Q => ∃ A d e r k, Avd A H ∧ Vw G H A d x ∧ Vw G H A e y ∧ f d e = some (r, k) ∧ ∀ v H', RsV G A H H' r k v → Q v H'
def rVL (G : Gx) (f : FL) : List V → Hp → VK → Prop := fun xs H Q => ∃ A ds r k, Avd A H ∧ VwL G H A ds xs ∧ f ds = some (r, k) ∧ ∀ v H', RsV G A H H' r k v → Q v H'
def ofO (o : Option (D × Kd)) (tp : Tp) : Ot := match o with
  | some (r, k) => .ok r k tp
  | none => .bad
def mBin (f : F2) (a b : ME) : ME := fun S tp => (a S tp).bind fun d _ tp1 => (b S tp1).bind fun e _ tp2 => ofO (f d e) tp2

section
variable {G : Gx} {X : Cx} {a b : Expr} {ma mb : ME} {pos : Pos} {f : F2} {W : WX} {σ : St} {H : Hp} {Q : VK}
theorem bin_reads (h : tE G W (mBin f ma mb) σ H Q) : tOp (rV2 G f) (tE G W ma) (tE G W mb) σ H Q := by
  obtain ⟨A, S, tp, R, h⟩ := h
  refine ⟨A, S, tp, R, (OutE.bind R h).mono fun x H1 _ q => ?_⟩
  obtain ⟨d, k, tp1, r1, R1, q⟩ := q
  refine ⟨A, S, tp1, R1, (OutE.bind R1 q).mono fun y H2 k2 q => ?_⟩
  obtain ⟨e, k', tp2, r2, R2, q⟩ := q
  unfold ofO at q
  split at q
  · rename_i r kk ef
    exact ⟨A, d, e, r, kk, R2.avd, (r1.vw R).kp R1 k2, r2.vw R1, ef, fun v H' rs => q v H' (rs.res R2)⟩
  · exact q.elim
theorem x_bin {op : Operator} (ho : OpR X (binaryOp op) (rV2 G f)) (ha : EvE G X a ma) (hb : EvE G X b mb) : EvE G X (.BinOp a op b pos) (mBin f ma mb) :=
  fun W tk => (pe_op ho (ha W tk) (hb W tk)).imp fun _ _ _ h => bin_reads h
theorem x_cmp {op : CmpOp} (ho : OpR X (compareOp op) (rV2 G f)) (ha : EvE G X a ma) (hb : EvE G X b mb) (hm : behindInMarks op b = false := by rfl) : EvE G X (.Compare a [op] [b] pos) (mBin f ma mb) :=
  fun W tk => (pe_cmpR ho (ha W tk) (hb W tk) hm).imp fun _ _ _ h => bin_reads h
end


/-! ### arithmetic -/
def in64 (i : Int) : Bool := decide (-(2 ^ 64) < i) && decide (i < 2 ^ 64)
def fAdd : F2
  | .int i, .int j => some (.int (i + j), .frz)
  | .str x, .str y => if x.length + y.length ≤ 16777216 then some (.str (x ++ y), .frz) else none
  | .lst xs, .lst ys => if xs.length + ys.length ≤ 16777216 then some (.lst (xs ++ ys), .fr) else none
  | .tup xs, .tup ys => if xs.length + ys.length ≤ 16777216 then some (.tup (xs ++ ys), .frz) else none
  | _, _ => none
def fSub : F2
  | .int i, .int j => some (.int (i - j), .frz)
  | _, _ => none
def fMul : F2
  | .int i, .int j => if in64 i || in64 j then some (.int (i * j), .frz) else none
  | .lst xs, .int k => if decide (-(2 ^ 63) ≤ k) && decide (k < 2 ^ 63) && decide (xs.length * k.toNat ≤ 16777216) then some (.lst (List.replicate k.toNat xs).flatten, .fr) else none
  | .tup xs, .int k => if decide (-(2 ^ 63) ≤ k) && decide (k ≤ 1000) && decide (xs.length ≤ 1000) then some (.tup (List.replicate k.toNat xs).flatten, .frz) else none
  | _, _ => none
def fFdiv : F2
  | .int i, .int j => if decide (0 < j) && decide (j < 1073741824) then some (.int (i / j), .frz) else none
  | _, _ => none
def fMod : F2
  | .int i, .int j => if 0 < j then some (.int (i % j), .frz) else none
  | _, _ => none
def fPow : F2
  | .int i, .int j => if decide (0 ≤ j) && decide (j ≤ 1000000) && decide (i.natAbs < 2 ^ 64) then some (.int (i ^ j.toNat), .frz) else none
  | _, _ => none
def fLt : F2
  | .int i, .int j => some (.bl (decide (i < j)), .frz)
  | _, _ => none
def fLe : F2
  | .int i, .int j => some (.bl (decide (i ≤ j)), .frz)
  | _, _ => none
def fGt : F2
  | .int i, .int j => some (.bl (decide (j < i)), .frz)
  | _, _ => none
def fGe : F2
  | .int i, .int j => some (.bl (decide (j ≤ i)), .frz)
  | _, _ => none
theorem FzL.flat {G : Gx} {H : Hp} {A : Addr → Prop} {ds : List D} {vs : List V} (r : FzL G H A ds vs) : ∀ n : Nat, FzL G H A (List.replicate n ds).flatten (List.replicate n vs).flatten
  | 0 => .nil
  | n + 1 => by
    rw [List.replicate_succ, List.replicate_succ, List.flatten_cons, List.flatten_cons]
    exact r.append (r.flat n)
section
variable {G : Gx} {X : Cx} {k : Nat}
theorem sz_le {n : Nat} (h : n ≤ 16777216) : n ≤ sizeLine := by rw [sizeLine_eq]; exact h
theorem sz_lt {n : Nat} (h : n < 16777216) : n < sizeLine := by rw [sizeLine_eq]; exact h
theorem v_add (hK : X.K = G.K) : OpR X (binaryOp .Add) (rV2 G fAdd) := by
  intro pins s σ H x y v u Q I rx ry h
  obtain ⟨A, d, e, r, k, hA, h1, h2, hf, q⟩ := h
  unfold fAdd at hf
  split at hf
  · cases hf
    exact op_add pins s σ H x y v u Q I rx ry ⟨_, _, h1.int, h2.int, q _ _ (.frz (.int _))⟩
  · split at hf
    · rename_i hz
      cases hf
      exact op_add_str pins s σ H x y v u Q I rx ry ⟨_, _, h1.str, h2.str, sz_le hz, q _ _ (.frz (.str _))⟩
    · cases hf
  · split at hf
    · rename_i hz
      cases hf
      obtain ⟨a, xs, rfl, ha, r1⟩ := h1.lst
      obtain ⟨b, ys, rfl, hb, r2⟩ := h2.lst
      exact op_cat pins s σ H _ _ v u Q I rx ry ⟨a, b, xs, ys, rfl, rfl, ha, hb, by rw [← r1.length, ← r2.length]; exact sz_le hz, fun p hp => q _ _ (.lst hp (r1.append r2))⟩
    · cases hf
  · split at hf
    · rename_i hz
      cases hf
      obtain ⟨a, xs, rfl, ha, r1⟩ := h1.tup
      obtain ⟨b, ys, rfl, hb, r2⟩ := h2.tup
      refine op_catA pins s σ H _ _ v u Q I rx ry ⟨a, b, xs, ys, rfl, rfl, by rw [hK]; exact ha.sq, by rw [hK]; exact hb.sq, by rw [← r1.length, ← r2.length]; exact sz_le hz, fun e => ?_, fun _ e => ?_, fun _ _ p hp => ?_⟩
      · subst e
        cases r1
        exact q _ _ (.frz (.tup hb r2))
      · subst e
        cases r2
        rw [List.append_nil] at q
        exact q _ _ (.frz (.tup ha r1))
      · exact q _ _ (.tup hA hp (r1.append r2))
    · cases hf
  · cases hf
theorem v_sub : OpR X (binaryOp .Sub) (rV2 G fSub) := by
  intro pins s σ H x y v u Q I rx ry h
  obtain ⟨A, d, e, r, k, hA, h1, h2, hf, q⟩ := h
  unfold fSub at hf
  split at hf
  · cases hf
    exact op_sub pins s σ H x y v u Q I rx ry ⟨_, _, h1.int, h2.int, q _ _ (.frz (.int _))⟩
  · cases hf
theorem in64_ok {i : Int} (h : in64 i = true) : -(2 ^ 64) < i ∧ i < 2 ^ 64 := by
  unfold in64 at h
  rw [Bool.and_eq_true] at h
  exact ⟨of_decide_eq_true h.1, of_decide_eq_true h.2⟩
theorem v_fdiv : OpR X (binaryOp .FloorDiv) (rV2 G fFdiv) := by
  intro pins s σ H x y v u Q I rx ry h
  obtain ⟨A, d, e, r, k, hA, h1, h2, hf, q⟩ := h
  unfold fFdiv at hf
  split at hf
  · split at hf
    · rename_i hz
      cases hf
      rw [Bool.and_eq_true] at hz
      exact op_fdiv pins s σ H x y v u Q I rx ry ⟨_, _, h1.int, h2.int, ⟨of_decide_eq_true hz.1, of_decide_eq_true hz.2⟩, q _ _ (.frz (.int _))⟩
    · cases hf
  · cases hf
theorem v_mod : OpR X (binaryOp .Mod) (rV2 G fMod) := by
  intro pins s σ H x y v u Q I rx ry h
  obtain ⟨A, d, e, r, k, hA, h1, h2, hf, q⟩ := h
  unfold fMod at hf
  split at hf
  · split at hf
    · rename_i hz
      cases hf
      exact op_mod pins s σ H x y v u Q I rx ry ⟨_, _, h1.int, h2.int, hz, q _ _ (.frz (.int _))⟩
    · cases hf
  · cases hf
theorem v_pow : OpR X (binaryOp .Pow) (rV2 G fPow) := by
  intro pins s σ H x y v u Q I rx ry h
  obtain ⟨A, d, e, r, k, hA, h1, h2, hf, q⟩ := h
  unfold fPow at hf
  split at hf
  · split at hf
    · rename_i hz
      cases hf
      rw [Bool.and_eq_true, Bool.and_eq_true] at hz
      exact op_pow pins s σ H x y v u Q I rx ry ⟨_, _, h1.int, h2.int, ⟨of_decide_eq_true hz.1.1, of_decide_eq_true hz.1.2, of_decide_eq_true hz.2⟩, q _ _ (.frz (.int _))⟩
    · cases hf
  · cases hf
theorem v_lt : OpR X (compareOp .Lt) (rV2 G fLt) := by
  intro pins s σ H x y v u Q I rx ry h
  obtain ⟨A, d, e, r, k, hA, h1, h2, hf, q⟩ := h
  unfold fLt at hf
  split at hf
  · cases hf
    exact op_lt pins s σ H x y v u Q I rx ry ⟨_, _, h1.int, h2.int, q _ _ (.frz (.bl _))⟩
  · cases hf
theorem v_le : OpR X (compareOp .LtE) (rV2 G fLe) := by
  intro pins s σ H x y v u Q I rx ry h
  obtain ⟨A, d, e, r, k, hA, h1, h2, hf, q⟩ := h
  unfold fLe at hf
  split at hf
  · cases hf
    exact op_le pins s σ H x y v u Q I rx ry ⟨_, _, h1.int, h2.int, q _ _ (.frz (.bl _))⟩
  · cases hf
theorem v_gt : OpR X (compareOp .Gt) (rV2 G fGt) := by
  intro pins s σ H x y v u Q I rx ry h
  obtain ⟨A, d, e, r, k, hA, h1, h2, hf, q⟩ := h
  unfold fGt at hf
  split at hf
  · cases hf
    exact op_gt pins s σ H x y v u Q I rx ry ⟨_, _, h1.int, h2.int, q _ _ (.frz (.bl _))⟩
  · cases hf
theorem v_ge : OpR X (compareOp .GtE) (rV2 G fGe) := by
  intro pins s σ H x y v u Q I rx ry h
  obtain ⟨A, d, e, r, k, hA, h1, h2, hf, q⟩ := h
  unfold fGe at hf
  split at hf
  · cases hf
    exact op_ge pins s σ H x y v u Q I rx ry ⟨_, _, h1.int, h2.int, q _ _ (.frz (.bl _))⟩
  · cases hf
end

/-! ### equality of plain data -/
mutual
def D.py : D → PyData
  | .bl b => .bool b
  | .int i => .int i
  | .str x => .str x
  | .tup l => .tuple (D.pys l)
  | .lst l => .list (D.pys l)
  | _ => .none
def D.pys : List D → List PyData
  | [] => []
  | d :: ds => d.py :: D.pys ds
end
mutual
/-- == of plain data -/
def D.eqb : D → D → Bool
  | .non, .non => true
  | .bl a, .bl b => a == b
  | .bl a, .int j => (if a then 1 else 0) == j
  | .int i, .bl b => i == (if b then 1 else 0)
  | .int i, .int j => i == j
  | .str x, .str y => x == y
  | .lst xs, .lst ys => D.eqbs xs ys
  | .tup xs, .tup ys => D.eqbs xs ys
  | _, _ => false
def D.eqbs : List D → List D → Bool
  | [], [] => true
  | x :: xs, y :: ys => D.eqb x y && D.eqbs xs ys
  | _, _ => false
end
mutual
def D.dep : D → Nat
  | .tup l => D.deps l + 1
  | .lst l => D.deps l + 1
  | _ => 0
def D.deps : List D → Nat
  | [] => 0
  | d :: ds => max d.dep (D.deps ds)
end
end PV

/-! PVe: equality, identity, membership, subscripts, builtins. -/
namespace PV
open PySem L2

mutual
/-- none, flags, ints, texts (well made), lists and tuples of such -/
def D.pl0 : D → Bool
  | .non => true
  | .bl _ => true
  | .int _ => true
  | .str x => PyData.strOk x
  | .tup l => D.pls0 l
  | .lst l => D.pls0 l
  | _ => false
def D.pls0 : List D → Bool
  | [] => true
  | d :: ds => d.pl0 && D.pls0 ds
end
mutual
theorem D.py_lay : ∀ {d : D}, d.pl0 = true → d.py.canLay0 = true ∧ d.py.depth = d.dep
  | .non, _ => ⟨rfl, rfl⟩
  | .bl _, _ => ⟨rfl, rfl⟩
  | .int _, _ => ⟨rfl, rfl⟩
  | .str x, h => ⟨h, rfl⟩
  | .tup l, h => by
    obtain ⟨h2, h3⟩ := D.pys_lay (ds := l) h
    exact ⟨h2, by show PyData.depthAll (D.pys l) + 1 = D.deps l + 1; rw [h3]⟩
  | .lst l, h => by
    obtain ⟨h2, h3⟩ := D.pys_lay (ds := l) h
    exact ⟨h2, by show PyData.depthAll (D.pys l) + 1 = D.deps l + 1; rw [h3]⟩
  | .dct _ _, h => by cases h
  | .ins _ _, h => by cases h
  | .exc _ _ _ _, h => by cases h
  | .scr _, h => by cases h
  | .tape, h => by cases h
  | .thk _, h => by cases h
theorem D.pys_lay : ∀ {ds : List D}, D.pls0 ds = true → PyData.canLayAll0 (D.pys ds) = true ∧ PyData.depthAll (D.pys ds) = D.deps ds
  | [], _ => ⟨rfl, rfl⟩
  | d :: ds, h => by
    have h : (d.pl0 && D.pls0 ds) = true := h
    rw [Bool.and_eq_true] at h
    obtain ⟨h2, h3⟩ := D.py_lay h.1
    obtain ⟨h5, h6⟩ := D.pys_lay h.2
    refine ⟨?_, ?_⟩
    · show (d.py.canLay0 && PyData.canLayAll0 (D.pys ds)) = true
      rw [h2, h5]; rfl
    · show max d.py.depth (PyData.depthAll (D.pys ds)) = max d.dep (D.deps ds)
      rw [h3, h6]
end
mutual
theorem D.eqv_eqb : ∀ (d e : D), d.pl0 = true → e.pl0 = true → PyData.eqv d.py e.py = D.eqb d e
  | .tup xs, .tup ys, h1, h2 => D.eqvs_eqbs xs ys h1 h2
  | .lst xs, .lst ys, h1, h2 => D.eqvs_eqbs xs ys h1 h2
  | .dct _ _, _, h, _ => by cases h
  | .ins _ _, _, h, _ => by cases h
  | .exc _ _ _ _, _, h, _ => by cases h
  | .scr _, _, h, _ => by cases h
  | .tape, _, h, _ => by cases h
  | .thk _, _, h, _ => by cases h
  | _, .dct _ _, _, h => by cases h
  | _, .ins _ _, _, h => by cases h
  | _, .exc _ _ _ _, _, h => by cases h
  | _, .scr _, _, h => by cases h
  | _, .tape, _, h => by cases h
  | _, .thk _, _, h => by cases h
  | .non, .non, _, _ => rfl
  | .non, .bl _, _, _ => rfl
  | .non, .int _, _, _ => rfl
  | .non, .str _, _, _ => rfl
  | .non, .tup _, _, _ => rfl
  | .non, .lst _, _, _ => rfl
  | .bl _, .non, _, _ => rfl
  | .bl _, .bl _, _, _ => rfl
  | .bl _, .int _, _, _ => rfl
  | .bl _, .str _, _, _ => rfl
  | .bl _, .tup _, _, _ => rfl
  | .bl _, .lst _, _, _ => rfl
  | .int _, .non, _, _ => rfl
  | .int _, .bl _, _, _ => rfl
  | .int _, .int _, _, _ => rfl
  | .int _, .str _, _, _ => rfl
  | .int _, .tup _, _, _ => rfl
  | .int _, .lst _, _, _ => rfl
  | .str _, .non, _, _ => rfl
  | .str _, .bl _, _, _ => rfl
  | .str _, .int _, _, _ => rfl
  | .str _, .str _, _, _ => rfl
  | .str _, .tup _, _, _ => rfl
  | .str _, .lst _, _, _ => rfl
  | .tup _, .non, _, _ => rfl
  | .tup _, .bl _, _, _ => rfl
  | .tup _, .int _, _, _ => rfl
  | .tup _, .str _, _, _ => rfl
  | .tup _, .lst _, _, _ => rfl
  | .lst _, .non, _, _ => rfl
  | .lst _, .bl _, _, _ => rfl
  | .lst _, .int _, _, _ => rfl
  | .lst _, .str _, _, _ => rfl
  | .lst _, .tup _, _, _ => rfl
theorem D.eqvs_eqbs : ∀ (d e : List D), D.pls0 d = true → D.pls0 e = true → PyData.eqvAll (D.pys d) (D.pys e) = D.eqbs d e
  | [], [], _, _ => rfl
  | [], _ :: _, _, _ => rfl
  | _ :: _, [], _, _ => rfl
  | x :: xs, y :: ys, h1, h2 => by
    have h1 : (x.pl0 && D.pls0 xs) = true := h1
    have h2 : (y.pl0 && D.pls0 ys) = true := h2
    rw [Bool.and_eq_true] at h1 h2
    show (PyData.eqv x.py y.py && PyData.eqvAll (D.pys xs) (D.pys ys)) = (D.eqb x y && D.eqbs xs ys)
    rw [D.eqv_eqb x y h1.1 h2.1, D.eqvs_eqbs xs ys h1.2 h2.2]
end
mutual
theorem Fz.dp {G : Gx} {H : Hp} {A : Addr → Prop} : ∀ {d : D} {v : V}, Fz G H A d v → d.pl0 = true → Dp G.K H v d.py
  | _, _, .non, _ => .non
  | _, _, .bl b, _ => .bl b
  | _, _, .int i, _ => .int i
  | _, _, .str x, _ => .str x
  | _, _, .tup h r, q => .tup h.sq (FzL.dp r q)
  | _, _, .lst h r, q => .lst (.of h.1) (FzL.dp r q)
  | _, _, .dct _ _ _, q => by cases q
  | _, _, .ins _ _ _ _, q => by cases q
  | _, _, .scr _ _, q => by cases q
  | _, _, .tape _, q => by cases q
  | _, _, .exc0, q => by cases q
  | _, _, .exc1 _ _ _ _, q => by cases q
  | _, _, .thk _ _, q => by cases q
theorem FzL.dp {G : Gx} {H : Hp} {A : Addr → Prop} : ∀ {ds : List D} {vs : List V}, FzL G H A ds vs → D.pls0 ds = true → DpAll G.K H vs (D.pys ds)
  | _, _, .nil, _ => .nil
  | _, _, .cons (d := d) (ds := ds) r t, q => by
    have q : (d.pl0 && D.pls0 ds) = true := q
    rw [Bool.and_eq_true] at q
    exact .cons (Fz.dp r q.1) (FzL.dp t q.2)
end
theorem Vw.dp {G : Gx} {H : Hp} {A : Addr → Prop} {d : D} {v : V} (h : Vw G H A d v) (q : d.pl0 = true) : Dp G.K H v d.py := by
  rcases h with h | ⟨a, rfl, _, _, h⟩
  · exact h.dp q
  · cases d with
    | lst ds =>
      obtain ⟨xs, h1, h2⟩ := h
      exact .lst (.of h1) (h2.dp q)
    | dct _ _ => cases q
    | ins _ _ => cases q
    | _ => exact h.elim
/-- a datum that == takes -/
def D.ok (d : D) : Bool := d.pl0 && decide (d.dep ≤ 60)
theorem D.ok_shaped {d : D} (h : d.ok = true) : d.pl0 = true ∧ SeqAt.shaped d.py = true := by
  unfold D.ok at h
  rw [Bool.and_eq_true] at h
  obtain ⟨h1, h2⟩ := D.py_lay h.1
  refine ⟨h.1, ?_⟩
  unfold SeqAt.shaped
  rw [h1, h2]
  have := of_decide_eq_true h.2
  simp
  omega
def fEq : F2 := fun d e => if d.ok && e.ok then some (.bl (D.eqb d e), .frz) else none
def fNe : F2 := fun d e => if d.ok && e.ok then some (.bl (!D.eqb d e), .frz) else none
def D.isN : D → Bool
  | .non => true
  | _ => false
def fIn : F2 := fun d e => match e with
  | .lst ds => if d.ok && (D.lst ds).ok then some (.bl (ds.any fun z => D.eqb z d), .frz) else none
  | _ => none
def fNotIn : F2 := fun d e => match e with
  | .lst ds => if d.ok && (D.lst ds).ok then some (.bl (!ds.any fun z => D.eqb z d), .frz) else none
  | _ => none
section
variable {G : Gx} {X : Cx} {k : Nat}
theorem v_eq (hK : X.K = G.K) (hu : X.A.units + 64 < cLine) : OpR X (compareOp .Eq) (rV2 G fEq) := by
  intro pins s σ H x y v u Q I rx ry h
  obtain ⟨A, d, e, r, k, hA, h1, h2, hf, q⟩ := h
  unfold fEq at hf
  split at hf
  · rename_i hz
    cases hf
    rw [Bool.and_eq_true] at hz
    obtain ⟨p1, s1⟩ := D.ok_shaped hz.1
    obtain ⟨p2, s2⟩ := D.ok_shaped hz.2
    exact op_eqD hu pins s σ H x y v u Q I rx ry ⟨_, _, by rw [hK]; exact h1.dp p1, by rw [hK]; exact h2.dp p2, s1, s2, by rw [D.eqv_eqb d e p1 p2]; exact q _ _ (.frz (.bl _))⟩
  · cases hf
theorem v_ne (hK : X.K = G.K) (hu : X.A.units + 64 < cLine) : OpR X (compareOp .NotEq) (rV2 G fNe) := by
  intro pins s σ H x y v u Q I rx ry h
  obtain ⟨A, d, e, r, k, hA, h1, h2, hf, q⟩ := h
  unfold fNe at hf
  split at hf
  · rename_i hz
    cases hf
    rw [Bool.and_eq_true] at hz
    obtain ⟨p1, s1⟩ := D.ok_shaped hz.1
    obtain ⟨p2, s2⟩ := D.ok_shaped hz.2
    exact op_neD hu pins s σ H x y v u Q I rx ry ⟨_, _, by rw [hK]; exact h1.dp p1, by rw [hK]; exact h2.dp p2, s1, s2, by rw [D.eqv_eqb d e p1 p2]; exact q _ _ (.frz (.bl _))⟩
  · cases hf
theorem Vw.isnon {H : Hp} {A : Addr → Prop} {d : D} {v : V} (h : Vw G H A d v) (hd : ∀ T, d ≠ .thk T) : decide (v = .non) = d.isN := by
  rcases h with h | ⟨a, rfl, _, _, h⟩
  · cases h <;> first | rfl | exact absurd rfl (hd _)
  · cases d <;> first | rfl | exact h.elim
end
end PV

/-! PVf: identity, membership, subscripts, slices, builtins. -/
namespace PV
open PySem L2

def fIs2 (n : Bool) : F2
  | .thk _, _ => none
  | d, .non => some (.bl (xor n d.isN), .frz)
  | .bl a, .bl b => some (.bl (xor n (a == b)), .frz)
  | _, _ => none
theorem any_eqv {d : D} (h : d.pl0 = true) : ∀ {ds : List D}, D.pls0 ds = true → ((D.pys ds).any fun z => PyData.eqv z d.py) = ds.any fun z => D.eqb z d
  | [], _ => rfl
  | e :: ds, q => by
    have q : (e.pl0 && D.pls0 ds) = true := q
    rw [Bool.and_eq_true] at q
    show (PyData.eqv e.py d.py || (D.pys ds).any _) = (D.eqb e d || ds.any _)
    rw [D.eqv_eqb e d q.1 h, any_eqv h q.2]
section
variable {G : Gx} {X : Cx} {k : Nat}
theorem v_is : OpR X (compareOp .Is) (rV2 G (fIs2 false)) := by
  intro pins s σ H x y v u Q I rx ry h
  obtain ⟨A, d, e, r, k, hA, h1, h2, hf, q⟩ := h
  unfold fIs2 at hf
  split at hf
  · cases hf
  · rename_i d1 hd
    cases hf
    refine op_isN pins s σ H x y v u Q I rx ry ⟨h2.non, ?_⟩
    rw [h1.isnon hd]
    refine q _ _ (.frz ?_)
    rw [Bool.false_xor]
    exact .bl _
  · rename_i a b _
    cases hf
    refine L2.op_is_bl pins s σ H x y v u Q I rx ry ⟨_, _, h1.bl, h2.bl, ?_⟩
    refine q _ _ (.frz ?_)
    rw [Bool.false_xor]
    exact .bl _
  · cases hf
theorem v_isnot : OpR X (compareOp .IsNot) (rV2 G (fIs2 true)) := by
  intro pins s σ H x y v u Q I rx ry h
  obtain ⟨A, d, e, r, k, hA, h1, h2, hf, q⟩ := h
  unfold fIs2 at hf
  split at hf
  · cases hf
  · rename_i d1 hd
    cases hf
    refine op_notN pins s σ H x y v u Q I rx ry ⟨h2.non, ?_⟩
    rw [h1.isnon hd]
    refine q _ _ (.frz ?_)
    rw [Bool.true_xor]
    exact .bl _
  · rename_i a b _
    cases hf
    refine L2.op_isnot_bl pins s σ H x y v u Q I rx ry ⟨_, _, h1.bl, h2.bl, ?_⟩
    refine q _ _ (.frz ?_)
    rw [Bool.true_xor]
    exact .bl _
  · cases hf
theorem v_in (hK : X.K = G.K) (hu : X.A.units + 65 < cLine) : OpR X (compareOp .In) (rV2 G fIn) := by
  intro pins s σ H x y v u Q I rx ry h
  obtain ⟨A, d, e, r, k, hA, h1, h2, hf, q⟩ := h
  unfold fIn at hf
  split at hf
  · rename_i ds
    split at hf
    · rename_i hz
      cases hf
      rw [Bool.and_eq_true] at hz
      obtain ⟨p1, s1⟩ := D.ok_shaped hz.1
      obtain ⟨p2, s2⟩ := D.ok_shaped hz.2
      refine op_inD hu pins s σ H x y v u Q I rx ry ⟨_, D.pys ds, by rw [hK]; exact h1.dp p1, by rw [hK]; exact h2.dp p2, s1, s2, ?_⟩
      rw [any_eqv p1 p2]
      exact q _ _ (.frz (.bl _))
    · cases hf
  · cases hf
theorem v_notin (hK : X.K = G.K) (hu : X.A.units + 65 < cLine) : OpR X (compareOp .NotIn) (rV2 G fNotIn) := by
  intro pins s σ H x y v u Q I rx ry h
  obtain ⟨A, d, e, r, k, hA, h1, h2, hf, q⟩ := h
  unfold fNotIn at hf
  split at hf
  · rename_i ds
    split at hf
    · rename_i hz
      cases hf
      rw [Bool.and_eq_true] at hz
      obtain ⟨p1, s1⟩ := D.ok_shaped hz.1
      obtain ⟨p2, s2⟩ := D.ok_shaped hz.2
      refine op_notInD hu pins s σ H x y v u Q I rx ry ⟨_, D.pys ds, by rw [hK]; exact h1.dp p1, by rw [hK]; exact h2.dp p2, s1, s2, ?_⟩
      rw [any_eqv p1 p2]
      exact q _ _ (.frz (.bl _))
    · cases hf
  · cases hf
end

/-! ### subscripts -/
/-- the place that an index of any sign means, the item there -/
def atD (l : List D) (i : Int) : Option D := if 0 ≤ i then l[i.toNat]? else if -(l.length : Int) ≤ i then l[(i + l.length).toNat]? else none
def fIx : F2
  | .lst l, .int i => (atD l i).map fun d => (d, .frz)
  | .tup l, .int i => (atD l i).map fun d => (d, .frz)
  | _, _ => none
theorem atD_at {G : Gx} {H : Hp} {A : Addr → Prop} {l : List D} {xs : List V} {i : Int} {d : D} (r : FzL G H A l xs) (h : atD l i = some d) : ∃ v, atI xs i = some v ∧ Fz G H A d v := by
  unfold atD at h
  unfold atI ixN
  split at h
  · rename_i h0
    rw [if_pos h0]
    obtain ⟨v, h1, h2⟩ := r.get h
    have hl := (List.getElem?_eq_some_iff.mp h1).1
    rw [if_pos (by omega)]
    exact ⟨v, h1, h2⟩
  · rename_i h0
    rw [if_neg h0]
    split at h
    · rename_i h1
      rw [r.length] at h1 h
      rw [if_pos h1]
      obtain ⟨v, h1, h2⟩ := r.get h
      exact ⟨v, h1, h2⟩
    · cases h
section
variable {G : Gx} {X : Cx} {k : Nat} {a b : Expr} {ma mb : ME} {pos : Pos}
theorem v_ix (hK : X.K = G.K) : IxR X (rV2 G fIx) := by
  intro value slice pins s σ H x y v u Q I rx ry h hs
  obtain ⟨A, d, e, r, k, hA, h1, h2, hf, q⟩ := h
  unfold fIx at hf
  split at hf
  · rename_i l i
    rw [Option.map_eq_some_iff] at hf
    obtain ⟨d, hd, e⟩ := hf
    cases e
    obtain ⟨a, xs, rfl, ha, r1⟩ := h1.lst
    obtain ⟨w, hw, hz⟩ := atD_at r1 hd
    exact ix_list value slice pins s σ H _ y v u Q I rx ry ⟨a, xs, i, w, rfl, h2.int, .of ha, hw, q _ _ (.frz hz)⟩ hs
  · rename_i l i
    rw [Option.map_eq_some_iff] at hf
    obtain ⟨d, hd, e⟩ := hf
    cases e
    obtain ⟨a, xs, rfl, ha, r1⟩ := h1.tup
    obtain ⟨w, hw, hz⟩ := atD_at r1 hd
    exact ix_tup value slice pins s σ H _ y v u Q I rx ry ⟨a, xs, i, w, rfl, h2.int, by rw [hK]; exact ha.sq, hw, q _ _ (.frz hz)⟩ hs
  · cases hf
theorem x_ix {f : F2} (ho : IxR X (rV2 G f)) (ha : EvE G X a ma) (hb : EvE G X b mb) (hs : PlainIx b := by exact fun _ _ => rfl) : EvE G X (.Subscript a b pos) (mBin f ma mb) :=
  fun W tk => (pe_ix ho (ha W tk) (hb W tk) hs).imp fun _ _ _ h => bin_reads h
/-- hand[i], the tape -/
def mTap (mb : ME) : ME := fun S tp => (mb S tp).bind fun e _ tp2 => match e with
  | .int i => ofO ((atD tp2 i).map fun d => (d, .frz)) tp2
  | _ => .bad
end

/-! ### builtins -/
def mB (f : FL) (ms : MEs) : ME := fun S tp => (ms S tp).bind fun ds tp1 => ofO (f (ds.map (·.1))) tp1
section
variable {G : Gx} {X : Cx} {k : Nat} {e : Expr} {es : List Expr} {ms : MEs} {p pos : Pos} {f : FL} {x : Str} {id T : String} {W : WX} {σ : St} {H : Hp} {Q : VK}
theorem b_reads (h : tE G W (mB f ms) σ H Q) : tCB (rVL G f) (tL G W ms) σ H Q := by
  obtain ⟨A, S, tp, R, h⟩ := h
  refine ⟨A, S, tp, R, ?_⟩
  have h2 := OutL.bind R h
  revert h2
  cases ms S tp with
  | ok ds tp2 =>
    intro h2 vs H2 r2
    obtain ⟨ds', tp2', r2', q⟩ := h2 vs H2 r2
    unfold ofO at q
    split at q
    · rename_i r kk ef
      exact ⟨A, ds'.map (·.1), r, kk, r2'.2.1.avd, r2'.2.2.vw, ef, fun v H' rs => q v H' (rs.res r2'.2.1)⟩
    · exact q.elim
  | ex c f tp2 => exact fun q2 => q2
  | bad => exact fun q2 => q2
theorem x_b (hc : CallR X (.builtin id) (rVL G f)) (hg : Gl X x) (hm : X.mg x = none) (hv : bootBuiltins x = some (.builtin id)) (ha : EvL G X (e :: es) ms) (hn : x ≠ "__name__" := by decide) (hdb : (x == ("__debug__" : Str)) = false := by decide)
    (hs : starEach (e :: es) X.env = (false, eval e X.env) :: starEach es X.env := by rfl) (hpl : (backTo pos (starEach es X.env)).any (·.1) = false := by rfl) : EvE G X (.Call (.Name x p) (e :: es) [] pos) (mB f ms) :=
  fun W tk => (pe_callB hc hg hm hv (ha.run W tk) hn hdb hs hpl).imp fun _ _ _ h => b_reads h
theorem x_ty (hc : CallR X (.type T) (rVL G f)) (hg : Gl X x) (hm : X.mg x = none) (hv : bootBuiltins x = some (.type T)) (ha : EvL G X (e :: es) ms) (hn : x ≠ "__name__" := by decide) (hdb : (x == ("__debug__" : Str)) = false := by decide)
    (hs : starEach (e :: es) X.env = (false, eval e X.env) :: starEach es X.env := by rfl) (hpl : (backTo pos (starEach es X.env)).any (·.1) = false := by rfl) : EvE G X (.Call (.Name x p) (e :: es) [] pos) (mB f ms) :=
  fun W tk => (pe_callTy hc hg hm hv (ha.run W tk) hn hdb hs hpl).imp fun _ _ _ h => b_reads h
end
theorem VwL.one {G : Gx} {H : Hp} {A : Addr → Prop} {d : D} {vs : List V} (h : VwL G H A [d] vs) : ∃ v, vs = [v] ∧ Vw G H A d v := by
  cases h with
  | cons h t => cases t; exact ⟨_, rfl, h⟩
theorem VwL.two {G : Gx} {H : Hp} {A : Addr → Prop} {d e : D} {vs : List V} (h : VwL G H A [d, e] vs) : ∃ v w, vs = [v, w] ∧ Vw G H A d v ∧ Vw G H A e w := by
  cases h with
  | cons h t =>
    obtain ⟨w, rfl, h2⟩ := t.one
    exact ⟨_, _, rfl, h, h2⟩
def toBls : List D → Option (List Bool)
  | [] => some []
  | .bl b :: ds => (toBls ds).map (b :: ·)
  | _ => none
def toInts : List D → Option (List Int)
  | [] => some []
  | .int b :: ds => (toInts ds).map (b :: ·)
  | _ => none
theorem toBls_eq : ∀ {ds : List D} {bs : List Bool}, toBls ds = some bs → ds = bs.map D.bl
  | [], bs, h => by cases h; rfl
  | d :: ds, bs, h => by
    unfold toBls at h
    split at h
    · rename_i e; cases e
    · rename_i e
      cases e
      rw [Option.map_eq_some_iff] at h
      obtain ⟨cs, h1, rfl⟩ := h
      rw [toBls_eq h1]; rfl
    · cases h
theorem toInts_eq : ∀ {ds : List D} {bs : List Int}, toInts ds = some bs → ds = bs.map D.int
  | [], bs, h => by cases h; rfl
  | d :: ds, bs, h => by
    unfold toInts at h
    split at h
    · rename_i e; cases e
    · rename_i e
      cases e
      rw [Option.map_eq_some_iff] at h
      obtain ⟨cs, h1, rfl⟩ := h
      rw [toInts_eq h1]; rfl
    · cases h
@[simp] theorem toBls_map (bs : List Bool) : toBls (bs.map D.bl) = some bs := by
  induction bs with
  | nil => rfl
  | cons b bs ih => simp [toBls, ih]
@[simp] theorem toInts_map (bs : List Int) : toInts (bs.map D.int) = some bs := by
  induction bs with
  | nil => rfl
  | cons b bs ih => simp [toInts, ih]
theorem FzL.bls {G : Gx} {H : Hp} {A : Addr → Prop} : ∀ {bs : List Bool} {vs : List V}, FzL G H A (bs.map D.bl) vs → vs = bs.map V.bl
  | [], _, .nil => rfl
  | b :: bs, _, .cons h t => by
    cases h
    rw [FzL.bls t]; rfl
theorem FzL.ints {G : Gx} {H : Hp} {A : Addr → Prop} : ∀ {bs : List Int} {vs : List V}, FzL G H A (bs.map D.int) vs → vs = bs.map V.int
  | [], _, .nil => rfl
  | b :: bs, _, .cons h t => by
    cases h
    rw [FzL.ints t]; rfl
theorem FzL.ofInts {G : Gx} {H : Hp} {A : Addr → Prop} : ∀ bs : List Int, FzL G H A (bs.map D.int) (bs.map V.int)
  | [] => .nil
  | b :: bs => .cons (.int b) (FzL.ofInts bs)
def fLen : FL
  | [.lst l] => some (.int l.length, .frz)
  | [.tup l] => some (.int l.length, .frz)
  | [.str x] => if x.length ≤ 16777216 then some (.int x.length, .frz) else none
  | _ => none
def fTuple : FL
  | [.lst l] => some (.tup l, .frz)
  | [.tup l] => some (.tup l, .frz)
  | _ => none
def fList : FL
  | [.lst l] => some (.lst l, .fr)
  | [.tup l] => some (.lst l, .fr)
  | _ => none
def fAll : FL
  | [.lst l] => (toBls l).map fun bs => (.bl (bs.all id), .frz)
  | _ => none
def fAny : FL
  | [.lst l] => (toBls l).map fun bs => (.bl (bs.any id), .frz)
  | _ => none
def fSum : FL
  | [.lst l] => (toInts l).map fun bs => (.int bs.sum, .frz)
  | _ => none
def fInt : FL
  | [.int i] => some (.int i, .frz)
  | [.bl b] => some (.int (if b then 1 else 0), .frz)
  | _ => none
def fAbs : FL
  | [.int i] => some (.int (if i < 0 then -i else i), .frz)
  | _ => none
def fMax2 : FL
  | [.int i, .int j] => some (.int (if j > i then j else i), .frz)
  | _ => none
def fMin2 : FL
  | [.int i, .int j] => some (.int (if j < i then j else i), .frz)
  | _ => none
section
variable {G : Gx} {X : Cx} {k : Nat}
theorem v_len (hK : X.K = G.K) : CallR X (.builtin "len") (rVL G fLen) := by
  intro pins s σ H xs us Q I r h
  obtain ⟨A, ds, r', k, hA, h1, hf, q⟩ := h
  unfold fLen at hf
  split at hf
  · cases hf
    obtain ⟨v, rfl, h2⟩ := h1.one
    obtain ⟨a, xs, rfl, ha, r1⟩ := h2.lst
    exact call_len_seq pins s σ H _ us Q I r ⟨a, xs, rfl, .inl (.of ha), by rw [r1.length] at q; exact q _ _ (.frz (.int _))⟩
  · cases hf
    obtain ⟨v, rfl, h2⟩ := h1.one
    obtain ⟨a, xs, rfl, ha, r1⟩ := h2.tup
    exact call_len_seq pins s σ H _ us Q I r ⟨a, xs, rfl, .inr (by rw [hK]; exact ha.sq), by rw [r1.length] at q; exact q _ _ (.frz (.int _))⟩
  · split at hf
    · rename_i hz
      cases hf
      obtain ⟨v, rfl, h2⟩ := h1.one
      exact call_len_str pins s σ H _ us Q I r ⟨_, by rw [h2.str], sz_le hz, q _ _ (.frz (.int _))⟩
    · cases hf
  · cases hf
theorem v_tuple (hK : X.K = G.K) : CallR X (.type "tuple") (rVL G fTuple) := by
  intro pins s σ H xs us Q I r h
  obtain ⟨A, ds, r', k, hA, h1, hf, q⟩ := h
  unfold fTuple at hf
  split at hf
  · cases hf
    obtain ⟨v, rfl, h2⟩ := h1.one
    obtain ⟨a, xs, rfl, ha, r1⟩ := h2.lst
    exact call_tuple_of pins s σ H _ us Q I r ⟨a, xs, rfl, .inl ⟨.of ha, fun l hl => q _ _ (.tup hA hl r1)⟩⟩
  · cases hf
    obtain ⟨v, rfl, h2⟩ := h1.one
    obtain ⟨a, xs, rfl, ha, r1⟩ := h2.tup
    exact call_tuple_of pins s σ H _ us Q I r ⟨a, xs, rfl, .inr ⟨by rw [hK]; exact ha.sq, q _ _ (.frz (.tup ha r1))⟩⟩
  · cases hf
theorem v_list (hK : X.K = G.K) : CallR X (.type "list") (rVL G fList) := by
  intro pins s σ H xs us Q I r h
  obtain ⟨A, ds, r', k, hA, h1, hf, q⟩ := h
  unfold fList at hf
  split at hf
  · cases hf
    obtain ⟨v, rfl, h2⟩ := h1.one
    obtain ⟨a, xs, rfl, ha, r1⟩ := h2.lst
    exact call_list_of pins s σ H _ us Q I r ⟨a, xs, rfl, .inl (.of ha), fun l hl => q _ _ (.lst hl r1)⟩
  · cases hf
    obtain ⟨v, rfl, h2⟩ := h1.one
    obtain ⟨a, xs, rfl, ha, r1⟩ := h2.tup
    exact call_list_of pins s σ H _ us Q I r ⟨a, xs, rfl, .inr (by rw [hK]; exact ha.sq), fun l hl => q _ _ (.lst hl r1)⟩
  · cases hf
end
end PV

/-! PVg: displays, more builtins, calls of defs, fields. -/
namespace PV
open PySem L2

/-! ### displays -/
def mTup (ms : MEs) : ME := fun S tp => (ms S tp).bind fun ds tp1 => if ds.any (·.2) = false then .ok (.tup (ds.map (·.1))) .frz tp1 else .bad
def mLst (ms : MEs) : ME := fun S tp => (ms S tp).bind fun ds tp1 => if ds.any (·.2) = false then .ok (.lst (ds.map (·.1))) .fr tp1 else .bad
section
variable {G : Gx} {X : Cx} {k : Nat} {es : List Expr} {ms : MEs} {pos : Pos}
theorem x_tup {x1} (h : EvL G X es ms) (hn : es.length ≤ 16777216 := by decide) : EvE G X (.Tuple es x1 pos) (mTup ms) := by
  refine fun W tk => (pe_tup (h.run W tk)).imp fun σ H Q ⟨A, S, tp, R, q⟩ => ⟨A, S, tp, R, ?_⟩
  have q2 := OutL.bind R q
  have hl := h.len S tp
  revert q2 hl
  cases ms S tp with
  | ok ds tp2 =>
    intro q2 hl vs H2 r2
    obtain ⟨ds', tp2', r2', q⟩ := q2 vs H2 r2
    have e1 := hl ds tp2 rfl
    have e2 := r2.2.2.length
    refine ⟨sz_le (by omega), fun p hp => ?_⟩
    split at q
    · rename_i e
      exact q _ _ ((RsV.tup r2'.2.1.avd hp (r2'.2.2.fzs e)).res r2'.2.1)
    · exact q.elim
  | ex c f tp2 => exact fun q2 _ => q2
  | bad => exact fun q2 _ => q2
theorem x_lst (h : EvL G X es ms) (hn : es.length ≤ 16777216 := by decide) : EvE G X (.List es pos) (mLst ms) := by
  refine fun W tk => (pe_lst (h.run W tk)).imp fun σ H Q ⟨A, S, tp, R, q⟩ => ⟨A, S, tp, R, ?_⟩
  have q2 := OutL.bind R q
  have hl := h.len S tp
  revert q2 hl
  cases ms S tp with
  | ok ds tp2 =>
    intro q2 hl vs H2 r2
    obtain ⟨ds', tp2', r2', q⟩ := q2 vs H2 r2
    have e1 := hl ds tp2 rfl
    have e2 := r2.2.2.length
    refine ⟨sz_le (by omega), fun p hp => ?_⟩
    split at q
    · rename_i e
      exact q _ _ ((RsV.lst hp (r2'.2.2.fzs e)).res r2'.2.1)
    · exact q.elim
  | ex c f tp2 => exact fun q2 _ => q2
  | bad => exact fun q2 _ => q2
end

/-! ### more builtins -/
section
variable {G : Gx} {X : Cx} {k : Nat}
theorem v_all (hK : X.K = G.K) (hc : X.calm = true) : CallR X (.builtin "all") (rVL G fAll) := by
  intro pins s σ H xs us Q I r h
  obtain ⟨A, ds, r', k, hA, h1, hf, q⟩ := h
  unfold fAll at hf
  split at hf
  · rw [Option.map_eq_some_iff] at hf
    obtain ⟨bs, hb, e⟩ := hf
    cases e
    rw [toBls_eq hb] at h1
    obtain ⟨v, rfl, h2⟩ := h1.one
    obtain ⟨a, xs, rfl, ha, r1⟩ := h2.lst
    rw [r1.bls] at ha
    exact cr_all hc pins s σ H _ us Q I r ⟨a, bs, rfl, .of ha, q _ _ (.frz (.bl _))⟩
  · cases hf
theorem v_any (hK : X.K = G.K) (hc : X.calm = true) : CallR X (.builtin "any") (rVL G fAny) := by
  intro pins s σ H xs us Q I r h
  obtain ⟨A, ds, r', k, hA, h1, hf, q⟩ := h
  unfold fAny at hf
  split at hf
  · rw [Option.map_eq_some_iff] at hf
    obtain ⟨bs, hb, e⟩ := hf
    cases e
    rw [toBls_eq hb] at h1
    obtain ⟨v, rfl, h2⟩ := h1.one
    obtain ⟨a, xs, rfl, ha, r1⟩ := h2.lst
    rw [r1.bls] at ha
    exact cr_any hc pins s σ H _ us Q I r ⟨a, bs, rfl, .of ha, q _ _ (.frz (.bl _))⟩
  · cases hf
theorem v_sum (hK : X.K = G.K) (hc : X.calm = true) : CallR X (.builtin "sum") (rVL G fSum) := by
  intro pins s σ H xs us Q I r h
  obtain ⟨A, ds, r', k, hA, h1, hf, q⟩ := h
  unfold fSum at hf
  split at hf
  · rw [Option.map_eq_some_iff] at hf
    obtain ⟨bs, hb, e⟩ := hf
    cases e
    rw [toInts_eq hb] at h1
    obtain ⟨v, rfl, h2⟩ := h1.one
    obtain ⟨a, xs, rfl, ha, r1⟩ := h2.lst
    rw [r1.ints] at ha
    exact cr_sum hc pins s σ H _ us Q I r ⟨a, bs, rfl, .of ha, q _ _ (.frz (.int _))⟩
  · cases hf
theorem v_int : CallR X (.type "int") (rVL G fInt) := by
  intro pins s σ H xs us Q I r h
  obtain ⟨A, ds, r', k, hA, h1, hf, q⟩ := h
  unfold fInt at hf
  split at hf
  · cases hf
    obtain ⟨v, rfl, h2⟩ := h1.one
    rw [h2.int] at r
    exact call_int1 pins s σ H _ us Q I r (.inl ⟨_, rfl, q _ _ (.frz (.int _))⟩)
  · cases hf
    obtain ⟨v, rfl, h2⟩ := h1.one
    rw [h2.bl] at r
    exact call_int1 pins s σ H _ us Q I r (.inr ⟨_, rfl, q _ _ (.frz (.int _))⟩)
  · cases hf
theorem v_abs : CallR X (.builtin "abs") (rVL G fAbs) := by
  intro pins s σ H xs us Q I r h
  obtain ⟨A, ds, r', k, hA, h1, hf, q⟩ := h
  unfold fAbs at hf
  split at hf
  · cases hf
    obtain ⟨v, rfl, h2⟩ := h1.one
    rw [h2.int] at r
    exact call_abs pins s σ H _ us Q I r ⟨_, rfl, q _ _ (.frz (.int _))⟩
  · cases hf
theorem v_max2 (hc : X.calm = true) : CallR X (.builtin "max") (rVL G fMax2) := by
  intro pins s σ H xs us Q I r h
  obtain ⟨A, ds, r', k, hA, h1, hf, q⟩ := h
  unfold fMax2 at hf
  split at hf
  · cases hf
    obtain ⟨v, w, rfl, h2, h3⟩ := h1.two
    rw [h2.int, h3.int] at r
    exact call_max2 hc pins s σ H _ us Q I r ⟨_, _, rfl, q _ _ (.frz (.int _))⟩
  · cases hf
theorem v_min2 (hc : X.calm = true) : CallR X (.builtin "min") (rVL G fMin2) := by
  intro pins s σ H xs us Q I r h
  obtain ⟨A, ds, r', k, hA, h1, hf, q⟩ := h
  unfold fMin2 at hf
  split at hf
  · cases hf
    obtain ⟨v, w, rfl, h2, h3⟩ := h1.two
    rw [h2.int, h3.int] at r
    exact call_min2 hc pins s σ H _ us Q I r ⟨_, _, rfl, q _ _ (.frz (.int _))⟩
  · cases hf
end

/-! ### calls of defs -/
abbrev Sem1 := List (D × Bool) → Tp → Ot
def TapOk (G : Gx) (H : Hp) (A : Addr → Prop) (tp : Tp) : Prop := ∀ a, G.gm a → A a ∧ ∃ o, H a = some o ∧ GmC G H A tp a o
def OutC (G : Gx) (A : Addr → Prop) (H : Hp) (Q : VK) (E : XK) : Ot → Prop
  | .ok d .frz tp' => ∀ v H', Kp G H H' → TapOk G H' A tp' → Fz G H' A d v → Q v H'
  | .ok d .fr tp' => ∀ a H', Kp G H H' → H a = none → TapOk G H' (adA A a) tp' → OwC G H' (adA A a) a d → Q (.ref a) H'
  | .ok _ .pk _ => False
  | .ex c f tp' => ∀ cv dd H', Kp G H H' → TapOk G H' A tp' → ExOk G H' A c f cv dd → E cv dd H'
  | .bad => False
/-- the promise of a def: it answers what sem says -/
def SpV (G : Gx) (n : Nat) (sem : Sem1) : Sp := fun vs H Q E => ∃ A ds tp, ds.length = n ∧ Avd A H ∧ TapOk G H A tp ∧ VkL G H A ds vs ∧ OutC G A H Q E (sem ds tp)
structure FnF (G : Gx) (k : Nat) (x : Str) (ps : List Str) (sem : Sem1) : Prop where
  ex : ∃ f fd, FnOkG G.P G.w G.K G.mg G.base (L2.CX G.P G.w) k f fd ps (SpV G ps.length sem) ∧ G.mg x = some (.ref f) ∧ PySem.W.keepIn G.K (.ref f) = true ∧ Binds G.K fd ps []
def mCall (sem : Sem1) (ms : MEs) : ME := fun S tp => (ms S tp).bind fun ds tp1 => sem ds tp1
section
variable {G : Gx} {X : Cx} {k : Nat} {e : Expr} {es : List Expr} {ms : MEs} {p pos : Pos} {x : Str} {ps : List Str} {sem : Sem1} {A : Addr → Prop} {S : Slots} {tp tp' : Tp} {σ : St} {H H' : Hp} {W : WX}
theorem RelS.tapOk (R : RelS G A S tp σ H) : TapOk G H A tp := R.tap
theorem RelS.after (R : RelS G A S tp σ H) (k : Kp G H H') (t : TapOk G H' A tp') : RelS G A S tp' σ H' := R.kp k fun a e => (t a e).2
/-- a new container behind a call -/
theorem RelS.afterNew (R : RelS G A S tp σ H) (k : Kp G H H') {a : Addr} (ha : H a = none) (ho : ∃ o, H' a = some o ∧ Nco o) (t : TapOk G H' (adA A a) tp') : RelS G (adA A a) S tp' σ H' := by
  have e1 : ∀ b o, H b = some o → ¬ A b → H' b = some o := R.stay k
  have n1 : ∀ b, adA A a b → A b ∨ H b = none := fun b q => q.elim .inl fun z => .inr (z ▸ ha)
  refine ⟨R.len, fun i d e => ?_, fun i d fl n e => ?_, R.dis, fun b q => ?_, t⟩
  · obtain ⟨v, q1, q2⟩ := R.frz i d e
    exact ⟨v, q1, q2.ext' e1 n1⟩
  · obtain ⟨b, q1, q2, q3, q4⟩ := R.own i d fl n e
    obtain ⟨o, ho⟩ := q4.obj
    exact ⟨b, q1, .inl q2, q3, q4.ext' ((k b o ho q3).trans ho.symm) e1 n1⟩
  · rcases q with q | q
    · obtain ⟨o, ho, hc⟩ := R.avd b q
      by_cases z : G.gm b
      · obtain ⟨_, xs, h, g⟩ := t b z
        exact ⟨_, h, g.nco z⟩
      · exact ⟨o, k b o ho z, hc⟩
    · rw [q]; exact ho
theorem OutE.call {Q : VK} {o : Ot} (R : RelS G A S tp σ H) (h : OutE G W A S σ H Q o) (hk : ∀ d tp', o ≠ .ok d .pk tp') : OutC G A H Q (fun cv dd H' => W cv dd σ H') o := by
  cases o with
  | ok d k tp' =>
    cases k with
    | frz => exact fun v H' kp t q => h v H' ⟨kp, R.after kp t, q⟩
    | fr => exact fun a H' kp ha t q => h _ H' ⟨kp, a, rfl, ha, R.afterNew kp ha q.objN t, q⟩
    | pk => exact absurd rfl (hk d tp')
  | ex c f tp' => exact fun cv dd H' kp t q => h cv dd H' (R.after kp t) kp q
  | bad => exact h
def noPk (sem : Sem1) : Prop := ∀ ds tp d tp', sem ds tp ≠ .ok d .pk tp'
theorem passesAt (tk : Takes X W) (σ : St) : PassesAt (L2.CX X.prog X.w) X σ (fun cv dd H' => W cv dd σ H') :=
  fun _ _ _ e s' I c => tk e s' (XE.of_call I (fun _ _ _ h => h) c)
/-- the callee runs; what it raises is wished for at these slots -/
theorem run_callG {X : Cx} {pins : List (Addr × Obj)} {s : Shared} {k : Nat} {f : Addr} {fd : FuncData} {ps : List Str} {sp : Sp} {σ : St} {H : Hp} {Q : VK} {us : List Value} {vs : List V} {E : XK} (F : FnOkG X.prog X.w X.K X.mg X.base (L2.CX X.prog X.w) k f fd ps sp) (hr : RoomG k X.A) (hb : Binds X.K fd ps [])
    (hx : PassesAt (L2.CX X.prog X.w) X σ E) (I : Inv X pins σ H s) (r : Vals vs us) (h : sp vs H Q E) : wpAny (model X.prog X.w) X.A (call (.ref f) us) (EP X pins σ Q) X.xe s := by
  have l1 : us.length = ps.length := by rw [← r.length]; exact F.len _ _ _ _ h
  have bd := hb s us I.kIn (by rw [List.append_nil]; exact l1)
  rw [List.append_nil] at bd
  refine wpAny_call (codeAny_mono (F.run X.A X.stack s H _ us vs Q E hr I.env0 bd r h) fun o s1 ho => ?_)
  match o, ho with
  | .error u, ho => exact hx pins H s u s1 I ho
  | .ok (.ret u), ho => exact I.after ho
  | .ok .next, ho => exact ho.elim
  | .ok .brk, ho => exact ho.elim
  | .ok .cont, ho => exact ho.elim
theorem x_call {j : Nat} (C : Cw G k X) (F : FnF G j x ps sem) (hj : j ≤ k) (np : noPk sem) (hg : Gl X x) (ha : EvL G X (e :: es) ms) (hn : (e :: es).length = ps.length := by rfl) (hdb : (x == ("__debug__" : Str)) = false := by decide)
    (hs : starEach (e :: es) X.env = (false, eval e X.env) :: starEach es X.env := by rfl) (hpl : (backTo pos (starEach es X.env)).any (·.1) = false := by rfl) :
    EvE G X (.Call (.Name x p) (e :: es) [] pos) (mCall sem ms) := by
  intro W tk
  obtain ⟨f, fd, F1, F2, F3, F4⟩ := F.ex
  rw [← C.eP, ← C.ew, ← C.eK, ← C.em, ← C.eb] at F1
  rw [← C.em] at F2
  rw [← C.eK] at F3 F4
  have rule : PE X (.Call (.Name x p) (e :: es) [] pos) (fun σ H Q => tL G W ms σ H fun vs H1 => SpV G ps.length sem vs H1 Q fun cv dd H' => W cv dd σ H') :=
    ⟨fun pins s σ H Q I h => wpAny_Call_Name_kw (ld_glob I hg F2 (PySem.W.callWith_K (h₀ := X.base) I.ok.mod.kin F3 (thn ((ha.run W tk).run pos pins s σ H _ I h) fun us s1 ⟨vs, H1, I1, r, q⟩ => ⟨I1.kIn, run_callG F1 (C.roomG.mono hj) F4 (passesAt tk σ) I1 r q⟩) hs hpl) hdb)⟩
  refine rule.imp fun σ H Q ⟨A, S, tp, R, q⟩ => ⟨A, S, tp, R, ?_⟩
  have q2 := OutL.bind R q
  have hl := ha.len S tp
  revert q2 hl
  cases ms S tp with
  | ok ds tp2 =>
    intro q2 hl vs H2 r2
    obtain ⟨ds', tp2', r2', q⟩ := q2 vs H2 r2
    have e2 := r2'.2.2.length
    have e3 := r2.2.2.length
    exact ⟨A, ds', tp2', by rw [← hn, ← hl ds tp2 rfl]; omega, r2'.2.1.avd, r2'.2.1.tap, r2'.2.2, OutE.call r2'.2.1 q (np _ _)⟩
  | ex c f tp2 => exact fun q2 _ => q2
  | bad => exact fun q2 _ => q2
end
end PV

/-! PVh: tests, and, or, not, conditional expressions, chains, slices, fields. -/
namespace PV
open PySem L2

def OutB (G : Gx) (W : WX) (A : Addr → Prop) (S : Slots) (σ : St) (H : Hp) (Q : Bool → Hp → Prop) : Ot → Prop
  | .ok (.bl b) _ tp' => ∀ H', Kp G H H' → RelS G A S tp' σ H' → Q b H'
  | .ok _ _ _ => False
  | .ex c f tp' => ∀ cv dd H', RelS G A S tp' σ H' → Kp G H H' → ExOk G H' A c f cv dd → W cv dd σ H'
  | .bad => False
def tT (G : Gx) (W : WX) (m : ME) : TT := fun σ H Q => ∃ A S tp, RelS G A S tp σ H ∧ OutB G W A S σ H Q (m S tp)
def EvT (G : Gx) (X : Cx) (e : Expr) (m : ME) : Prop := ∀ W, Takes X W → PT X e (tT G W m)
def EvW (G : Gx) (X : Cx) (e : Expr) (m : ME) : Prop := ∀ W, Takes X W → PW X e (tT G W m)

def mTru (m : ME) : ME := fun S tp => (m S tp).bind fun d _ tp1 => match d with
  | .non => .ok (.bl false) .frz tp1
  | .bl b => .ok (.bl b) .frz tp1
  | .int i => .ok (.bl (i != 0)) .frz tp1
  | .str x => if x.length ≤ 16777216 then .ok (.bl ((x.length : Int) != 0)) .frz tp1 else .bad
  | .tup l => .ok (.bl (!l.isEmpty)) .frz tp1
  | .lst l => .ok (.bl (!l.isEmpty)) .frz tp1
  | .dct ks _ => .ok (.bl (!ks.isEmpty)) .frz tp1
  | _ => .bad
def mAnd (a b : ME) : ME := fun S tp => (a S tp).bind fun d _ tp1 => match d with
  | .bl true => b S tp1
  | .bl false => .ok (.bl false) .frz tp1
  | _ => .bad
def mOr (a b : ME) : ME := fun S tp => (a S tp).bind fun d _ tp1 => match d with
  | .bl true => .ok (.bl true) .frz tp1
  | .bl false => b S tp1
  | _ => .bad
def mNot (a : ME) : ME := fun S tp => (a S tp).bind fun d _ tp1 => match d with
  | .bl b => .ok (.bl (!b)) .frz tp1
  | _ => .bad
def mIf (c a b : ME) : ME := fun S tp => (c S tp).bind fun d _ tp1 => match d with
  | .bl true => a S tp1
  | .bl false => b S tp1
  | _ => .bad
/-- a op b op' c -/
def mChain (f g : F2) (a b c : ME) : ME := fun S tp => (a S tp).bind fun d _ tp1 => (b S tp1).bind fun e _ tp2 => match f d e with
  | some (.bl true, _) => (c S tp2).bind fun u _ tp3 => ofO (g e u) tp3
  | some (.bl false, _) => .ok (.bl false) .frz tp2
  | _ => .bad

section
variable {G : Gx} {X : Cx} {k : Nat} {a b c : Expr} {ma mb mc : ME} {pos : Pos} {A : Addr → Prop} {S : Slots} {tp tp' : Tp} {σ : St} {H H' H1 : Hp} {W : WX} {rest : List Expr}
theorem OutB.of {Q : Bool → Hp → Prop} {o : Ot} (R : RelS G A S tp σ H1) (k1 : Kp G H H1) (h : OutB G W A S σ H Q o) : OutB G W A S σ H1 Q o := by
  cases o with
  | ok d k tp' =>
    cases d <;> first | exact h.elim | exact fun H' q r => h H' (k1.trans q) r
  | ex c f tp' => exact fun cv dd H' r q x => h cv dd H' r (k1.trans q) x
  | bad => exact h
theorem OutB.mono {Q Q' : Bool → Hp → Prop} {o : Ot} (h : OutB G W A S σ H Q o) (hq : ∀ v H', Kp G H H' → Q v H' → Q' v H') : OutB G W A S σ H Q' o := by
  cases o with
  | ok d k tp' =>
    cases d <;> first | exact h.elim | exact fun H' q r => hq _ H' q (h H' q r)
  | ex c f tp' => exact h
  | bad => exact h
/-- behind an expression -/
theorem OutE.bindB {Q : Bool → Hp → Prop} {o : Ot} {f : D → Kd → Tp → Ot} (R : RelS G A S tp σ H) (h : OutB G W A S σ H Q (o.bind f)) :
    OutE G W A S σ H (fun v H1 => ∃ d k tp1, Res G A S tp1 σ H H1 d k v ∧ RelS G A S tp1 σ H1 ∧ OutB G W A S σ H1 Q (f d k tp1)) o := by
  cases o with
  | ok d k tp' => exact fun v H' r => ⟨d, k, tp', r, r.rel R, OutB.of (r.rel R) r.1 h⟩
  | ex c f tp' => exact h
  | bad => exact h
/-- behind a test -/
theorem OutB.bindB {Q : Bool → Hp → Prop} {o : Ot} {f : D → Kd → Tp → Ot} (R : RelS G A S tp σ H) (h : OutB G W A S σ H Q (o.bind f)) (hf : ∀ d k tp', (∀ b, d ≠ .bl b) → f d k tp' = .bad) :
    OutB G W A S σ H (fun b H1 => ∃ k tp1, RelS G A S tp1 σ H1 ∧ OutB G W A S σ H1 Q (f (.bl b) k tp1)) o := by
  cases o with
  | ok d k tp' =>
    cases d <;> first
      | exact fun H' q r => ⟨k, tp', r, OutB.of r q h⟩
      | (have h : OutB G W A S σ H Q (f _ k tp') := h
         rw [hf _ _ _ (by intro b z; cases z)] at h
         exact h.elim)
  | ex c f tp' => exact h
  | bad => exact h
theorem OutB.bindE {Q : VK} {o : Ot} {f : D → Kd → Tp → Ot} (R : RelS G A S tp σ H) (h : OutE G W A S σ H Q (o.bind f)) (hf : ∀ d k tp', (∀ b, d ≠ .bl b) → f d k tp' = .bad) :
    OutB G W A S σ H (fun b H1 => ∃ k tp1, RelS G A S tp1 σ H1 ∧ OutE G W A S σ H1 Q (f (.bl b) k tp1)) o := by
  cases o with
  | ok d k tp' =>
    cases d <;> first
      | exact fun H' q r => ⟨k, tp', r, OutE.of r q h⟩
      | (have h : OutE G W A S σ H Q (f _ k tp') := h
         rw [hf _ _ _ (by intro b z; cases z)] at h
         exact h.elim)
  | ex c f tp' => exact h
  | bad => exact h
theorem Res.bl {i : Bool} {k : Kd} {v : V} (R : RelS G A S tp σ H) (r : Res G A S tp' σ H H' (.bl i) k v) : v = .bl i := Vw.bl (r.vw R)
theorem t_truth (ha : EvE G X a ma) (hK : X.K = G.K) (he : ∀ whole, isTrue a X.env whole = (do let v ← whole; standAt a.pos; holding [v] (truthy v)) := by intro _; rfl) : EvT G X a (mTru ma) := by
  refine fun W tk => (pt_truth (ha W tk) he).imp fun σ H Q ⟨A, S, tp, R, h⟩ => ⟨A, S, tp, R, (OutE.bindB R h).mono fun v H1 _ q => ?_⟩
  obtain ⟨d, k, tp1, r, R1, q⟩ := q
  have hv := r.vw R
  rw [hK]
  split at q
  · exact ⟨false, by rw [hv.non]; rfl, q H1 Kp.refl R1⟩
  · exact ⟨_, by rw [hv.bl]; rfl, q H1 Kp.refl R1⟩
  · exact ⟨_, by rw [hv.int]; rfl, q H1 Kp.refl R1⟩
  · split at q
    · rename_i hz
      exact ⟨_, by rw [hv.str]; exact ⟨sz_le hz, rfl⟩, q H1 Kp.refl R1⟩
    · exact q.elim
  · rename_i l
    obtain ⟨p, xs, rfl, hp, rr⟩ := hv.tup
    exact ⟨!l.isEmpty, .inr (.inl ⟨xs, hp.sq, by cases rr <;> rfl⟩), q H1 Kp.refl R1⟩
  · rename_i l
    obtain ⟨p, xs, rfl, hp, rr⟩ := hv.lst
    exact ⟨!l.isEmpty, .inl ⟨xs, .of hp, by cases rr <;> rfl⟩, q H1 Kp.refl R1⟩
  · rename_i ks ds
    obtain ⟨p, kvs, rfl, hp, hk, rr⟩ := hv.dct
    exact ⟨!ks.isEmpty, .inr (.inr ⟨kvs, hp, by rw [hk]; cases kvs <;> rfl⟩), q H1 Kp.refl R1⟩
  · exact q.elim
theorem t_cmp {op : CmpOp} {f : F2} (ho : OpR X (compareOp op) (rV2 G f)) (ha : EvE G X a ma) (hb : EvE G X b mb) (hm : behindInMarks op b = false := by rfl) : EvT G X (.Compare a [op] [b] pos) (mBin f ma mb) := by
  refine fun W tk => (pt_cmpR ho (ha W tk) (hb W tk) hm).imp fun σ H Q ⟨A, S, tp, R, h⟩ => ⟨A, S, tp, R, (OutE.bindB R h).mono fun x H1 _ q => ?_⟩
  obtain ⟨d, k, tp1, r1, R1, q⟩ := q
  refine ⟨A, S, tp1, R1, (OutE.bindB R1 q).mono fun y H2 k2 q => ?_⟩
  obtain ⟨e, k', tp2, r2, R2, q⟩ := q
  unfold ofO at q
  split at q
  · rename_i r kk ef
    refine ⟨A, d, e, r, kk, R2.avd, (r1.vw R).kp R1 k2, r2.vw R1, ef, fun v H' rs => ?_⟩
    have rr := rs.res R2
    cases r with
    | bl i => exact ⟨i, Res.bl R2 rr, q H' rr.1 (rr.rel R2)⟩
    | _ => exact q.elim
  · exact q.elim
theorem t_not (ha : EvT G X a ma) : EvT G X (.UnaryOp .Not a pos) (mNot ma) := by
  refine fun W tk => (pt_not (ha W tk)).imp fun σ H Q ⟨A, S, tp, R, h⟩ => ⟨A, S, tp, R, (OutB.bindB R h (fun d _ _ hd => ?_)).mono fun b H1 _ q => ?_⟩
  · cases d <;> first | rfl | exact absurd rfl (hd _)
  · obtain ⟨k, tp1, R1, q⟩ := q
    exact q H1 Kp.refl R1
theorem t_and1 (ha : EvT G X a ma) : EvW G X (.BoolOp .And [a] pos) ma := fun W tk => pw_and1 (ha W tk)
theorem t_or1 (ha : EvT G X a ma) : EvW G X (.BoolOp .Or [a] pos) ma := fun W tk => pw_or1 (ha W tk)
theorem t_and (ha : EvT G X a ma) (hb : EvW G X (.BoolOp .And (b :: rest) pos) mb) : EvW G X (.BoolOp .And (a :: b :: rest) pos) (mAnd ma mb) := by
  refine fun W tk => (pw_and (ha W tk) (hb W tk)).imp fun σ H Q ⟨A, S, tp, R, h⟩ => ⟨A, S, tp, R, (OutB.bindB R h (fun d _ _ hd => ?_)).mono fun b H1 _ q => ?_⟩
  · cases d <;> first | rfl | exact absurd rfl (hd _)
  · obtain ⟨k, tp1, R1, q⟩ := q
    cases b with
    | true => rw [if_pos rfl]; exact ⟨A, S, tp1, R1, q⟩
    | false => rw [if_neg Bool.false_ne_true]; exact q H1 Kp.refl R1
theorem t_or (ha : EvT G X a ma) (hb : EvW G X (.BoolOp .Or (b :: rest) pos) mb) : EvW G X (.BoolOp .Or (a :: b :: rest) pos) (mOr ma mb) := by
  refine fun W tk => (pw_or (ha W tk) (hb W tk)).imp fun σ H Q ⟨A, S, tp, R, h⟩ => ⟨A, S, tp, R, (OutB.bindB R h (fun d _ _ hd => ?_)).mono fun b H1 _ q => ?_⟩
  · cases d <;> first | rfl | exact absurd rfl (hd _)
  · obtain ⟨k, tp1, R1, q⟩ := q
    cases b with
    | false => rw [if_neg Bool.false_ne_true]; exact ⟨A, S, tp1, R1, q⟩
    | true => rw [if_pos rfl]; exact q H1 Kp.refl R1
theorem t_w {e : Expr} {m : ME} (h : EvW G X e m) : EvT G X e m := fun W tk => (h W tk).pt
theorem x_ife (hc : EvT G X c mc) (ha : EvE G X a ma) (hb : EvE G X b mb) : EvE G X (.IfExp c a b pos) (mIf mc ma mb) := by
  refine fun W tk => (pe_ifExp (hc W tk) (ha W tk) (hb W tk)).imp fun σ H Q ⟨A, S, tp, R, h⟩ => ⟨A, S, tp, R, (OutB.bindE R h (fun d _ _ hd => ?_)).mono fun b H1 _ q => ?_⟩
  · cases d <;> first | rfl | exact absurd rfl (hd _)
  · obtain ⟨k, tp1, R1, q⟩ := q
    cases b with
    | true => rw [if_pos rfl]; exact ⟨A, S, tp1, R1, q⟩
    | false => rw [if_neg Bool.false_ne_true]; exact ⟨A, S, tp1, R1, q⟩
/-- as values -/
theorem x_one {op} (h : EvE G X a ma) : EvE G X (.BoolOp op [a] pos) ma := fun W tk => pe_one (h W tk)
theorem x_and (ha : EvE G X a ma) (hb : EvE G X (.BoolOp .And (b :: rest) pos) mb) : EvE G X (.BoolOp .And (a :: b :: rest) pos) (mAnd ma mb) := by
  refine fun W tk => (pe_and (ha W tk) (hb W tk)).imp fun σ H Q ⟨A, S, tp, R, h⟩ => ⟨A, S, tp, R, (OutE.bind R h).mono fun v H1 _ q => ?_⟩
  obtain ⟨d, k, tp1, r, R1, q⟩ := q
  split at q
  · exact ⟨true, Res.bl R r, by rw [if_pos rfl]; exact ⟨A, S, tp1, R1, q⟩⟩
  · exact ⟨false, Res.bl R r, by rw [if_neg Bool.false_ne_true]; exact q _ _ ⟨Kp.refl, R1, .bl _⟩⟩
  · exact q.elim
theorem x_or (ha : EvE G X a ma) (hb : EvE G X (.BoolOp .Or (b :: rest) pos) mb) : EvE G X (.BoolOp .Or (a :: b :: rest) pos) (mOr ma mb) := by
  refine fun W tk => (pe_or (ha W tk) (hb W tk)).imp fun σ H Q ⟨A, S, tp, R, h⟩ => ⟨A, S, tp, R, (OutE.bind R h).mono fun v H1 _ q => ?_⟩
  obtain ⟨d, k, tp1, r, R1, q⟩ := q
  split at q
  · exact ⟨true, Res.bl R r, by rw [if_pos rfl]; exact q _ _ ⟨Kp.refl, R1, .bl _⟩⟩
  · exact ⟨false, Res.bl R r, by rw [if_neg Bool.false_ne_true]; exact ⟨A, S, tp1, R1, q⟩⟩
  · exact q.elim
theorem x_not (ha : EvE G X a ma) : EvE G X (.UnaryOp .Not a pos) (mNot ma) := by
  refine fun W tk => (pe_not (ha W tk)).imp fun σ H Q ⟨A, S, tp, R, h⟩ => ⟨A, S, tp, R, (OutE.bind R h).mono fun v H1 _ q => ?_⟩
  obtain ⟨d, k, tp1, r, R1, q⟩ := q
  split at q
  · exact ⟨_, Res.bl R r, q _ _ ⟨Kp.refl, R1, .bl _⟩⟩
  · exact q.elim
theorem chain_reads {f g : F2} {Q : VK} (R : RelS G A S tp σ H) (h : OutE G W A S σ H Q (mChain f g ma mb mc S tp)) : tChain (rV2 G f) (rV2 G g) (tE G W ma) (tE G W mb) (tE G W mc) σ H Q := by
  refine ⟨A, S, tp, R, (OutE.bind R h).mono fun x H1 _ q => ?_⟩
  obtain ⟨d, k, tp1, r1, R1, q⟩ := q
  refine ⟨A, S, tp1, R1, (OutE.bind R1 q).mono fun y H2 k2 q => ?_⟩
  obtain ⟨e, k', tp2, r2, R2, q⟩ := q
  split at q
  · rename_i kk ef
    refine ⟨A, d, e, _, kk, R2.avd, (r1.vw R).kp R1 k2, r2.vw R1, ef, fun v H' rs => ?_⟩
    have rr := rs.res R2
    have R3 := rr.rel R2
    refine ⟨true, Res.bl R2 rr, ?_⟩
    rw [if_pos rfl]
    refine ⟨A, S, tp2, R3, (OutE.bind R3 (OutE.of R3 rr.1 q)).mono fun z H4 k4 q => ?_⟩
    obtain ⟨u, k'', tp3, r3, R4, q⟩ := q
    unfold ofO at q
    split at q
    · rename_i w kw eg
      exact ⟨A, e, u, w, kw, R4.avd, ((r2.vw R1).kp R2 rr.1).kp R3 k4, r3.vw R3, eg, fun v' H5 rs' => q v' H5 (rs'.res R4)⟩
    · exact q.elim
  · rename_i kk ef
    refine ⟨A, d, e, _, kk, R2.avd, (r1.vw R).kp R1 k2, r2.vw R1, ef, fun v H' rs => ?_⟩
    have rr := rs.res R2
    have R3 := rr.rel R2
    exact ⟨false, Res.bl R2 rr, by rw [if_neg Bool.false_ne_true]; exact q _ _ ⟨rr.1, R3, .bl _⟩⟩
  · exact q.elim
theorem x_chain {op op' : CmpOp} {f g : F2} (ho : OpR X (compareOp op) (rV2 G f)) (ho' : OpR X (compareOp op') (rV2 G g)) (ha : EvE G X a ma) (hb : EvE G X b mb) (hc : EvE G X c mc)
    (hm : lastMarks [op, op'] [b, c] = false := by with_unfolding_all rfl) : EvE G X (.Compare a [op, op'] [b, c] pos) (mChain f g ma mb mc) :=
  fun W tk => (pe_chain ho ho' (ha W tk) (hb W tk) (hc W tk) hm).imp fun σ H Q ⟨A, S, tp, R, h⟩ => chain_reads R h
/-- what is tested gives a flag -/
def isB (g : F2) : Prop := ∀ d e r k, g d e = some (r, k) → ∃ b, r = .bl b
theorem t_chain {op op' : CmpOp} {f g : F2} (ho : OpR X (compareOp op) (rV2 G f)) (ho' : OpR X (compareOp op') (rV2 G g)) (hg : isB g) (ha : EvE G X a ma) (hb : EvE G X b mb) (hc : EvE G X c mc)
    (hm : lastMarks [op, op'] [b, c] = false := by with_unfolding_all rfl) : EvT G X (.Compare a [op, op'] [b, c] pos) (mChain f g ma mb mc) := by
  refine fun W tk => (pt_chain ho ho' (ha W tk) (hb W tk) (hc W tk) hm).imp fun σ H Q ⟨A, S, tp, R, h⟩ => chain_reads (S := S) (A := A) (tp := tp) R ?_
  unfold mChain at h ⊢
  revert h
  cases e1 : ma S tp with
  | ok d k tp1 =>
    show OutB _ _ _ _ _ _ _ ((mb S tp1).bind _) → OutE _ _ _ _ _ _ _ ((mb S tp1).bind _)
    cases e2 : mb S tp1 with
    | ok e k' tp2 =>
      show OutB _ _ _ _ _ _ _ (match f d e with | some (.bl true, _) => _ | some (.bl false, _) => _ | _ => _) → OutE _ _ _ _ _ _ _ (match f d e with | some (.bl true, _) => _ | some (.bl false, _) => _ | _ => _)
      split
      · cases e3 : mc S tp2 with
        | ok u k'' tp3 =>
          show OutB _ _ _ _ _ _ _ (ofO (g e u) tp3) → OutE _ _ _ _ _ _ _ (ofO (g e u) tp3)
          unfold ofO
          split
          · rename_i r kk eg
            obtain ⟨b, rfl⟩ := hg _ _ _ _ eg
            exact fun h v H' rr => ⟨b, Res.bl R rr, h H' rr.1 (rr.rel R)⟩
          · exact fun h => h
        | ex c f tp3 => exact fun h => h
        | bad => exact fun h => h
      · exact fun h v H' rr => ⟨false, Res.bl R rr, h H' rr.1 (rr.rel R)⟩
      · exact fun h => h
    | ex c f tp2 => exact fun h => h
    | bad => exact fun h => h
  | ex c f tp1 => exact fun h => h
  | bad => exact fun h => h
theorem isB_lt : isB fLt := fun d e r k h => by unfold fLt at h; split at h <;> cases h; exact ⟨_, rfl⟩
theorem isB_le : isB fLe := fun d e r k h => by unfold fLe at h; split at h <;> cases h; exact ⟨_, rfl⟩
theorem isB_gt : isB fGt := fun d e r k h => by unfold fGt at h; split at h <;> cases h; exact ⟨_, rfl⟩
theorem isB_ge : isB fGe := fun d e r k h => by unfold fGe at h; split at h <;> cases h; exact ⟨_, rfl⟩
end
end PV

/-! PVi: statements: outcomes, frames, assignments, if, return. -/
namespace PV
open PySem L2

inductive So where
  | nx (S : Slots) (tp : Tp)
  | bk (S : Slots) (tp : Tp)
  | ct (S : Slots) (tp : Tp)
  | rt (d : D) (k : Kd) (tp : Tp)
  | ex (c : Nat) (f : List D) (S : Slots) (tp : Tp)
  | bad
  deriving Inhabited
abbrev MS := Slots → Tp → So
/-- where a piece of a body began: what stood, what was avoided, what may be changed, the slots that are held -/
structure Fm where
  H : Hp
  A : Addr → Prop
  M : Addr → Prop
  fx : Nat → V → Prop
structure RelF (G : Gx) (F : Fm) (A : Addr → Prop) (S : Slots) (tp : Tp) (σ : St) (H : Hp) : Prop where
  rel : RelS G A S tp σ H
  kp : ∀ b o, F.H b = some o → ¬ G.gm b → ¬ F.M b → H b = some o
  sub : ∀ a, F.A a → A a
  nw : ∀ a, A a → F.A a ∨ F.H a = none ∨ F.M a
  ow : ∀ (i : Nat) (d : D) (a : Addr), S[i]? = some (some (d, .own)) → σ[i]? = some (some (.ref a)) → F.H a = none ∨ F.M a
  pin : ∀ i v, F.fx i v → σ[i]? = some (some v) ∧ ∃ d, S[i]? = some (some (d, .lck))
  tp : ∀ a, G.gm a → F.A a
  mm : ∀ b, F.M b → ∃ o, H b = some o
  wf : ∀ a, F.A a → (∃ o, F.H a = some o) ∧ ¬ F.M a
def RetOk (G : Gx) (F : Fm) (tp : Tp) (H : Hp) (d : D) (v : V) : Kd → Prop
  | .frz => ∃ A S σ, RelF G F A S tp σ H ∧ Fz G H A d v
  | .fr => ∃ A S σ a, v = .ref a ∧ F.H a = none ∧ RelF G F A S tp σ H ∧ A a ∧ OwC G H A a d
  | .pk => False
def OutS (G : Gx) (F : Fm) (W : WX) (D : Ends) : So → Prop
  | .nx S tp => ∀ A σ H, RelF G F A S tp σ H → D.nx σ H
  | .bk S tp => ∀ A σ H, RelF G F A S tp σ H → D.bk σ H
  | .ct S tp => ∀ A σ H, RelF G F A S tp σ H → D.ct σ H
  | .rt d k tp => ∀ v H, RetOk G F tp H d v k → D.rt v H
  | .ex c f S tp => ∀ A cv dd σ H, RelF G F A S tp σ H → ExOk G H A c f cv dd → W cv dd σ H
  | .bad => False
def tS (G : Gx) (F : Fm) (W : WX) (m : MS) : TS := fun D σ H => ∃ A S tp, RelF G F A S tp σ H ∧ OutS G F W D (m S tp)
def EvS (G : Gx) (X : Cx) (st : Stmt) (m : MS) : Prop := ∀ F W, Takes X W → PS X st (tS G F W m)
def EvSs (G : Gx) (X : Cx) (st : List Stmt) (m : MS) : Prop := ∀ F W, Takes X W → PSs X st (tS G F W m)

section
variable {G : Gx} {X : Cx} {F : Fm} {A A' : Addr → Prop} {S S' : Slots} {tp tp' : Tp} {σ σ' : St} {H H' : Hp} {W : WX} {d : D} {k : Kd} {v : V}
theorem RelF.after (R : RelF G F A S tp σ H) (kp : Kp G H H') (R' : RelS G A S tp' σ H') : RelF G F A S tp' σ H' :=
  ⟨R', fun b o q n m => kp b o (R.kp b o q n m) n, R.sub, R.nw, R.ow, R.pin, R.tp, fun b m => by
    obtain ⟨o, q⟩ := R.mm b m
    by_cases z : G.gm b
    · obtain ⟨_, xs, q, _⟩ := R'.tap b z
      exact ⟨_, q⟩
    · exact ⟨o, kp b o q z⟩, R.wf⟩
theorem RelF.old (R : RelF G F A S tp σ H) {a : Addr} (h : H a = none) : F.H a = none := by
  cases e : F.H a with
  | none => rfl
  | some o =>
    by_cases z : G.gm a
    · obtain ⟨_, xs, q, _⟩ := R.rel.tap a z
      rw [h] at q; cases q
    · by_cases m : F.M a
      · obtain ⟨o, q⟩ := R.mm a m
        rw [h] at q; cases q
      · rw [R.kp a o e z m] at h; cases h

/-! ### slots -/
theorem RelS.setFz (R : RelS G A S tp σ H) (i : Nat) (h : Fz G H A d v) : RelS G A (S.set i (some (d, .frz))) tp (σ.set i (some v)) H := by
  refine ⟨by simp [R.len], fun j e q => ?_, fun j e fl n q => ?_, fun j j' a e e' fl n q q' r r' => ?_, R.avd, R.tap⟩
  · by_cases hj : i = j
    · subst hj
      rw [List.getElem?_set] at q
      rw [if_pos rfl] at q
      split at q
      · cases q
        rename_i hl
        exact ⟨v, by rw [List.getElem?_set, if_pos rfl, if_pos (by rw [← R.len]; exact hl)], h⟩
      · cases q
    · rw [List.getElem?_set_ne hj] at q ⊢
      exact R.frz j e q
  · by_cases hj : i = j
    · subst hj
      rw [List.getElem?_set, if_pos rfl] at q
      split at q
      · cases q; exact absurd rfl n
      · cases q
    · rw [List.getElem?_set_ne hj] at q ⊢
      exact R.own j e fl n q
  · have hj : i ≠ j := fun z => by
      subst z
      rw [List.getElem?_set, if_pos rfl] at q
      split at q <;> cases q
    have hj' : i ≠ j' := fun z => by
      subst z
      rw [List.getElem?_set, if_pos rfl] at q'
      split at q'
      · cases q'; exact n rfl
      · cases q'
    rw [List.getElem?_set_ne hj] at q r
    rw [List.getElem?_set_ne hj'] at q' r'
    exact R.dis j j' a e e' fl n q q' r r'
/-- no slot owns the container at a -/
def Unu (S : Slots) (σ : St) (a : Addr) : Prop := ∀ (j : Nat) (e : D) (fl : Fl), fl ≠ .frz → S[j]? = some (some (e, fl)) → σ[j]? ≠ some (some (.ref a))
theorem RelS.unu (R : RelS G A S tp σ H) {a : Addr} (h : H a = none) : Unu S σ a := fun j e fl n q r => by
  obtain ⟨b, q1, q2, _, q4⟩ := R.own j e fl n q
  rw [r] at q1; cases q1
  obtain ⟨o, z⟩ := q4.obj
  rw [h] at z; cases z
theorem RelS.setOwn (R : RelS G A S tp σ H) (i : Nat) {a : Addr} (hA : A a) (hn : ¬ G.gm a) (h : OwC G H A a d) (u : Unu S σ a) : RelS G A (S.set i (some (d, .own))) tp (σ.set i (some (.ref a))) H := by
  refine ⟨by simp [R.len], fun j e q => ?_, fun j e fl n q => ?_, fun j j' b e e' fl n q q' r r' => ?_, R.avd, R.tap⟩
  · by_cases hj : i = j
    · subst hj
      rw [List.getElem?_set, if_pos rfl] at q
      split at q <;> cases q
    · rw [List.getElem?_set_ne hj] at q ⊢
      exact R.frz j e q
  · by_cases hj : i = j
    · subst hj
      rw [List.getElem?_set, if_pos rfl] at q
      split at q
      · cases q
        rename_i hl
        exact ⟨a, by rw [List.getElem?_set, if_pos rfl, if_pos (by rw [← R.len]; exact hl)], hA, hn, h⟩
      · cases q
    · rw [List.getElem?_set_ne hj] at q ⊢
      exact R.own j e fl n q
  · by_cases hj : i = j
    · by_cases hj' : i = j'
      · rw [← hj, ← hj']
      · exfalso
        subst hj
        rw [List.getElem?_set_ne hj'] at q' r'
        rw [List.getElem?_set, if_pos rfl] at r
        split at r
        · cases r; exact u j' e' fl n q' r'
        · cases r
    · by_cases hj' : i = j'
      · exfalso
        subst hj'
        rw [List.getElem?_set_ne hj] at q r
        rw [List.getElem?_set, if_pos rfl] at r'
        split at r'
        · cases r'; exact u j e .own (by decide) q r
        · cases r'
      · rw [List.getElem?_set_ne hj] at q r
        rw [List.getElem?_set_ne hj'] at q' r'
        exact R.dis j j' b e e' fl n q q' r r'
/-- a slot that is not held may be set -/
def notLck (S : Slots) (i : Nat) : Bool := match S[i]? with
  | some (some (_, .lck)) => false
  | _ => true
theorem RelF.pin_set (R : RelF G F A S tp σ H) {i : Nat} (hl : notLck S i = true) {x : Option (D × Fl)} {y : Option V} : ∀ j w, F.fx j w → (σ.set i y)[j]? = some (some w) ∧ ∃ d, (S.set i x)[j]? = some (some (d, .lck)) := fun j w q => by
  obtain ⟨q1, e, q2⟩ := R.pin j w q
  have hj : i ≠ j := fun z => by
    subst z
    unfold notLck at hl
    rw [q2] at hl; cases hl
  rw [List.getElem?_set_ne hj, List.getElem?_set_ne hj]
  exact ⟨q1, e, q2⟩
theorem RelF.setFz (R : RelF G F A S tp σ H) (i : Nat) (hl : notLck S i = true) (h : Fz G H A d v) : RelF G F A (S.set i (some (d, .frz))) tp (σ.set i (some v)) H :=
  ⟨R.rel.setFz i h, R.kp, R.sub, R.nw, fun j e a q r => by
    by_cases hj : i = j
    · subst hj
      rw [List.getElem?_set, if_pos rfl] at q
      split at q <;> cases q
    · rw [List.getElem?_set_ne hj] at q r
      exact R.ow j e a q r, R.pin_set hl, R.tp, R.mm, R.wf⟩
theorem RelF.setOwn (R : RelF G F A S tp σ H) (i : Nat) (hl : notLck S i = true) {a : Addr} (hA : A a) (hn : ¬ G.gm a) (hF : F.H a = none ∨ F.M a) (h : OwC G H A a d) (u : Unu S σ a) : RelF G F A (S.set i (some (d, .own))) tp (σ.set i (some (.ref a))) H :=
  ⟨R.rel.setOwn i hA hn h u, R.kp, R.sub, R.nw, fun j e b q r => by
    by_cases hj : i = j
    · subst hj
      rw [List.getElem?_set, if_pos rfl] at r
      split at r
      · cases r; exact hF
      · cases r
    · rw [List.getElem?_set_ne hj] at q r
      exact R.ow j e b q r, R.pin_set hl, R.tp, R.mm, R.wf⟩

/-! ### behind an expression -/
def VOk (G : Gx) (F : Fm) (A : Addr → Prop) (S : Slots) (σ : St) (H : Hp) (d : D) (v : V) : Kd → Prop
  | .frz => Fz G H A d v
  | .fr => ∃ a, v = .ref a ∧ A a ∧ ¬ G.gm a ∧ F.H a = none ∧ OwC G H A a d ∧ Unu S σ a
  | .pk => False
theorem RelF.res {H1 : Hp} (R : RelF G F A S tp σ H) (r : Res G A S tp' σ H H1 d k v) (hk : k ≠ .pk) : ∃ A1, RelF G F A1 S tp' σ H1 ∧ VOk G F A1 S σ H1 d v k ∧ (∀ a, A a → A1 a) ∧ ∀ a, A1 a → A a ∨ H a = none := by
  cases k with
  | frz => exact ⟨A, R.after r.1 (r.rel R.rel), r.2.2, fun _ q => q, fun _ q => .inl q⟩
  | pk => exact absurd rfl hk
  | fr =>
    have R2 := R.after r.1 (r.rel R.rel)
    obtain ⟨kp, a, rfl, ha, R1, q⟩ := r
    have hF := R.old ha
    have ht : ¬ G.gm a := fun z => by
      obtain ⟨_, xs, e, _⟩ := R.rel.tap a z
      rw [ha] at e; cases e
    refine ⟨adA A a, ⟨R1, R2.kp, fun b z => .inl (R.sub b z), fun b z => z.elim (R.nw b) fun z => .inr (.inl (z ▸ hF)), R.ow, R.pin, R.tp, R2.mm, R.wf⟩, ⟨a, rfl, .inr rfl, ht, hF, q, R.rel.unu ha⟩, fun _ z => .inl z, fun b z => z.elim .inl fun z => .inr (z ▸ ha)⟩
/-- what was frozen stays so -/
theorem VOk.fz (h : VOk G F A S σ H d v .frz) : Fz G H A d v := h
/-- a new container put into a slot, or a frozen value -/
def setK (S : Slots) (i : Nat) (d : D) : Kd → Slots
  | .fr => S.set i (some (d, .own))
  | _ => S.set i (some (d, .frz))
theorem RelF.setK (R : RelF G F A S tp σ H) (i : Nat) (hl : notLck S i = true) (h : VOk G F A S σ H d v k) : RelF G F A (PV.setK S i d k) tp (σ.set i (some v)) H := by
  cases k with
  | frz => exact R.setFz i hl h
  | fr =>
    obtain ⟨a, rfl, h1, h2, h3, h4, h5⟩ := h
    exact R.setOwn i hl h1 h2 (.inl h3) h4 h5
  | pk => exact h.elim

/-! ### small statements -/
def mNext : MS := fun S tp => .nx S tp
def mSeq (a b : MS) : MS := fun S tp => match a S tp with
  | .nx S' tp' => b S' tp'
  | o => o
theorem OutS.imp {D D' : Ends} {o : So} (h : OutS G F W D o) (h1 : ∀ σ H, D.nx σ H → D'.nx σ H) (h2 : ∀ σ H, D.bk σ H → D'.bk σ H) (h3 : ∀ σ H, D.ct σ H → D'.ct σ H) (h4 : ∀ v H, D.rt v H → D'.rt v H) : OutS G F W D' o := by
  cases o with
  | nx S tp => exact fun A σ H R => h1 _ _ (h A σ H R)
  | bk S tp => exact fun A σ H R => h2 _ _ (h A σ H R)
  | ct S tp => exact fun A σ H R => h3 _ _ (h A σ H R)
  | rt d k tp => exact fun v H R => h4 _ _ (h v H R)
  | ex c f S tp => exact h
  | bad => exact h
theorem ss_nil : EvSs G X [] mNext := fun F W tk => pss_nil.imp fun D σ H ⟨A, S, tp, R, h⟩ => h A σ H R
theorem ss_cons {st : Stmt} {rest : List Stmt} {a b : MS} (h1 : EvS G X st a) (h2 : EvSs G X rest b) : EvSs G X (st :: rest) (mSeq a b) := by
  refine fun F W tk => (pss_cons (h1 F W tk) (h2 F W tk)).imp fun D σ H ⟨A, S, tp, R, h⟩ => ⟨A, S, tp, R, ?_⟩
  unfold mSeq at h
  revert h
  cases a S tp with
  | nx S' tp' => exact fun h A' σ' H' R' => ⟨A', S', tp', R', h⟩
  | bk S tp => exact fun h => h
  | ct S tp => exact fun h => h
  | rt d k tp => exact fun h => h
  | ex c f S tp => exact fun h => h
  | bad => exact fun h => h
theorem ss_one {st : Stmt} {a : MS} (h1 : EvS G X st a) : EvSs G X [st] a := fun F W tk => pss_one (h1 F W tk)
theorem s_pass {pos} : EvS G X (.Pass pos) mNext := fun F W tk => ps_pass.imp fun D σ H ⟨A, S, tp, R, h⟩ => h A σ H R
theorem s_doc {x j pos pos'} : EvS G X (.Expr (.Constant (.str x) j pos) pos') mNext := fun F W tk => ps_doc.imp fun D σ H ⟨A, S, tp, R, h⟩ => h A σ H R
def mBreak : MS := fun S tp => .bk S tp
def mCont : MS := fun S tp => .ct S tp
theorem s_break {pos} : EvS G X (.Break pos) mBreak := fun F W tk => ps_break.imp fun D σ H ⟨A, S, tp, R, h⟩ => h A σ H R
theorem s_cont {pos} : EvS G X (.Continue pos) mCont := fun F W tk => ps_continue.imp fun D σ H ⟨A, S, tp, R, h⟩ => h A σ H R
/-- behind an expression within a statement -/
theorem OutE.inS {Q : VK} {o : Ot} (R : RelF G F A S tp σ H) (hok : ∀ d k tp', o = .ok d k tp' → ∀ v H', Res G A S tp' σ H H' d k v → Q v H') (hex : ∀ c f tp', o = .ex c f tp' → ∀ cv dd H', RelF G F A S tp' σ H' → ExOk G H' A c f cv dd → W cv dd σ H') (hb : o ≠ .bad) : OutE G W A S σ H Q o := by
  cases o with
  | ok d k tp' => exact hok d k tp' rfl
  | ex c f tp' => exact fun cv dd H' r kp x => hex c f tp' rfl cv dd H' (R.after kp r) x
  | bad => exact absurd rfl hb
def mExpr (m : ME) : MS := fun S tp => match m S tp with
  | .ok _ _ tp' => .nx S tp'
  | .ex c f tp' => .ex c f S tp'
  | .bad => .bad
theorem s_expr {e : Expr} {m : ME} {pos : Pos} (he : EvE G X e m) (hs : swapsWith e none pos.line X.env = pure false := by rfl) : EvS G X (.Expr e pos) (mExpr m) := by
  refine fun F W tk => (ps_expr (he W tk) hs).imp fun D σ H ⟨A, S, tp, R, h⟩ => ⟨A, S, tp, R.rel, ?_⟩
  unfold mExpr at h
  revert h
  cases m S tp with
  | ok d k tp' => exact fun h v H' r => h A σ H' (R.after r.1 (r.rel R.rel))
  | ex c f tp' => exact fun h cv dd H' r kp x => h A cv dd σ H' (R.after kp r) x
  | bad => exact fun h => h
def mRet (m : ME) : MS := fun S tp => match m S tp with
  | .ok _ .pk _ => .bad
  | .ok d k tp' => .rt d k tp'
  | .ex c f tp' => .ex c f S tp'
  | .bad => .bad
theorem s_ret {e : Expr} {m : ME} {pos : Pos} (he : EvE G X e m) : EvS G X (.Return (some e) pos) (mRet m) := by
  refine fun F W tk => (ps_ret (he W tk)).imp fun D σ H ⟨A, S, tp, R, h⟩ => ⟨A, S, tp, R.rel, ?_⟩
  unfold mRet at h
  revert h
  cases m S tp with
  | ok d k tp' =>
    cases k with
    | pk => exact fun h => h.elim
    | frz => exact fun h v H' r => h v H' ⟨A, S, σ, R.after r.1 (r.rel R.rel), r.2.2⟩
    | fr =>
      intro h v H' r
      obtain ⟨A1, R1, ⟨a, e, h1, h2, h3, h4, h5⟩, _⟩ := R.res r (by decide)
      exact h v H' ⟨A1, S, σ, a, e, h3, R1, h1, h4⟩
  | ex c f tp' => exact fun h cv dd H' r kp x => h A cv dd σ H' (R.after kp r) x
  | bad => exact fun h => h
/-- return x: what x owns is handed on -/
def mRetNm (i : Nat) : MS := fun S tp => match S[i]? with
  | some (some (d, .frz)) => .rt d .frz tp
  | some (some (d, .own)) => .rt d .fr tp
  | _ => .bad
theorem s_retNm (i : Nat) {x : Str} {pos pos' : Pos} (hN : X.N[i]? = some x) (hv : Vis X.env.scope x) (hF : ∀ a, ¬ F.M a) (hd : (x == ("__debug__" : Str)) = false := by decide) (hcd : (x == ("__classdict__" : Str)) = false := by decide) (tk : Takes X W) :
    PS X (.Return (some (.Name x pos)) pos') (tS G F W (mRetNm i)) := by
  refine (ps_ret (pe_var (i := i) hN hv hd hcd)).imp fun D σ H ⟨A, S, tp, R, h⟩ => ?_
  unfold mRetNm at h
  split at h
  · rename_i d e
    obtain ⟨v, h1, h2⟩ := R.rel.frz i d e
    exact ⟨v, h1, h v H ⟨A, S, σ, R, h2⟩⟩
  · rename_i d e
    obtain ⟨a, h1, h2, h3, h4⟩ := R.rel.own i d _ (by decide) e
    exact ⟨_, h1, h _ H ⟨A, S, σ, a, rfl, (R.ow i d a e h1).resolve_right (hF a), R, h2, h4⟩⟩
  · exact h.elim
def mRetN : MS := fun _ tp => .rt .non .frz tp
theorem s_retN {pos : Pos} : EvS G X (.Return none pos) mRetN := fun F W tk => ps_retN.imp fun D σ H ⟨A, S, tp, R, h⟩ => h .non H ⟨A, S, σ, R, .non⟩
def mIfS (c : ME) (a b : MS) : MS := fun S tp => match c S tp with
  | .ok (.bl true) _ tp' => a S tp'
  | .ok (.bl false) _ tp' => b S tp'
  | .ok _ _ _ => .bad
  | .ex c f tp' => .ex c f S tp'
  | .bad => .bad
theorem s_if {c : Expr} {as bs : List Stmt} {mc : ME} {a b : MS} {pos : Pos} (hc : EvT G X c mc) (ha : EvSs G X as a) (hb : EvSs G X bs b) : EvS G X (.If c as bs pos) (mIfS mc a b) := by
  refine fun F W tk => (ps_if (hc W tk) (ha F W tk) (hb F W tk)).imp fun D σ H ⟨A, S, tp, R, h⟩ => ⟨A, S, tp, R.rel, ?_⟩
  unfold mIfS at h
  revert h
  cases mc S tp with
  | ok d k tp' =>
    cases d with
    | bl x =>
      cases x with
      | true => exact fun h H' kp r => (if_pos (rfl : true = true)).mpr ⟨A, S, tp', R.after kp r, h⟩
      | false => exact fun h H' kp r => (if_neg Bool.false_ne_true).mpr ⟨A, S, tp', R.after kp r, h⟩
    | _ => exact fun h => h.elim
  | ex c f tp' => exact fun h cv dd H' r kp x => h A cv dd σ H' (R.after kp r) x
  | bad => exact fun h => h

/-! ### targets that are names -/
def tP (G : Gx) (F : Fm) (m : D → Slots → Option Slots) : TG := fun v σ H Q => ∃ A S tp d S', RelF G F A S tp σ H ∧ Fz G H A d v ∧ m d S = some S' ∧ ∀ σ', RelF G F A S' tp σ' H → Q σ' H
def tPs (G : Gx) (F : Fm) (m : List D → Slots → Option Slots) : TGs := fun vs σ H Q => ∃ A S tp ds S', RelF G F A S tp σ H ∧ FzL G H A ds vs ∧ m ds S = some S' ∧ ∀ σ', RelF G F A S' tp σ' H → Q σ' H
def EvP (G : Gx) (X : Cx) (t : Expr) (m : D → Slots → Option Slots) : Prop := ∀ F, PG X t (tP G F m)
def EvPs (G : Gx) (X : Cx) (ts : List Expr) (m : List D → Slots → Option Slots) : Prop := ∀ F, PGs X ts (tPs G F m)
def pNm (i : Nat) : D → Slots → Option Slots := fun d S => if notLck S i then some (S.set i (some (d, .frz))) else none
def pNil : List D → Slots → Option Slots := fun ds S => match ds with
  | [] => some S
  | _ => none
def pCons (p : D → Slots → Option Slots) (ps : List D → Slots → Option Slots) : List D → Slots → Option Slots := fun ds S => match ds with
  | d :: ds => (p d S).bind (ps ds)
  | [] => none
def pTup (ps : List D → Slots → Option Slots) : D → Slots → Option Slots := fun d S => match d with
  | .tup ds => ps ds S
  | _ => none
end
section
variable {G : Gx} {X : Cx}
theorem _root_.L2.PG.imp {X : Cx} {e : Expr} {t t' : TG} (h : PG X e t) (hi : ∀ v σ H Q, t' v σ H Q → t v σ H Q) : PG X e t' := ⟨fun pins s σ H x u Q I r q => h.run pins s σ H x u Q I r (hi _ _ _ _ q)⟩
end
end PV

/-! PVj: targets, assignments, stores into owned lists, loops. -/
namespace PV
open PySem L2
section
variable {G : Gx} {X : Cx} {F : Fm} {A A' : Addr → Prop} {S S' : Slots} {tp tp' : Tp} {σ σ' : St} {H H' H1 : Hp} {W : WX} {d : D} {k : Kd} {v : V}
theorem p_nm (i : Nat) {x : Str} {pos : Pos} (hN : X.N.Nodup) (hi : X.N[i]? = some x) (hx : Loc X.env.scope x) (hf : X.fn x = true ∨ X.env.scope.names.lookup x = some .local := by first | exact .inl rfl | exact .inr rfl | assumption) : EvP G X (.Name x pos) (pNm i) := by
  refine fun F => (pg_name (i := i) hN hi hx hf).imp fun v σ H Q ⟨A, S, tp, d, S', R, h, e, q⟩ => ?_
  unfold pNm at e
  split at e
  · rename_i hl
    cases e
    exact q _ (R.setFz i hl h)
  · cases e
theorem p_nil : EvPs G X [] pNil := fun F => ⟨fun pins s σ H vs us Q I r ⟨A, S, tp, ds, S', R, h, e, q⟩ => by
  unfold pNil at e
  split at e
  · cases e
    cases h
    exact pgs_nil.run pins s σ H [] us Q I r ⟨rfl, q σ R⟩
  · cases e⟩
theorem p_cons {t : Expr} {ts : List Expr} {p : D → Slots → Option Slots} {ps : List D → Slots → Option Slots} (h1 : EvP G X t p) (h2 : EvPs G X ts ps)
    (hs : (assignEach (t :: ts) X.env).map (·.2) = assign t X.env :: (assignEach ts X.env).map (·.2) := by rfl) : EvPs G X (t :: ts) (pCons p ps) := fun F => ⟨fun pins s σ H vs us Q I r ⟨A, S, tp, ds, S', R, h, e, q⟩ => by
  unfold pCons at e
  cases h with
  | nil => cases e
  | @cons d ds v vs h t =>
    have e : (p d S).bind (ps ds) = some S' := e
    cases e1 : p d S with
    | none => rw [e1] at e; cases e
    | some S1 =>
      rw [e1] at e
      exact (pgs_cons (h1 F) (h2 F) hs).run pins s σ H _ us Q I r ⟨v, vs, rfl, A, S, tp, d, S1, R, h, e1, fun σ1 R1 => ⟨A, S1, tp, ds, S', R1, t, e, q⟩⟩⟩
theorem p_tup {ts : List Expr} {k : Nat} {pos : Pos} {ps : List D → Slots → Option Slots} {n : Nat} (hK : X.K = G.K) (hc : X.calm = true) (h : EvPs G X ts ps) (hl : ∀ ds S S', ps ds S = some S' → ds.length = n)
    (hn : (assignEach ts X.env).length = n := by rfl) (hst : (assignEach ts X.env).findIdx? (·.1) = none := by rfl) : EvP G X (.Tuple ts k pos) (pTup ps) := by
  refine fun F => (pg_tup hc (h F) hn hst).imp fun v σ H Q ⟨A, S, tp, d, S', R, hz, e, q⟩ => ?_
  unfold pTup at e
  split at e
  · rename_i ds
    cases hz with
    | @tup a xs _ ha r =>
      exact ⟨a, xs, rfl, by rw [hK]; exact ha.sq, by rw [← r.length]; exact hl _ _ _ e, A, S, tp, ds, S', R, r, e, q⟩
  · cases e
theorem pl_nil (ds : List D) (S S' : Slots) (h : pNil ds S = some S') : ds.length = 0 := by
  unfold pNil at h
  split at h
  · rfl
  · cases h
theorem pl_cons {p : D → Slots → Option Slots} {ps : List D → Slots → Option Slots} {n : Nat} (h : ∀ ds S S', ps ds S = some S' → ds.length = n) (ds : List D) (S S' : Slots) (e : pCons p ps ds S = some S') : ds.length = n + 1 := by
  unfold pCons at e
  split at e
  · rename_i d ds
    cases e1 : p d S with
    | none => rw [e1] at e; cases e
    | some S1 =>
      rw [e1] at e
      rw [List.length_cons, h _ _ _ e]
  · cases e

/-! ### assignments -/
def mSet (i : Nat) (m : ME) : MS := fun S tp => match m S tp with
  | .ok _ .pk _ => .bad
  | .ok d k tp' => if notLck S i then .nx (setK S i d k) tp' else .bad
  | .ex c f tp' => .ex c f S tp'
  | .bad => .bad
theorem s_set (i : Nat) {x : Str} {e : Expr} {m : ME} {pos pos' : Pos} (hN : X.N.Nodup) (hi : X.N[i]? = some x) (hx : Loc X.env.scope x) (he : EvE G X e m) (hs : swapsWith e (some (.Name x pos')) pos.line X.env = pure false := by rfl)
    (hf : X.fn x = true ∨ X.env.scope.names.lookup x = some .local := by first | exact .inl rfl | exact .inr rfl | assumption) : EvS G X (.Assign [.Name x pos'] e pos) (mSet i m) := by
  refine fun F W tk => (ps_set (i := i) hN hi hx (he W tk) hs hf).imp fun D σ H ⟨A, S, tp, R, h⟩ => ⟨A, S, tp, R.rel, ?_⟩
  unfold mSet at h
  revert h
  cases m S tp with
  | ok d k tp' =>
    intro h v H' r
    have hk : k ≠ .pk := fun z => by subst z; exact h.elim
    obtain ⟨A1, R1, hv, _⟩ := R.res r hk
    have h : OutS G F W D (if notLck S i then .nx (setK S i d k) tp' else .bad) := by
      cases k with
      | pk => exact absurd rfl hk
      | frz => exact h
      | fr => exact h
    split at h
    · rename_i hl
      exact h A1 _ H' (R1.setK i hl hv)
    · exact h.elim
  | ex c f tp' => exact fun h cv dd H' r kp x => h A cv dd σ H' (R.after kp r) x
  | bad => exact fun h => h
/-- a pattern of names -/
def mAsgP (m : ME) (p : D → Slots → Option Slots) : MS := fun S tp => match m S tp with
  | .ok _ .pk _ => .bad
  | .ok d _ tp' => match p d S with
    | some S' => .nx S' tp'
    | none => .bad
  | .ex c f tp' => .ex c f S tp'
  | .bad => .bad
theorem s_asgP {t e : Expr} {m : ME} {p : D → Slots → Option Slots} {pos : Pos} (he : EvE G X e m) (hp : EvP G X t p) (hs : swapsWithSole [t] e pos.line X.env = pure false := by rfl) (hw : swappedStores [t] e X.env = pure none := by rfl) (h1 : (assignEach [t] X.env).map (·.2) = [assign t X.env] := by rfl) : EvS G X (.Assign [t] e pos) (mAsgP m p) := by
  refine fun F W tk => (ps_asg (he W tk) (hp F) hs hw h1).imp fun D σ H ⟨A, S, tp, R, h⟩ => ⟨A, S, tp, R.rel, ?_⟩
  unfold mAsgP at h
  revert h
  cases m S tp with
  | ok d k tp' =>
    intro h v H' r
    have hk : k ≠ .pk := fun z => by subst z; exact h.elim
    have hz := r.fz R.rel hk
    have R1 := R.after r.1 (r.rel R.rel)
    have h : OutS G F W D (match p d S with | some S' => .nx S' tp' | none => .bad) := by
      cases k with
      | pk => exact absurd rfl hk
      | frz => exact h
      | fr => exact h
    split at h
    · rename_i S' e
      exact ⟨A, S, tp', d, S', R1, hz, e, fun σ' R' => h A σ' H' R'⟩
    · exact h.elim
  | ex c f tp' => exact fun h cv dd H' r kp x => h A cv dd σ H' (R.after kp r) x
  | bad => exact fun h => h

/-! ### writing an owned container -/
theorem RelF.write (R : RelF G F A S tp σ H) (i : Nat) {d' : D} {a : Addr} {o : HO} (h : S[i]? = some (some (d, .own))) (hσ : σ[i]? = some (some (.ref a))) (new : OwC G (upd H a o) A a d') :
    RelF G F A (S.set i (some (d', .own))) tp σ (upd H a o) := by
  obtain ⟨b, q1, hA, hn, hO⟩ := R.rel.own i d .own (by decide) h
  rw [hσ] at q1; cases q1
  have hN : Nco o := by
    obtain ⟨u, e, n⟩ := new.objN
    rw [upd_same] at e
    cases e
    exact n
  obtain ⟨o0, ho0⟩ := hO.obj
  have ke : ∀ b u, H b = some u → ¬ A b → upd H a o b = some u := fun b u q n => by
    have hb : b ≠ a := fun z => n (by rw [z]; exact hA)
    rw [upd_ne hb]; exact q
  have il : i < S.length := (List.getElem?_eq_some_iff.mp h).1
  have nn : ∀ c, A c → A c ∨ H c = none := fun c q => .inl q
  refine ⟨⟨by simp [R.rel.len], fun j e q => ?_, fun j e fl n q => ?_, fun j j' c e e' fl n q q' r r' => ?_, fun c q => ?_, fun c e => ?_⟩, fun c u q n m => ?_, R.sub, R.nw, fun j e c q r => ?_, fun j w q => ?_, R.tp, fun b m => ?_, R.wf⟩
  · by_cases hj : i = j
    · subst hj
      rw [List.getElem?_set_self il] at q; cases q
    · rw [List.getElem?_set_ne hj] at q
      obtain ⟨w, h1, h2⟩ := R.rel.frz j e q
      exact ⟨w, h1, h2.ext' ke nn⟩
  · by_cases hj : i = j
    · subst hj
      rw [List.getElem?_set_self il] at q
      cases q
      exact ⟨a, hσ, hA, hn, new⟩
    · rw [List.getElem?_set_ne hj] at q
      obtain ⟨c, h1, h2, h3, h4⟩ := R.rel.own j e fl n q
      have hca : c ≠ a := fun z => by
        subst z
        exact hj (R.rel.dis i j c d e fl n h q hσ h1)
      exact ⟨c, h1, h2, h3, h4.ext' (upd_ne hca) ke nn⟩
  · have w1 : ∃ e1, S[j]? = some (some (e1, .own)) := by
      by_cases hj : i = j
      · subst hj; exact ⟨d, h⟩
      · rw [List.getElem?_set_ne hj] at q; exact ⟨e, q⟩
    have w2 : ∃ e1 f1, f1 ≠ Fl.frz ∧ S[j']? = some (some (e1, f1)) := by
      by_cases hj : i = j'
      · subst hj; exact ⟨d, .own, by decide, h⟩
      · rw [List.getElem?_set_ne hj] at q'; exact ⟨e', fl, n, q'⟩
    obtain ⟨e1, w1⟩ := w1
    obtain ⟨e2, f2, n2, w2⟩ := w2
    exact R.rel.dis j j' c e1 e2 f2 n2 w1 w2 r r'
  · by_cases hc : c = a
    · subst hc; exact ⟨_, upd_same, hN⟩
    · rw [upd_ne hc]; exact R.rel.avd c q
  · obtain ⟨t1, xs, t2, t3⟩ := R.rel.tap c e
    have hc : c ≠ a := fun z => hn (z ▸ e)
    exact ⟨t1, xs, by rw [upd_ne hc]; exact t2, t3.ext' ke nn⟩
  · have hc : c ≠ a := fun z => by
      subst z
      rcases R.ow i d c h hσ with z | z
      · rw [q] at z; cases z
      · exact m z
    rw [upd_ne hc]
    exact R.kp c u q n m
  · by_cases hj : i = j
    · subst hj
      rw [hσ] at r; cases r
      exact R.ow i d _ h hσ
    · rw [List.getElem?_set_ne hj] at q
      exact R.ow j e c q r
  · obtain ⟨q1, e, q2⟩ := R.pin j w q
    have hj : i ≠ j := fun z => by
      subst z
      rw [h] at q2; cases q2
    rw [List.getElem?_set_ne hj]
    exact ⟨q1, e, q2⟩
  · by_cases hb : b = a
    · subst hb; exact ⟨_, upd_same⟩
    · rw [upd_ne hb]; exact R.mm b m
end
end PV

/-! PVk: freezing, stores by place, the tape's stores, methods that change an owned list, parallel assignments. -/
namespace PV
open PySem L2
section
variable {G : Gx} {X : Cx} {F : Fm} {A A' : Addr → Prop} {S S' : Slots} {tp tp' : Tp} {σ σ' : St} {H H' H1 : Hp} {W : WX} {d : D} {k : Kd} {v : V}
/-- what slot i owns is frozen from here on -/
def mFrz (i : Nat) : MS := fun S tp => match S[i]? with
  | some (some (d, .own)) => .nx (S.set i (some (d, .frz))) tp
  | some (some (_, .frz)) => .nx S tp
  | _ => .bad
theorem RelF.freeze (R : RelF G F A S tp σ H) {i : Nat} (e : S[i]? = some (some (d, .own))) : ∃ A', RelF G F A' (S.set i (some (d, .frz))) tp σ H := by
  obtain ⟨a, h1, h2, h3, h4⟩ := R.rel.own i d .own (by decide) e
  have il : i < S.length := (List.getElem?_eq_some_iff.mp e).1
  have na : ∀ c, F.A c → c ≠ a := fun c q z => by
    subst z
    obtain ⟨⟨o, q1⟩, q2⟩ := R.wf _ q
    rcases R.ow i d _ e h1 with z | z
    · rw [q1] at z; cases z
    · exact q2 z
  refine ⟨fun c => A c ∧ c ≠ a, ⟨by simp [R.rel.len], fun j e' q => ?_, fun j e' fl n q => ?_, fun j j' c u w fl n q q' r r' => ?_, fun c q => R.rel.avd c q.1, fun c z => ?_⟩, R.kp, fun c q => ⟨R.sub c q, na c q⟩, fun c q => R.nw c q.1, fun j u c q r => ?_, fun j w q => ?_, R.tp, R.mm, R.wf⟩
  · by_cases hj : i = j
    · subst hj
      rw [List.getElem?_set_self il] at q
      cases q
      exact ⟨_, h1, h4.frz (fun z => z.2 rfl) fun _ z => z.1⟩
    · rw [List.getElem?_set_ne hj] at q
      obtain ⟨w, q1, q2⟩ := R.rel.frz j e' q
      exact ⟨w, q1, q2.mono fun _ z => z.1⟩
  · by_cases hj : i = j
    · subst hj
      rw [List.getElem?_set_self il] at q
      cases q; exact absurd rfl n
    · rw [List.getElem?_set_ne hj] at q
      obtain ⟨c, q1, q2, q3, q4⟩ := R.rel.own j e' fl n q
      exact ⟨c, q1, ⟨q2, fun z => hj (R.rel.dis i j a d e' fl n e q h1 (z ▸ q1))⟩, q3, q4.mono fun _ z => z.1⟩
  · have hj : i ≠ j := fun z => by
      subst z
      rw [List.getElem?_set_self il] at q; cases q
    have hj' : i ≠ j' := fun z => by
      subst z
      rw [List.getElem?_set_self il] at q'
      cases q'; exact n rfl
    rw [List.getElem?_set_ne hj] at q
    rw [List.getElem?_set_ne hj'] at q'
    exact R.rel.dis j j' c u w fl n q q' r r'
  · obtain ⟨q1, xs, q2, q3⟩ := R.rel.tap c z
    exact ⟨⟨q1, fun y => h3 (y ▸ z)⟩, xs, q2, q3.mono fun _ z => z.1⟩
  · have hj : i ≠ j := fun z => by
      subst z
      rw [List.getElem?_set_self il] at q; cases q
    rw [List.getElem?_set_ne hj] at q
    exact R.ow j u c q r
  · obtain ⟨q1, u, q2⟩ := R.pin j w q
    have hj : i ≠ j := fun z => by
      subst z
      rw [e] at q2; cases q2
    rw [List.getElem?_set_ne hj]
    exact ⟨q1, u, q2⟩
theorem ss_frz (i : Nat) {rest : List Stmt} {b : MS} (h2 : EvSs G X rest b) : EvSs G X rest (mSeq (mFrz i) b) := by
  refine fun F W tk => (h2 F W tk).imp fun De σ H ⟨A, S, tp, R, h⟩ => ?_
  have h : OutS G F W De (match mFrz i S tp with | .nx S' tp' => b S' tp' | o => o) := h
  cases e : S[i]? with
  | none =>
    have e2 : mFrz i S tp = .bad := by unfold mFrz; rw [e]
    rw [e2] at h
    exact h.elim
  | some x =>
    cases x with
    | none =>
      have e2 : mFrz i S tp = .bad := by unfold mFrz; rw [e]
      rw [e2] at h
      exact h.elim
    | some y =>
      obtain ⟨d, fl⟩ := y
      cases fl with
      | frz =>
        have e2 : mFrz i S tp = .nx S tp := by unfold mFrz; rw [e]
        rw [e2] at h
        exact ⟨A, _, _, R, h⟩
      | own =>
        have e2 : mFrz i S tp = .nx (S.set i (some (d, .frz))) tp := by unfold mFrz; rw [e]
        rw [e2] at h
        obtain ⟨A', R'⟩ := R.freeze e
        exact ⟨A', _, _, R', h⟩
      | lck =>
        have e2 : mFrz i S tp = .bad := by unfold mFrz; rw [e]
        rw [e2] at h
        exact h.elim

/-! ### x[i] = e -/
def plD (n : Nat) (i : Int) : Option Nat := if 0 ≤ i then (if i < n then some i.toNat else none) else if -(n : Int) ≤ i then some (i + n).toNat else none
theorem plD_eq (n : Nat) (i : Int) : plD n i = ixN n i := rfl
def stI (S : Slots) (i : Nat) (n d : D) : Option Slots := match S[i]?, n with
  | some (some (.lst l, .own)), .int z => (plD l.length z).map fun j => S.set i (some (.lst (l.set j d), .own))
  | _, _ => none
theorem stI_eq {i : Nat} {n : D} (h : stI S i n d = some S') : ∃ l z j, S[i]? = some (some (.lst l, .own)) ∧ n = .int z ∧ ixN l.length z = some j ∧ S' = S.set i (some (.lst (l.set j d), .own)) := by
  unfold stI at h
  split at h
  · rename_i l z e
    rw [Option.map_eq_some_iff] at h
    obtain ⟨j, h1, h2⟩ := h
    exact ⟨l, z, j, e, rfl, h1, h2.symm⟩
  · cases h
def mSetI (i : Nat) (mi m : ME) : MS := fun S tp => match m S tp with
  | .ok _ .pk _ => .bad
  | .ok d _ tp1 => match mi S tp1 with
    | .ok n _ tp2 => match stI S i n d with
      | some S' => .nx S' tp2
      | none => .bad
    | _ => .bad
  | .ex c f tp' => .ex c f S tp'
  | .bad => .bad
theorem s_setI (i : Nat) {x : Str} {ei e : Expr} {mi m : ME} {pos p1 p2 : Pos} (hN : X.N[i]? = some x) (hv : Vis X.env.scope x) (hi : EvE G X ei mi) (he : EvE G X e m)
    (hs : swapsWithSole [.Subscript (.Name x p1) ei p2] e pos.line X.env = pure false := by rfl) (hw : swappedStores [.Subscript (.Name x p1) ei p2] e X.env = pure none := by rfl)
    (h1 : (assignEach [.Subscript (.Name x p1) ei p2] X.env).map (·.2) = [assign (.Subscript (.Name x p1) ei p2) X.env] := by rfl)
    (ha : ∀ v, assign (.Subscript (.Name x p1) ei p2) X.env v = (do let ov ← holding [v] (eval (.Name x p1) X.env); let iv ← holding [v, ov] (eval ei X.env); standAt p2; holding [v, ov, iv] (setItem ov iv v); release [v, ov, iv] []) := by intro _; rfl)
    (hd : (x == ("__debug__" : Str)) = false := by decide) (hcd : (x == ("__classdict__" : Str)) = false := by decide) : EvS G X (.Assign [.Subscript (.Name x p1) ei p2] e pos) (mSetI i mi m) := by
  refine fun F W tk => (ps_asg (he W tk) (pg_sub (pe_var (i := i) hN hv hd hcd) (hi W tk) set_list ha) hs hw h1).imp fun De σ H ⟨A, S, tp, R, h⟩ => ⟨A, S, tp, R.rel, ?_⟩
  unfold mSetI at h
  revert h
  cases m S tp with
  | ok d k tp1 =>
    intro h v H1 r
    have hk : k ≠ .pk := fun z => by subst z; exact h.elim
    have hz := r.fz R.rel hk
    have R1 := R.after r.1 (r.rel R.rel)
    have h : OutS G F W De (match mi S tp1 with
      | .ok n _ tp2 => match stI S i n d with
        | some S' => .nx S' tp2
        | none => .bad
      | _ => .bad) := by
      cases k with
      | pk => exact absurd rfl hk
      | frz => exact h
      | fr => exact h
    have slot : ∀ {n : D} {S' : Slots}, stI S i n d = some S' → ∃ a, σ[i]? = some (some (.ref a)) := fun e => by
      obtain ⟨l, z, j, e1, _⟩ := stI_eq e
      obtain ⟨a, q1, _⟩ := R.rel.own i _ _ (by decide) e1
      exact ⟨a, q1⟩
    revert h
    cases e2 : mi S tp1 with
    | ok n k2 tp2 =>
      show OutS G F W De (match stI S i n d with | some S' => .nx S' tp2 | none => .bad) → _
      intro h
      split at h
      · rename_i S' e3
        obtain ⟨a, hσ⟩ := slot e3
        obtain ⟨l, z, j, e1, rfl, e4, rfl⟩ := stI_eq e3
        refine ⟨_, hσ, A, S, tp1, R1.rel, ?_⟩
        rw [e2]
        intro iv H2 r2
        have R2 := R1.after r2.1 (r2.rel R1.rel)
        have ez : iv = V.int z := (r2.vw R1.rel).int
        obtain ⟨b, q1, qA, qn, xs, q2, q3⟩ := R2.rel.own i _ _ (by decide) e1
        rw [hσ] at q1; cases q1
        have hz2 : Fz G H2 A d v := hz.kp R1.rel r2.1
        refine ⟨a, xs, z, j, rfl, ez, q2, by rw [← q3.length]; exact e4, h A σ _ (R2.write i e1 hσ ?_)⟩
        refine ⟨xs.set j v, upd_same, (FzL.set hz2 j q3).ext' (fun b u q n => ?_) fun _ q => .inl q⟩
        have hb : b ≠ a := fun w => n (by rw [w]; exact qA)
        rw [upd_ne hb]; exact q
      · exact h.elim
    | ex c f tp' => exact fun h => h.elim
    | bad => exact fun h => h.elim
  | ex c f tp' => exact fun h cv dd H' r kp x => h A cv dd σ H' (R.after kp r) x
  | bad => exact fun h => h

/-! ### methods that change an owned list -/
/-- x.append(e), x.extend(e): what becomes of the list -/
def mMut (i : Nat) (f : List D → D → Option (List D)) (m : ME) : MS := fun S tp => match m S tp with
  | .ok _ .pk _ => .bad
  | .ok d _ tp1 => match S[i]? with
    | some (some (.lst l, .own)) => match f l d with
      | some l' => .nx (S.set i (some (.lst l', .own))) tp1
      | none => .bad
    | _ => .bad
  | .ex c f tp' => .bad
  | .bad => .bad
def uApp (l : List D) (d : D) : Option (List D) := if l.length < 16777216 then some (l ++ [d]) else none
def uExt (l : List D) (d : D) : Option (List D) := match d with
  | .lst es => if l.length + es.length ≤ 16777216 then some (l ++ es) else none
  | _ => none
theorem mut_reads {i : Nat} {f : List D → D → Option (List D)} {m : ME} {De : Ends} {r : V → List V → Hp → VK → Prop} (h : tS G F W (mMut i f m) De σ H)
    (hr : ∀ (A : Addr → Prop) (H : Hp) (a : Addr) (xs : List V) (l l' : List D) (d : D) (v : V) (Q : VK), ¬ G.gm a → A a → H a = some (.lst xs) → FzL G H A l xs → Fz G H A d v → f l d = some l' → (∀ xs', FzL G H A l' xs' → Q .non (upd H a (.lst xs'))) → r (.ref a) [v] H Q) :
    tDrop (tBM X.K "list" r (tVar i) (tCons (tE G W m) tNil)) De σ H := by
  obtain ⟨A, S, tp, R, h⟩ := h
  unfold mMut at h
  cases e1 : m S tp with
  | ok d k tp1 =>
    rw [e1] at h
    have hk : k ≠ .pk := fun z => by subst z; exact h.elim
    have h : OutS G F W De (match S[i]? with
      | some (some (.lst l, .own)) => match f l d with
        | some l' => .nx (S.set i (some (.lst l', .own))) tp1
        | none => .bad
      | _ => .bad) := by
      cases k with
      | pk => exact absurd rfl hk
      | frz => exact h
      | fr => exact h
    split at h
    · rename_i l e2
      split at h
      · rename_i l' e3
        obtain ⟨a, hσ, qA, qn, xs, q2, q3⟩ := R.rel.own i _ _ (by decide) e2
        refine ⟨_, hσ, .inl ⟨rfl, xs, .of q2⟩, A, S, tp, R.rel, ?_⟩
        rw [e1]
        intro v H1 r1
        have R1 := R.after r1.1 (r1.rel R.rel)
        obtain ⟨b, q1, qA, qn, ys, q2, q3⟩ := R1.rel.own i _ _ (by decide) e2
        rw [hσ] at q1; cases q1
        refine hr A H1 a ys l l' d v _ qn qA q2 q3 (r1.fz R.rel hk) e3 fun xs' hx => ?_
        refine h A σ _ (R1.write i e2 hσ ⟨xs', upd_same, hx.ext' (fun b u q n => ?_) fun _ q => .inl q⟩)
        have hb : b ≠ a := fun w => n (by rw [w]; exact qA)
        rw [upd_ne hb]; exact q
      · exact h.elim
    · exact h.elim
  | ex c f tp' => rw [e1] at h; exact h.elim
  | bad => rw [e1] at h; exact h.elim
theorem s_append (i : Nat) {x : Str} {e : Expr} {m : ME} {pos p1 p2 p3 : Pos} (hN : X.N[i]? = some x) (hv : Vis X.env.scope x) (he : EvE G X e m)
    (hbase : attributeBase (.Name x p1) "append" X.env (eval (.Name x p1) X.env) = eval (.Name x p1) X.env := by rfl)
    (hfew : ((backTo p3 (starEach [e] X.env)).all (fun x => !x.1) && (backToKw p3 (keywordEach [] X.env)).all (fun x => x.1.isSome)
      && decide ([e].length + ([] : List Keyword).length + (if ([] : List Keyword).isEmpty then 0 else 1) < 30)) = true := by rfl)
    (hline : (p2.endLine == p3.line) = true := by rfl) (hs : starEach [e] X.env = (false, eval e X.env) :: starEach [] X.env := by rfl) (hplain : (backTo p3 (starEach [] X.env)).any (·.1) = false := by rfl)
    (hsw : swapsWith (.Call (.Attribute (.Name x p1) "append" p2) [e] [] p3) none pos.line X.env = pure false := by rfl)
    (hd : (x == ("__debug__" : Str)) = false := by decide) (hcd : (x == ("__classdict__" : Str)) = false := by decide) :
    EvS G X (.Expr (.Call (.Attribute (.Name x p1) "append" p2) [e] [] p3) pos) (mMut i uApp m) := by
  refine fun F W tk => (ps_expr (pe_bm PySem.F.plainAttrs_list PySem.F.slot_list_append PySem.F.type_list_append mt_append (pe_var (i := i) hN hv hd hcd) (pa_cons (he W tk) pa_nil hs) hbase hfew hline hs hplain) hsw).imp fun De σ H h => mut_reads h fun A H a xs l l' d v Q qn qA q2 q3 hd e3 hQ => ?_
  unfold uApp at e3
  split at e3
  · rename_i hz
    cases e3
    exact ⟨a, xs, v, rfl, rfl, q2, by rw [← q3.length]; exact sz_lt hz, hQ _ (q3.append (.cons hd .nil))⟩
  · cases e3
theorem s_extend (i : Nat) {x : Str} {e : Expr} {m : ME} {pos p1 p2 p3 : Pos} (hN : X.N[i]? = some x) (hv : Vis X.env.scope x) (he : EvE G X e m)
    (hbase : attributeBase (.Name x p1) "extend" X.env (eval (.Name x p1) X.env) = eval (.Name x p1) X.env := by rfl)
    (hfew : ((backTo p3 (starEach [e] X.env)).all (fun x => !x.1) && (backToKw p3 (keywordEach [] X.env)).all (fun x => x.1.isSome)
      && decide ([e].length + ([] : List Keyword).length + (if ([] : List Keyword).isEmpty then 0 else 1) < 30)) = true := by rfl)
    (hline : (p2.endLine == p3.line) = true := by rfl) (hs : starEach [e] X.env = (false, eval e X.env) :: starEach [] X.env := by rfl) (hplain : (backTo p3 (starEach [] X.env)).any (·.1) = false := by rfl)
    (hsw : swapsWith (.Call (.Attribute (.Name x p1) "extend" p2) [e] [] p3) none pos.line X.env = pure false := by rfl)
    (hd : (x == ("__debug__" : Str)) = false := by decide) (hcd : (x == ("__classdict__" : Str)) = false := by decide) :
    EvS G X (.Expr (.Call (.Attribute (.Name x p1) "extend" p2) [e] [] p3) pos) (mMut i uExt m) := by
  refine fun F W tk => (ps_expr (pe_bm PySem.F.plainAttrs_list PySem.F.slot_list_extend PySem.F.type_list_extend mt_extend (pe_var (i := i) hN hv hd hcd) (pa_cons (he W tk) pa_nil hs) hbase hfew hline hs hplain) hsw).imp fun De σ H h => mut_reads h fun A H a xs l l' d v Q qn qA q2 q3 hd e3 hQ => ?_
  unfold uExt at e3
  split at e3
  · rename_i es
    split at e3
    · rename_i hz
      cases e3
      cases hd with
      | @lst b ys _ hb r =>
        exact ⟨a, b, xs, ys, rfl, rfl, q2, hb.1, by rw [← q3.length, ← r.length]; exact sz_le hz, hQ _ (q3.append r)⟩
    · cases e3
  · cases e3
end
end PV

/-! PVl: what is walked, for, while. -/
namespace PV
open PySem L2

/-- what stood in H1 stands, but for M and the tape -/
def Stands (G : Gx) (M : Addr → Prop) (H1 H : Hp) : Prop := ∀ b o, H1 b = some o → ¬ M b → ¬ G.gm b → H b = some o
/-- J walks ds, from the heap H1 where A was avoided, as long as what stood there stands -/
structure WkD (G : Gx) (A M : Addr → Prop) (H1 : Hp) (J : It) (ds : List D) : Prop where
  go : ∀ i H, Stands G M H1 H → i < ds.length → J.go i H
  stop : ∀ H, Stands G M H1 H → J.stop ds.length H
  yld : ∀ i H x H' A', Stands G M H1 H → (∀ a, A' a → A a ∨ H1 a = none) → Avd A' H → i < ds.length → J.yld i H x H' → (∀ b o, H b = some o → H' b = some o) ∧ ∃ d, ds[i]? = some d ∧ Fz G H' A' d x
/-- k: what a slot owns is walked -/
inductive Oi where
  | ok (ds : List D) (k : Bool) (tp : Tp)
  | ex (c : Nat) (f : List D) (tp : Tp)
  | bad
  deriving Inhabited
abbrev MI := Slots → Tp → Oi
def OutI (G : Gx) (W : WX) (A : Addr → Prop) (S : Slots) (σ : St) (H : Hp) (R : It → Hp → Prop) : Oi → Prop
  | .ok ds k tp' => ∀ J H1, Kp G H H1 → RelS G A S tp' σ H1 → (∀ M : Addr → Prop, (∀ a, M a → A a) → (k = true → ∀ a, ¬ M a) → WkD G A M H1 J ds) → R J H1
  | .ex c f tp' => ∀ cv dd H', RelS G A S tp' σ H' → Kp G H H' → ExOk G H' A c f cv dd → W cv dd σ H'
  | .bad => False
def tI (G : Gx) (W : WX) (mi : MI) : TI := fun σ H R => ∃ A S tp, RelS G A S tp σ H ∧ OutI G W A S σ H R (mi S tp)
def EvI (G : Gx) (X : Cx) (tg iter : Expr) (mi : MI) : Prop := ∀ W, Takes X W → PI X tg iter (tI G W mi)
def forD (mp : D → Slots → Option Slots) (body : MS) : List D → MS
  | [], S, tp => .nx S tp
  | d :: ds, S, tp => match mp d S with
    | none => .bad
    | some S1 => match body S1 tp with
      | .nx S2 tp2 => forD mp body ds S2 tp2
      | .ct S2 tp2 => forD mp body ds S2 tp2
      | .bk S2 tp2 => .nx S2 tp2
      | o => o
def mFor (mi : MI) (mp : D → Slots → Option Slots) (body : MS) : MS := fun S tp => match mi S tp with
  | .ok ds false tp' => forD mp body ds S tp'
  | .ok _ true _ => .bad
  | .ex c f tp' => .ex c f S tp'
  | .bad => .bad

section
variable {G : Gx} {X : Cx} {F : Fm} {A A' : Addr → Prop} {S S' : Slots} {tp tp' : Tp} {σ σ' : St} {H H' H1 : Hp} {W : WX} {d : D} {k : Kd} {v : V} {tg iter : Expr}
def OwnAt (S : Slots) (σ : St) (a : Addr) : Prop := ∃ (i : Nat) (d : D), S[i]? = some (some (d, .own)) ∧ σ[i]? = some (some (.ref a))
/-- a piece of a body begins here -/
def here (A : Addr → Prop) (S : Slots) (σ : St) (H : Hp) : Fm := ⟨H, fun a => A a ∧ ¬ OwnAt S σ a, OwnAt S σ, fun i v => σ[i]? = some (some v) ∧ ∃ d, S[i]? = some (some (d, .lck))⟩
theorem RelS.ownA (R : RelS G A S tp σ H) {a : Addr} (h : OwnAt S σ a) : A a ∧ ¬ G.gm a ∧ ∃ o, H a = some o := by
  obtain ⟨i, d, e, q⟩ := h
  obtain ⟨b, q1, q2, q3, q4⟩ := R.own i d .own (by decide) e
  rw [q] at q1; cases q1
  exact ⟨q2, q3, q4.obj⟩
theorem RelS.here (R : RelS G A S tp σ H) : RelF G (here A S σ H) A S tp σ H :=
  ⟨R, fun b o q _ _ => q, fun _ q => q.1, fun a q => (Classical.em (OwnAt S σ a)).elim (fun z => .inr (.inr z)) fun z => .inl ⟨q, z⟩, fun i d a e q => .inr ⟨i, d, e, q⟩, fun i v q => q,
    fun a e => ⟨(R.tap a e).1, fun z => (R.ownA z).2.1 e⟩, fun b z => (R.ownA z).2.2, fun a q => ⟨(R.avd a q.1).imp fun _ z => z.1, q.2⟩⟩
theorem RelF.trans (R : RelF G F A S tp σ H) (R' : RelF G (here A S σ H) A' S' tp' σ' H') : RelF G F A' S' tp' σ' H' := by
  have hO : ∀ a, OwnAt S σ a → F.H a = none ∨ F.M a := fun a ⟨i, d, e, q⟩ => R.ow i d a e q
  refine ⟨R'.rel, fun b o q n m => R'.kp b o (R.kp b o q n m) n fun z => ?_, fun a q => R'.sub a ⟨R.sub a q, fun z => ?_⟩, fun a q => ?_, fun i d a e q => ?_, fun i w q => ?_, R.tp, fun b m => ?_, R.wf⟩
  · rcases hO b z with z | z
    · rw [q] at z; cases z
    · exact m z
  · obtain ⟨⟨o, q1⟩, q2⟩ := R.wf a q
    rcases hO a z with z | z
    · rw [q1] at z; cases z
    · exact q2 z
  · rcases R'.nw a q with q | q | q
    · exact R.nw a q.1
    · exact .inr (.inl (R.old q))
    · exact .inr (hO a q)
  · rcases R'.ow i d a e q with q | q
    · exact .inl (R.old q)
    · exact hO a q
  · obtain ⟨q1, e, q2⟩ := R.pin i w q
    exact R'.pin i w ⟨q1, e, q2⟩
  · obtain ⟨o, q⟩ := R.mm b m
    by_cases z : OwnAt S σ b
    · exact R'.mm b z
    · by_cases y : G.gm b
      · obtain ⟨_, xs, u, _⟩ := R'.rel.tap b y
        exact ⟨_, u⟩
      · exact ⟨o, R'.kp b o q y z⟩
theorem RetOk.trans (R : RelF G F A S tp σ H) {tp2 : Tp} (h : RetOk G (here A S σ H) tp2 H' d v k) : RetOk G F tp2 H' d v k := by
  cases k with
  | frz =>
    obtain ⟨A', S', σ', R', q⟩ := h
    exact ⟨A', S', σ', R.trans R', q⟩
  | fr =>
    obtain ⟨A', S', σ', a, e, h1, R', h2, h3⟩ := h
    exact ⟨A', S', σ', a, e, R.old h1, R.trans R', h2, h3⟩
  | pk => exact h
theorem OutS.here (R : RelF G F A S tp σ H) {De : Ends} {o : So} (h : OutS G F W De o) : OutS G (here A S σ H) W De o := by
  cases o with
  | nx S tp => exact fun A σ H R' => h A σ H (R.trans R')
  | bk S tp => exact fun A σ H R' => h A σ H (R.trans R')
  | ct S tp => exact fun A σ H R' => h A σ H (R.trans R')
  | rt d k tp => exact fun v H r => h v H (RetOk.trans R r)
  | ex c f S tp => exact fun A cv dd σ H R' => h A cv dd σ H (R.trans R')
  | bad => exact h
/-- what stood ahead stands -/
theorem RelF.stood (R : RelS G A S tp σ H) (R' : RelF G (PV.here A S σ H) A' S' tp' σ' H') : Stands G (OwnAt S σ) H H' ∧ ∀ a, A' a → A a ∨ H a = none :=
  ⟨fun b o q n m => R'.kp b o q m n, fun a q => by
    rcases R'.nw a q with q | q | q
    · exact .inl q.1
    · exact .inr q
    · exact .inl (R.ownA q).1⟩
theorem s_for {body : List Stmt} {mi : MI} {mp : D → Slots → Option Slots} {mb : MS} {pos : Pos} (hp : PassesOwn (model X.prog X.w) X.A X.env X.xe) (hc : X.calm = true) (hi : EvI G X tg iter mi) (hg : EvP G X tg mp) (hb : EvSs G X body mb)
    (hs : ∀ x, foldedSetIterable iter X.env x = pure x := by intro _; rfl) : EvS G X (.For tg iter body [] pos) (mFor mi mp mb) := by
  intro F W tk
  have hg' : PG X tg (fun v σ H Q => ∃ F, tP G F mp v σ H Q) := ⟨fun pins s σ H x u Q I r ⟨F, q⟩ => (hg F).run pins s σ H x u Q I r q⟩
  have hb' : PSs X body (fun De σ H => ∃ F, tS G F W mb De σ H) := ⟨fun pins s σ H De I ⟨F, q⟩ => (hb F W tk).run pins s σ H De I q⟩
  refine (ps_for hp hc (hi W tk) hg' hb' hs).imp fun De σ H ⟨A, S, tp, R, h⟩ => ⟨A, S, tp, R.rel, ?_⟩
  unfold mFor at h
  revert h
  cases mi S tp with
  | ok ds kk tp1 =>
    intro h J H1 kp R1s wk
    have hkk : kk = false := by
      cases kk with
      | false => rfl
      | true => exact h.elim
    subst hkk
    have wk := wk (OwnAt S σ) (fun a z => (R1s.ownA z).1) fun z => nomatch z
    have R1 := R.after kp R1s
    have h : OutS G F W De (forD mp mb ds S tp1) := h
    refine ⟨fun i m σ' H' => m = ds.length - i ∧ i ≤ ds.length ∧ ∃ A' S' tp', RelF G (here A S σ H1) A' S' tp' σ' H' ∧ OutS G F W De (forD mp mb (ds.drop i) S' tp'), ⟨_, rfl, Nat.zero_le _, A, S, tp1, R1s.here, h⟩, ?_⟩
    rintro i m σ' H' ⟨rfl, hi, A', S', tp', R', h'⟩
    obtain ⟨st, nw⟩ := RelF.stood R1s R'
    by_cases hlt : i < ds.length
    · refine .inr ⟨wk.go i H' st hlt, fun σ2 H2 => ∃ A2 S2 tp2, RelF G (here A S σ H1) A2 S2 tp2 σ2 H2 ∧ OutS G F W De (forD mp mb (ds.drop (i + 1)) S2 tp2), fun σ2 H2 ⟨A2, S2, tp2, q1, q2⟩ => ⟨ds.length - (i + 1), by omega, rfl, hlt, A2, S2, tp2, q1, q2⟩, fun x H2 y => ?_⟩
      obtain ⟨kp2, d, hd, hz⟩ := wk.yld i H' x H2 A' st nw R'.rel.avd hlt y
      have R2 := R'.after (Kp.all kp2) (R'.rel.kpAll kp2)
      have hdr : ds.drop i = d :: ds.drop (i + 1) := by
        rw [List.drop_eq_getElem_cons hlt]
        congr 1
        have := List.getElem?_eq_getElem hlt
        rw [hd] at this
        exact (Option.some.inj this).symm
      rw [hdr] at h'
      have h' : OutS G F W De (match mp d S' with
        | none => .bad
        | some S1 => match mb S1 tp' with
          | .nx S2 tp2 => forD mp mb (ds.drop (i + 1)) S2 tp2
          | .ct S2 tp2 => forD mp mb (ds.drop (i + 1)) S2 tp2
          | .bk S2 tp2 => .nx S2 tp2
          | o => o) := h'
      split at h'
      · exact h'.elim
      · rename_i S1 e1
        refine ⟨here A S σ H1, A', S', tp', d, S1, R2, hz, e1, fun σ2 R3 => ⟨here A S σ H1, A', S1, tp', R3, ?_⟩⟩
        revert h'
        cases mb S1 tp' with
        | nx S2 tp2 => exact fun h' A2 σ3 H3 R4 => ⟨A2, S2, tp2, R4, h'⟩
        | ct S2 tp2 => exact fun h' A2 σ3 H3 R4 => ⟨A2, S2, tp2, R4, h'⟩
        | bk S2 tp2 => exact fun h' A2 σ3 H3 R4 => h' A2 σ3 H3 (R1.trans R4)
        | rt d k tp2 => exact fun h' v H3 r => h' v H3 (RetOk.trans R1 r)
        | ex c f S2 tp2 => exact fun h' A2 cv dd σ3 H3 R4 x => h' A2 cv dd σ3 H3 (R1.trans R4) x
        | bad => exact fun h' => h'
    · have e : i = ds.length := by omega
      subst e
      rw [List.drop_length] at h'
      exact .inl ⟨wk.stop H' st, h' A' σ' H' (R1.trans R')⟩
  | ex c f tp' => exact fun h cv dd H' r kp x => h A cv dd σ H' (R.after kp r) x
  | bad => exact fun h => h

/-! ### while: n turns at most -/
def whD (n : Nat) (c : ME) (body : MS) : MS := fun S tp => match n with
  | 0 => .bad
  | n + 1 => match c S tp with
    | .ok (.bl false) _ tp1 => .nx S tp1
    | .ok (.bl true) _ tp1 => match body S tp1 with
      | .nx S2 tp2 => whD n c body S2 tp2
      | .ct S2 tp2 => whD n c body S2 tp2
      | .bk S2 tp2 => .nx S2 tp2
      | o => o
    | .ok _ _ _ => .bad
    | .ex c f tp' => .ex c f S tp'
    | .bad => .bad
theorem s_while (n : Nat) {c : Expr} {body : List Stmt} {mc : ME} {mb : MS} {pos : Pos} (hp : PassesOwn (model X.prog X.w) X.A X.env X.xe) (hc : EvT G X c mc) (hb : EvSs G X body mb) : EvS G X (.While c body [] pos) (whD n mc mb) := by
  intro F W tk
  have hb' : PSs X body (fun De σ H => ∃ F, tS G F W mb De σ H) := ⟨fun pins s σ H De I ⟨F, q⟩ => (hb F W tk).run pins s σ H De I q⟩
  refine (ps_while hp (hc W tk) hb').imp fun De σ H ⟨A, S, tp, R, h⟩ => ?_
  refine ⟨fun m σ' H' => ∃ A' S' tp', RelF G F A' S' tp' σ' H' ∧ OutS G F W De (whD m mc mb S' tp'), ⟨n, A, S, tp, R, h⟩, ?_⟩
  rintro m σ' H' ⟨A', S', tp', R', h'⟩
  cases m with
  | zero => exact h'.elim
  | succ m =>
    refine ⟨A', S', tp', R'.rel, ?_⟩
    unfold whD at h'
    revert h'
    cases mc S' tp' with
    | ok d k tp1 =>
      cases d with
      | bl x =>
        cases x with
        | true =>
          intro h' H2 kp r
          have R2 := R'.after kp r
          refine (if_pos (rfl : true = true)).mpr ⟨fun σ3 H3 => ∃ A3 S3 tp3, RelF G F A3 S3 tp3 σ3 H3 ∧ OutS G F W De (whD m mc mb S3 tp3), fun σ3 H3 ⟨A3, S3, tp3, q1, q2⟩ => ⟨m, Nat.lt_succ_self m, A3, S3, tp3, q1, q2⟩, F, A', S', tp1, R2, ?_⟩
          have h' : OutS G F W De (match mb S' tp1 with
            | .nx S2 tp2 => whD m mc mb S2 tp2
            | .ct S2 tp2 => whD m mc mb S2 tp2
            | .bk S2 tp2 => .nx S2 tp2
            | o => o) := h'
          revert h'
          cases mb S' tp1 with
          | nx S2 tp2 => exact fun h' A2 σ3 H3 R4 => ⟨A2, S2, tp2, R4, h'⟩
          | ct S2 tp2 => exact fun h' A2 σ3 H3 R4 => ⟨A2, S2, tp2, R4, h'⟩
          | bk S2 tp2 => exact fun h' A2 σ3 H3 R4 => h' A2 σ3 H3 R4
          | rt d k tp2 => exact fun h' v H3 r => h' v H3 r
          | ex c f S2 tp2 => exact fun h' A2 cv dd σ3 H3 R4 x => h' A2 cv dd σ3 H3 R4 x
          | bad => exact fun h' => h'
        | false => exact fun h' H2 kp r => (if_neg Bool.false_ne_true).mpr (h' A' σ' H2 (R'.after kp r))
      | _ => exact fun h' => h'.elim
    | ex c f tp1 => exact fun h cv dd H' r kp x => h A' cv dd σ' H' (R'.after kp r) x
    | bad => exact fun h => h
end
end PV

/-! PVm: walks over zip and enumerate of lists and tuples in any mix. -/
namespace PV
open PySem L2
open PySem.Spec PyProof.Rows

/-- a walk by tuples, from the library's own -/
theorem turn_gn {P : Program} {w : World} {K : PySem.W.Frag} {tg : Expr} {I : Addr} {own : List Addr} {J : It} {tn : Nat → Heap → Prop} (mem : I ∈ own)
    (obj : ∀ i h, tn i h → ∀ b ∈ own, ∃ o, h.get? b = some o ∧ ∀ v, o.data ≠ .cell v)
    (keep : ∀ i h h', tn i h → (∀ b ∈ own, ∀ o, h.get? b = some o → h'.get? b = some o) → tn i h')
    (self : ∀ (A : Around) (i : Nat) (s : Shared) (Q : Value → Shared → Prop) (E : Value → Shared → Prop), tn i s.heap → Q (.ref I) s → wpAny (model P w) A (pyIter (.ref I)) Q E s)
    (goes : ∀ (X : Cx), X.prog = P → X.w = w → X.K = K → X.calm = true → ∀ (pins : List (Addr × Obj)) (s : Shared) (σ : L2.St) (H : Hp), Inv X pins σ H s → ∀ i, tn i s.heap → (J.go i H ∨ J.stop i H) →
      ∃ fp wr n Y St, GoesN P w X.A tg I fp wr n Y St ∧ (∀ b ∈ wr, b ∈ own) ∧ (∀ h, St (i + 1) h → tn (i + 1) h) ∧ St i s.heap ∧ (J.go i H → i < n) ∧ (J.stop i H → i = n) ∧
        ∀ v h', Y i s.heap v h' → ∃ T vals xs, v = .ref T ∧ s.heap.objs.size ≤ T ∧ h'.IsTuple T vals ∧ Vals xs vals.toList ∧ xs.length ≤ 16 ∧ J.yld i H (.ref T) (upd H T (.tup xs))) :
    Turn P w K tg J own I tn where
  mem := mem
  obj := obj
  keep := keep
  self := self
  item := by
    intro X hP hw hK hc i pins s σ H E IV hf st hg
    obtain ⟨fp, wr, n, Y, St, W, hwr, h1, h2, h3, _, h5⟩ := goes X hP hw hK hc pins s σ H IV i st (.inl hg)
    refine W.goes i s _ E (h3 hg) h2 fun v h' tk hY hS hk _ => ?_
    obtain ⟨T, vals, xs, rfl, hT, hTu, hV, hl, hy⟩ := h5 v h' hY
    have new : ObjOk X.prog X.w (upd H T (.tup xs)) h' T (.tup xs) := ⟨by rw [sizeLine_eq]; omega, vals.toList, hV, hTu⟩
    have I1 : Inv X pins σ (upd H T (.tup xs)) { s with heap := h', toks := tk } :=
      IV.turnedNew (t' := tk) (ch := own) (fun b o hb q => hk b o (fun z => hb (hwr b z)) q) hf hT new
    refine ⟨.ref T, _, I1, rfl, hy, h1 h' hS, fun b hb => ?_⟩
    obtain ⟨o, e, _⟩ := obj i s.heap st b hb
    rw [upd_ne (Nat.ne_of_lt (Nat.lt_of_lt_of_le (Heap.lt_size e) hT))]
    exact (hf b hb).1
  done := by
    intro X hP hw hK hc i pins s σ H E IV hf st hg
    obtain ⟨fp, wr, n, Y, St, W, hwr, h1, h2, _, h4, _⟩ := goes X hP hw hK hc pins s σ H IV i st (.inr hg)
    have e := h4 hg
    subst e
    exact W.stops s (fun s1 => Inv X pins σ H s1) E h2 fun h' tk hk _ => IV.turnedL (t' := tk) (ch := own) (fun b o hb q => hk b o (fun z => hb (hwr b z)) q) hf

/-! ### sources: a list or a tuple -/
def SqB (K : PySem.W.Frag) (l : Bool) (H : Hp) (a : Addr) (xs : List V) : Prop := if l = true then SqL K H a xs else SqT K H a xs
def StB (l : Bool) (h : Heap) (a : Addr) (items : Array Value) : Prop := if l = true then h.IsList a items else h.IsTuple a items
def ItB (l : Bool) (h : Heap) (it a : Addr) (i : Nat) : Prop := if l = true then h.IsListIter it a i else h.IsTupleIter it a i
def obB (l : Bool) (a : Addr) : Obj := if l = true then { cls := .type "list_iterator", data := .fields #[.ref a, .int 0 0] } else { cls := .type "tuple_iterator", data := .fields #[.ref a, .int 0 0] }
section
variable {X : Cx} {pins : List (Addr × Obj)} {σ : L2.St} {H : Hp} {s : Shared} {l : Bool} {a : Addr} {xs ys : List V}
theorem SqB.get (I : Inv X pins σ H s) (h : SqB X.K l H a xs) : ∃ its : List Value, Vals xs its ∧ StB l s.heap a its.toArray ∧ a < s.heap.objs.size := by
  cases l with
  | true =>
    obtain ⟨its, r, p, _⟩ := I.list (show SqL X.K H a xs from h)
    exact ⟨its, r, p.isList, p.lt⟩
  | false =>
    obtain ⟨its, r, p, _⟩ := I.tuple (show SqT X.K H a xs from h)
    exact ⟨its, r, p, p.lt⟩
theorem SqB.inj (I : Inv X pins σ H s) (h : SqB X.K l H a xs) (h' : SqB X.K l H a ys) : xs = ys := by
  cases l with
  | true => exact I.list_inj h h'
  | false => exact I.tuple_inj h h'
theorem ItB.obj {h : Heap} {it : Addr} {i : Nat} (x : ItB l h it a i) : ∃ o, h.get? it = some o ∧ ∀ v, o.data ≠ .cell v := by
  cases l with
  | true =>
    obtain ⟨o, e, _, d⟩ := (show h.IsListIter it a i from x)
    exact ⟨o, e, fun v z => by rw [d] at z; cases z⟩
  | false =>
    obtain ⟨o, e, _, d⟩ := (show h.IsTupleIter it a i from x)
    exact ⟨o, e, fun v z => by rw [d] at z; cases z⟩
theorem ItB.keep {h h' : Heap} {it : Addr} {i : Nat} (x : ItB l h it a i) (k : ∀ o, h.get? it = some o → h'.get? it = some o) : ItB l h' it a i := by
  cases l with
  | true => exact Heap.IsListIter.at (show h.IsListIter it a i from x) k
  | false => exact Heap.IsTupleIter.at (show h.IsTupleIter it a i from x) k
theorem ItB.begin {h : Heap} {it : Addr} (e : h.get? it = some (obB l a)) : ItB l h it a 0 := by
  cases l with
  | true => exact ⟨_, e, rfl, rfl⟩
  | false => exact ⟨_, e, rfl, rfl⟩
theorem drawsB {prog : Program} {w : World} {A : Around} (hh : A.handled = none) (it : Addr) (hne : a ≠ it) (items : Array Value) :
    Draws prog w A it [it, a] items.size (fun i v => items[i]? = some v) (fun i h => ItB l h it a i ∧ StB l h a items) := by
  cases l with
  | true => exact Draws.list hh it a hne items
  | false => exact Draws.tuple hh it a hne items
theorem beginsB (items : Array Value) : Begins (.ref a) (obB l a) fun h => StB l h a items := by
  cases l with
  | true => exact begins_list a items
  | false => exact begins_tuple a items
end

/-! ### zip of two -/
def Jz2 (K : PySem.W.Frag) (l1 : Bool) (a : Addr) (l2 : Bool) (b : Addr) : It :=
  ⟨fun i H => ∃ (xs ys : List V), SqB K l1 H a xs ∧ SqB K l2 H b ys ∧ i < min xs.length ys.length,
    fun i H v H' => ∃ T x y, v = .ref T ∧ H T = none ∧ H' = upd H T (.tup [x, y]) ∧ (∀ xs, SqB K l1 H a xs → xs[i]? = some x) ∧ ∀ ys, SqB K l2 H b ys → ys[i]? = some y,
    fun i H => ∃ xs ys : List V, SqB K l1 H a xs ∧ SqB K l2 H b ys ∧ i = min xs.length ys.length⟩
theorem turn_z2 {P : Program} {w : World} {K : PySem.W.Frag} {elts : List Expr} {kk : Nat} {tpos : Pos} {l1 l2 : Bool} {a b z TI TO i1 i2 : Addr} (S : ZipSep2 z TI TO i1 i2 [i1, a] [i2, b]) (n1 : a ≠ i1) (n2 : b ≠ i2) :
    Turn P w K (.Tuple elts kk tpos) (Jz2 K l1 a l2 b) [z, TI, TO, i1, i2] z (fun i h => IsZip h z TI TO .none ∧ IsTupOf2 h TI (.ref i1) (.ref i2) ∧ (∃ x y, IsTupOf2 h TO x y) ∧ ItB l1 h i1 a i ∧ ItB l2 h i2 b i) := by
  refine turn_gn (by simp) (fun i h st c hc => ?_) (fun i h h' st k => ?_) (fun A i s Q E st h => wpAny_pyIter_zip st.1 h) fun X hP hw hK hc pins s σ H I i st hg => ?_
  · obtain ⟨hz, hTI, ⟨x, y, hTO⟩, h1, h2⟩ := st
    have e' : c = z ∨ c = TI ∨ c = TO ∨ c = i1 ∨ c = i2 := by simpa using hc
    rcases e' with q | q | q | q | q
    · rw [q]; exact ⟨_, hz, fun v q => nomatch q⟩
    · rw [q]; exact ⟨_, hTI, fun v q => nomatch q⟩
    · rw [q]; exact ⟨_, hTO, fun v q => nomatch q⟩
    · rw [q]; exact h1.obj
    · rw [q]; exact h2.obj
  · obtain ⟨hz, hTI, ⟨x, y, hTO⟩, h1, h2⟩ := st
    exact ⟨k z (by simp) _ hz, k TI (by simp) _ hTI, ⟨x, y, k TO (by simp) _ hTO⟩, h1.keep fun o q => k i1 (by simp) o q, h2.keep fun o q => k i2 (by simp) o q⟩
  · subst hP hw hK
    obtain ⟨hz, hTI, hTO, h1, h2⟩ := st
    obtain ⟨xs, ys, hqx, hqy⟩ : ∃ (xs ys : List V), SqB X.K l1 H a xs ∧ SqB X.K l2 H b ys := by
      rcases hg with ⟨xs, ys, q1, q2, _⟩ | ⟨xs, ys, q1, q2, _⟩ <;> exact ⟨xs, ys, q1, q2⟩
    obtain ⟨its, rv, p, _⟩ := hqx.get I
    obtain ⟨its2, rv2, p2, _⟩ := hqy.get I
    have e1 : its.toArray.size = xs.length := by rw [List.size_toArray]; exact rv.length.symm
    have e2 : its2.toArray.size = ys.length := by rw [List.size_toArray]; exact rv2.length.symm
    refine ⟨_, _, _, _, _, GoesN.zip2 S (drawsB (A := X.A.in1) (l := l1) (show X.A.in1.handled = none from I.ok.hd hc) i1 n1 its.toArray) (drawsB (A := X.A.in1) (l := l2) (show X.A.in1.handled = none from I.ok.hd hc) i2 n2 its2.toArray), fun c hcm => ?_, fun h st => ⟨st.1, st.2.1, st.2.2.1, st.2.2.2.1.1, st.2.2.2.2.1⟩, ⟨hz, hTI, hTO, ⟨h1, p⟩, ⟨h2, p2⟩⟩, fun g => ?_, fun g => ?_, fun v h' y => ?_⟩
    · have e' : c = z ∨ c = TO ∨ c = i1 ∨ c = i2 := by simpa using hcm
      rcases e' with q | q | q | q <;> rw [q] <;> simp
    · obtain ⟨xs', ys', q1, q2, q3⟩ := g
      rw [hqx.inj I q1, hqy.inj I q2] at *
      rw [e1, e2]; exact q3
    · obtain ⟨xs', ys', q1, q2, q3⟩ := g
      rw [hqx.inj I q1, hqy.inj I q2] at *
      rw [e1, e2]; exact q3
    · obtain ⟨T, x, y, ev, hT, hx, hy, hTu⟩ := y
      have hx : its[i]? = some x := by simpa using hx
      have hy : its2[i]? = some y := by simpa using hy
      have g1 : i < xs.length := by rw [rv.length]; exact (List.getElem?_eq_some_iff.mp hx).1
      have g2 : i < ys.length := by rw [rv2.length]; exact (List.getElem?_eq_some_iff.mp hy).1
      obtain ⟨u, hu, ru⟩ := rv.get (List.getElem?_eq_getElem g1)
      obtain ⟨u2, hu2, ru2⟩ := rv2.get (List.getElem?_eq_getElem g2)
      rw [hx] at hu; cases hu
      rw [hy] at hu2; cases hu2
      exact ⟨T, _, [xs[i], ys[i]], ev, hT, hTu, .cons ru (.cons ru2 .nil), by simp, T, _, _, rfl, I.hok.fresh hT, rfl, fun l hl => by rw [hl.inj I hqx]; exact List.getElem?_eq_getElem g1, fun l hl => by rw [hl.inj I hqy]; exact List.getElem?_eq_getElem g2⟩
end PV

/-! PVn: walks over lists, tuples, ranges, zips, enumerations. -/
namespace PV
open PySem L2
open PySem.Spec PyProof.Rows

/-! ### enumerate by one argument, whatever is walked -/
theorem meets_en1 {v : Value} {o : Obj} {U : Heap → Prop} (B : Begins v o U) : Meets (Builtin.«enumerate.__new__» ⟨[.type "enumerate", v], []⟩) (fun _ R s => U s.heap ∧
    R (.ok (.ret (.ref (s.heap.push o).objs.size))) { s with heap := (s.heap.push o).push { cls := .type "enumerate", data := .fields #[.none, .bool false, .ref s.heap.objs.size, rawInt 0, .none, .none] } }) := by
  refine .of_wp fun pr w A R s hh => ?_
  obtain ⟨hp, g, d, tk, os⟩ := s
  obtain ⟨h1, hh⟩ := hh
  have hsub := sub_enumerate
  have qq : ∀ {A' : Around} {E Q : Value → Shared → Prop}, Q (.ref hp.objs.size) ⟨hp.push o, g, d, tk, os⟩ → wpAny (model pr w) A' (pyIter v) Q E ⟨hp, g, d, tk, os⟩ := fun q => B.iter pr w _ _ ⟨hp, g, d, tk, os⟩ _ h1 q
  wp_walk using qq
  refine wpAny_stack_any fun st => wpAny_pure ?_
  split
  · rename_i c _ _ _ _ _
    cases (c == Value.type "enumerate") <;> (wp_walk using qq; exact ⟨_, rfl, hh⟩)
  · wp_walk using qq; exact ⟨_, rfl, hh⟩
theorem en_begins {P : Program} {w : World} {A : Around} {E Q : Value → Shared → Prop} {s : Shared} {v : Value} {o : Obj} {U : Heap → Prop} (B : Begins v o U) (h1 : U s.heap)
    (h : ∀ h', IsEnum h' (s.heap.objs.size + 1) s.heap.objs.size 0 .none → h'.get? s.heap.objs.size = some o → h'.objs.size = s.heap.objs.size + 2 → (∀ b u, s.heap.get? b = some u → h'.get? b = some u) → Q (.ref (s.heap.objs.size + 1)) { s with heap := h' }) :
    wpAny (model P w) A (call (.type "enumerate") [v]) Q E s := by
  have zz : (s.heap.push o).objs.size = s.heap.objs.size + 1 := Heap.size_push ..
  refine callType_new F.called_enumerate (by decide) (F.typeCall_enumerate_1 _) (F.newCall_enumerate_1 _) (fun obj => F.args_object_init_2 obj _) F.entry_enumerate_new (meets_en1 B) ⟨h1, ?_⟩
  show _ ∧ _
  have ee := Heap.get?_push_size (s.heap.push o) (o := { cls := .type "enumerate", data := .fields #[.none, .bool false, .ref s.heap.objs.size, rawInt 0, .none, .none] }) rfl
  rw [zz] at ee ⊢
  exact ⟨⟨_, ee, rfl⟩, h _ ee (Heap.get?_push_of_some _ (Heap.get?_push_size _ B.free)) (by rw [Heap.size_push, zz]) fun b u x => Heap.get?_push_of_some _ (Heap.get?_push_of_some _ x)⟩

/-! ### the sources' data -/
def seqD : D → Option (Bool × List D)
  | .lst l => some (true, l)
  | .tup l => some (false, l)
  | _ => none
/-- v is a list or a tuple of ds, and stays so while what is needed stands -/
structure SrcA (G : Gx) (A : Addr → Prop) (H1 : Hp) (l : Bool) (a : Addr) (ds : List D) (own : Bool) : Prop where
  ex : ∃ xs, FzL G H1 A ds xs ∧ ∀ H M, Stands G M H1 H → (∀ b, M b → A b) → (own = true → ∀ b, ¬ M b) → SqB G.K l H a xs
section
variable {G : Gx} {H H' H1 : Hp} {A M : Addr → Prop} {d : D} {v : V} {l : Bool} {ds : List D}
theorem Stands.old (hT : ∀ a, G.gm a → A a) (hM : ∀ b, M b → A b) (h : Stands G M H1 H) : ∀ b o, H1 b = some o → ¬ A b → H b = some o := fun b o q n => h b o q (fun m => n (hM b m)) fun t => n (hT b t)
theorem Fz.src (hT : ∀ a, G.gm a → A a) (h : Fz G H1 A d v) (e : seqD d = some (l, ds)) : ∃ a, v = .ref a ∧ SrcA G A H1 l a ds false := by
  cases h with
  | @tup a xs ds' ht r =>
    cases e
    refine ⟨a, rfl, ⟨xs, r, fun H M st hM _ => ?_⟩⟩
    show SqT G.K H a xs
    rcases ht with ⟨ht, na⟩ | ht
    · exact .of (st.old hT hM _ _ ht na)
    · exact ht H
  | @lst a xs ds' ht r =>
    cases e
    exact ⟨a, rfl, ⟨xs, r, fun H M st hM _ => show SqL G.K H a xs from .of (st.old hT hM _ _ ht.1 ht.2)⟩⟩
  | _ => cases e
theorem OwV.src (h : OwV G H1 A d v) (e : seqD d = some (l, ds)) : ∃ a, v = .ref a ∧ SrcA G A H1 l a ds true := by
  obtain ⟨a, rfl, ha, hn, ho⟩ := h
  cases d with
  | lst ds' =>
    cases e
    obtain ⟨xs, h1, r⟩ := ho
    exact ⟨a, rfl, ⟨xs, r, fun H M st hM hm => show SqL G.K H a xs from .of (st _ _ h1 (hm rfl a) hn)⟩⟩
  | tup _ => exact ho.elim
  | _ => cases e
theorem SrcA.sq {a : Addr} {own : Bool} (s : SrcA G A H l a ds own) : ∃ xs, SqB G.K l H a xs := by
  obtain ⟨xs, _, q⟩ := s.ex
  exact ⟨xs, q H (fun _ => False) (fun b o e _ _ => e) (fun _ z => z.elim) fun _ _ z => z.elim⟩
theorem SqB.inj' {K : PySem.W.Frag} {a : Addr} {xs ys : List V} (h : SqB K l H a xs) (n : ∀ xs ys, SqB K l H a xs → SqB K l H a ys → xs = ys) (h' : SqB K l H a ys) : xs = ys := n _ _ h h'
end

/-! ### the rules -/
/-- one walked thing: e's value -/
def mSeqI (m : ME) : MI := fun S tp => match m S tp with
  | .ok d k tp' => match seqD d with
    | some (_, ds) => .ok ds k.isPk tp'
    | none => .bad
  | .ex c f tp' => .ex c f tp'
  | .bad => .bad
def JsB (K : PySem.W.Frag) (l : Bool) (a : Addr) : It := if l = true then Itl K a else Itt K a
section
variable {G : Gx} {X : Cx} {A A' M : Addr → Prop} {S : Slots} {tp tp' : Tp} {σ : L2.St} {H H' H1 : Hp} {W : WX} {tg : Expr} {l : Bool} {a : Addr} {ds : List D} {own : Bool}
theorem JsB.wk (hT : ∀ a, G.gm a → A a) (s : SrcA G A H1 l a ds own) (hM : ∀ b, M b → A b) (hm : own = true → ∀ b, ¬ M b) : WkD G A M H1 (JsB G.K l a) ds := by
  obtain ⟨xs, r, q⟩ := s.ex
  have hl := r.length
  cases l with
  | true =>
    refine ⟨fun i H st hi => ?_, fun H st => ?_, fun i H x H' A' st nA _ hi y => ?_⟩
    · exact ⟨xs, xs[i], q H M st hM hm, List.getElem?_eq_getElem (by omega)⟩
    · exact ⟨xs, q H M st hM hm, by omega⟩
    · obtain ⟨rfl, y⟩ := y
      have y := y xs (q H' M st hM hm)
      obtain ⟨d, h1, h2⟩ := r.get' y
      exact ⟨fun _ _ z => z, d, h1, h2.ext' (st.old hT hM) nA⟩
  | false =>
    refine ⟨fun i H st hi => ?_, fun H st => ?_, fun i H x H' A' st nA _ hi y => ?_⟩
    · exact ⟨xs, xs[i], q H M st hM hm, List.getElem?_eq_getElem (by omega)⟩
    · exact ⟨xs, q H M st hM hm, by omega⟩
    · obtain ⟨rfl, y⟩ := y
      have y := y xs (q H' M st hM hm)
      obtain ⟨d, h1, h2⟩ := r.get' y
      exact ⟨fun _ _ z => z, d, h1, h2.ext' (st.old hT hM) nA⟩
def iSeqB (K : PySem.W.Frag) (tl : TE) : TI := fun σ H R => tl σ H fun x H1 => ∃ l a, x = .ref a ∧ (∃ xs, SqB K l H1 a xs) ∧ R (JsB K l a) H1
theorem pi_seqB {e : Expr} {tl : TE} (hl : PE X e tl) : PI X tg e (iSeqB X.K tl) := by
  refine ⟨fun pins s σ H R I h => thn (hl.run pins s σ H _ I h) fun v s1 ⟨x, H1, I1, r1, q1⟩ => ?_⟩
  obtain ⟨l, a, rfl, ⟨xs, hq⟩, q⟩ := q1
  cases r1
  obtain ⟨its, rv, p, _⟩ := hq.get I1
  refine (beginsB (l := l) (a := a) its.toArray).iter _ _ _ _ _ _ p ⟨s1.heap.objs.size, [s1.heap.objs.size], fun i h => ItB l h s1.heap.objs.size a i, JsB X.K l a, H1, rfl, I1.kept (t' := s1.toks) fun b o e => Heap.get?_push_of_some _ e, ?_, ItB.begin (Heap.get?_push_size _ (by cases l <;> rfl)), fun b hb => ?_, q⟩
  · cases l with
    | true => exact turn_list a _
    | false => exact turn_tuple a _
  · rw [List.mem_singleton.mp hb]
    exact I1.fpOk (Nat.le_refl _) (I1.hok.fresh (Nat.le_refl _))
theorem Res.src {k : Kd} {d : D} {v : V} (R : RelS G A S tp σ H) (r : Res G A S tp' σ H H' d k v) (e : seqD d = some (l, ds)) : ∃ a, v = .ref a ∧ SrcA G A H' l a ds k.isPk := by
  have hT : ∀ a, G.gm a → A a := fun a z => (R.tap a z).1
  cases k with
  | frz => exact (r.fz R (by decide)).src hT e
  | fr => exact (r.fz R (by decide)).src hT e
  | pk => exact r.2.2.src e
theorem i_seq {e : Expr} {m : ME} (hK : X.K = G.K) (he : EvE G X e m) : EvI G X tg e (mSeqI m) := by
  intro W tk
  refine (pi_seqB (he W tk)).imp' fun σ H Q ⟨A, S, tp, R, h⟩ => ⟨A, S, tp, R, ?_⟩
  unfold mSeqI at h
  revert h
  cases m S tp with
  | ok d k tp1 =>
    intro h v H1 r
    have h : OutI G W A S σ H Q (match seqD d with | some (_, ds) => .ok ds k.isPk tp1 | none => .bad) := h
    split at h
    · rename_i l ds e
      obtain ⟨a, rfl, s⟩ := r.src R e
      rw [hK]
      exact ⟨l, a, rfl, s.sq, h _ H1 r.1 (r.rel R) fun M hM hm => JsB.wk (fun a z => (R.tap a z).1) s hM hm⟩
    · exact h.elim
  | ex c f tp1 => exact fun h => h
  | bad => exact fun h => h
end
end PV

/-! PVo: walks over ranges, zips, enumerations. -/
namespace PV
open PySem L2
open PySem.Spec PyProof.Rows

def rgD (lo : Int) (n : Nat) : List D := (List.range n).map fun (i : Nat) => D.int (lo + i)
def mRng (ms : MEs) : MI := fun S tp => match ms S tp with
  | .ok [(.int j, _)] tp' => if decide (-(2 ^ 62) ≤ j) && decide (j < 2 ^ 62) then .ok (rgD 0 j.toNat) false tp' else .bad
  | .ok [(.int i, _), (.int j, _)] tp' => if decide (-(2 ^ 62) ≤ i) && decide (i < 2 ^ 62) && decide (-(2 ^ 62) ≤ j) && decide (j < 2 ^ 62) then .ok (rgD i (j - i).toNat) false tp' else .bad
  | .ok _ _ => .bad
  | .ex c f tp' => .ex c f tp'
  | .bad => .bad
/-- by the values of the arguments -/
def mArgI (f : List D → Option (List D)) (ms : MEs) : MI := fun S tp => match ms S tp with
  | .ok ds tp' => match f (ds.map (·.1)) with
    | some es => .ok es (ds.any (·.2)) tp'
    | none => .bad
  | .ex c f tp' => .ex c f tp'
  | .bad => .bad
def fZip2 : List D → Option (List D)
  | [d, e] => (seqD d).bind fun p => (seqD e).map fun q => List.zipWith (fun x y => D.tup [x, y]) p.2 q.2
  | _ => none
def zip3D : List D → List D → List D → List D
  | x :: xs, y :: ys, z :: zs => .tup [x, y, z] :: zip3D xs ys zs
  | _, _, _ => []
def fZip3 : List D → Option (List D)
  | [d, e, f] => (seqD d).bind fun p => (seqD e).bind fun q => (seqD f).map fun r => zip3D p.2 q.2 r.2
  | _ => none
def enumD (i : Int) : List D → List D
  | [] => []
  | x :: xs => .tup [.int i, x] :: enumD (i + 1) xs
def fEnum : List D → Option (List D)
  | [d] => (seqD d).map fun p => enumD 0 p.2
  | _ => none
theorem len_two {α : Type} : ∀ {l : List α}, l.length = 2 → ∃ a b, l = [a, b]
  | [a, b], _ => ⟨a, b, rfl⟩
theorem len_three {α : Type} : ∀ {l : List α}, l.length = 3 → ∃ a b c, l = [a, b, c]
  | [a, b, c], _ => ⟨a, b, c, rfl⟩
theorem zip3D_length : ∀ xs ys zs : List D, (zip3D xs ys zs).length = min (min xs.length ys.length) zs.length
  | [], _, _ => by simp [zip3D]
  | _ :: _, [], _ => by simp [zip3D]
  | _ :: _, _ :: _, [] => by simp [zip3D]
  | x :: xs, y :: ys, z :: zs => by simp [zip3D, zip3D_length xs ys zs]
theorem zip3D_get : ∀ {xs ys zs : List D} {i : Nat} {x y z : D}, xs[i]? = some x → ys[i]? = some y → zs[i]? = some z → (zip3D xs ys zs)[i]? = some (.tup [x, y, z])
  | [], _, _, i, _, _, _, h, _, _ => by simp at h
  | _ :: _, [], _, i, _, _, _, _, h, _ => by simp at h
  | _ :: _, _ :: _, [], i, _, _, _, _, _, h => by simp at h
  | x :: xs, y :: ys, z :: zs, 0, _, _, _, h1, h2, h3 => by
    simp at h1 h2 h3
    subst h1 h2 h3
    rfl
  | x :: xs, y :: ys, z :: zs, i + 1, _, _, _, h1, h2, h3 => by
    simp at h1 h2 h3
    simpa [zip3D] using zip3D_get h1 h2 h3
theorem enumD_length : ∀ (xs : List D) (i : Int), (enumD i xs).length = xs.length
  | [], _ => rfl
  | x :: xs, i => by simp [enumD, enumD_length xs]
theorem enumD_get : ∀ {xs : List D} {j : Int} {i : Nat} {x : D}, xs[i]? = some x → (enumD j xs)[i]? = some (.tup [.int (j + i), x])
  | [], _, i, _, h => by simp at h
  | x :: xs, j, 0, _, h => by
    simp at h
    subst h
    simp [enumD]
  | x :: xs, j, i + 1, _, h => by
    simp at h
    have := enumD_get (j := j + 1) h
    simp [enumD, this]
    omega

section
variable {G : Gx} {X : Cx} {A A' M : Addr → Prop} {S : Slots} {tp tp' : Tp} {σ : L2.St} {H H' H1 : Hp} {W : WX} {tg : Expr} {a : Addr} {ds : List D} {own : Bool}
theorem VkL.one {p : D × Bool} {vs : List V} (h : VkL G H A [p] vs) : ∃ v, vs = [v] ∧ VkL G H A [p] [v] := by
  cases h with
  | fz r t => cases t; exact ⟨_, rfl, .fz r .nil⟩
  | ow r t => cases t; exact ⟨_, rfl, .ow r .nil⟩
theorem VkL.cons_inv {p : D × Bool} {ps : List (D × Bool)} {vs : List V} (h : VkL G H A (p :: ps) vs) : ∃ v ws, vs = v :: ws ∧ VkL G H A [p] [v] ∧ VkL G H A ps ws := by
  cases h with
  | fz r t => exact ⟨_, _, rfl, .fz r .nil, t⟩
  | ow r t => exact ⟨_, _, rfl, .ow r .nil, t⟩
theorem VkL.src {d : D} {k : Bool} {v : V} {l : Bool} (hT : ∀ a, G.gm a → A a) (h : VkL G H A [(d, k)] [v]) (e : seqD d = some (l, ds)) : ∃ a, v = .ref a ∧ SrcA G A H l a ds k := by
  cases h with
  | fz r _ => exact r.src hT e
  | ow r _ => exact r.src e
theorem wk_range (lo : Int) (n : Nat) : WkD G A M H1 (Itr lo n) (rgD lo n) := by
  refine ⟨fun i H _ hi => ?_, fun H _ => ?_, fun i H x H' A' _ _ _ hi y => ?_⟩
  · show i < n
    simpa [rgD] using hi
  · show n ≤ (rgD lo n).length
    simp [rgD]
  · obtain ⟨e, rfl⟩ := y
    subst e
    refine ⟨fun _ _ z => z, .int (lo + i), ?_, .int _⟩
    have hi : i < n := by simpa [rgD] using hi
    simp [rgD, hi]
theorem i_range1 {e : Expr} {ms : MEs} {p pos : Pos} (hg : Gl X "range") (hm : X.mg "range" = none) (ha : EvL G X [e] ms) (hs : starEach [e] X.env = [(false, eval e X.env)] := by rfl) : EvI G X tg (.Call (.Name "range" p) [e] [] pos) (mRng ms) := by
  intro W tk
  refine (pi_range1 hg hm (ha.run W tk) hs).imp' fun σ H Q ⟨A, S, tp, R, h⟩ => ⟨A, S, tp, R, ?_⟩
  unfold mRng at h
  have hl := ha.len S tp
  revert h hl
  cases ms S tp with
  | ok ds tp1 =>
    intro h hl vs H1 r
    have hl := hl ds tp1 rfl
    obtain ⟨p1, rfl⟩ : ∃ p1, ds = [p1] := List.length_eq_one_iff.mp hl
    obtain ⟨d, k⟩ := p1
    cases d with
    | int j =>
      have h : OutI G W A S σ H Q (if decide (-(2 ^ 62) ≤ j) && decide (j < 2 ^ 62) then .ok (rgD 0 j.toNat) false tp1 else .bad) := h
      split at h
      · rename_i hz
        rw [Bool.and_eq_true] at hz
        obtain ⟨v, rfl, hv⟩ := r.2.2.vw.one
        exact ⟨j, by rw [hv.int], of_decide_eq_true hz.1, of_decide_eq_true hz.2, h _ H1 r.1 r.2.1 fun M _ _ => wk_range 0 j.toNat⟩
      · exact h.elim
    | _ => exact h.elim
  | ex c f tp1 => exact fun h _ => h
  | bad => exact fun h _ => h
theorem i_range2 {e1 e2 : Expr} {ms : MEs} {p pos : Pos} (hg : Gl X "range") (hm : X.mg "range" = none) (ha : EvL G X [e1, e2] ms) (hs : starEach [e1, e2] X.env = [(false, eval e1 X.env), (false, eval e2 X.env)] := by rfl) (hs2 : starEach [e2] X.env = [(false, eval e2 X.env)] := by rfl) :
    EvI G X tg (.Call (.Name "range" p) [e1, e2] [] pos) (mRng ms) := by
  intro W tk
  refine (pi_range2 hg hm (ha.run W tk) hs hs2).imp' fun σ H Q ⟨A, S, tp, R, h⟩ => ⟨A, S, tp, R, ?_⟩
  unfold mRng at h
  have hl := ha.len S tp
  revert h hl
  cases ms S tp with
  | ok ds tp1 =>
    intro h hl vs H1 r
    have hl := hl ds tp1 rfl
    obtain ⟨p1, p2, rfl⟩ : ∃ p1 p2, ds = [p1, p2] := len_two hl
    obtain ⟨d, k⟩ := p1
    obtain ⟨d2, k2⟩ := p2
    cases d with
    | int i =>
      cases d2 with
      | int j =>
        have h : OutI G W A S σ H Q (if decide (-(2 ^ 62) ≤ i) && decide (i < 2 ^ 62) && decide (-(2 ^ 62) ≤ j) && decide (j < 2 ^ 62) then .ok (rgD i (j - i).toNat) false tp1 else .bad) := h
        split at h
        · rename_i hz
          rw [Bool.and_eq_true, Bool.and_eq_true, Bool.and_eq_true] at hz
          obtain ⟨v, w, rfl, hv, hw⟩ := r.2.2.vw.two
          exact ⟨i, j, by rw [hv.int, hw.int], ⟨of_decide_eq_true hz.1.1.1, of_decide_eq_true hz.1.1.2, of_decide_eq_true hz.1.2, of_decide_eq_true hz.2⟩, h _ H1 r.1 r.2.1 fun M _ _ => wk_range _ _⟩
        · exact h.elim
      | _ => exact h.elim
    | _ => exact h.elim
  | ex c f tp1 => exact fun h _ => h
  | bad => exact fun h _ => h

/-! ### zip of two -/
theorem wk_z2 {l1 l2 : Bool} {a b : Addr} {ds1 ds2 : List D} {o1 o2 : Bool} (hT : ∀ a, G.gm a → A a) (s1 : SrcA G A H1 l1 a ds1 o1) (s2 : SrcA G A H1 l2 b ds2 o2) (hM : ∀ b, M b → A b) (hm : (o1 || (o2 || false)) = true → ∀ b, ¬ M b) :
    WkD G A M H1 (Jz2 G.K l1 a l2 b) (List.zipWith (fun x y => D.tup [x, y]) ds1 ds2) := by
  obtain ⟨xs, r1, q1⟩ := s1.ex
  obtain ⟨ys, r2, q2⟩ := s2.ex
  have m1 : o1 = true → ∀ b, ¬ M b := fun z => hm (by rw [z]; rfl)
  have m2 : o2 = true → ∀ b, ¬ M b := fun z => hm (by rw [z]; cases o1 <;> rfl)
  have e1 := r1.length
  have e2 := r2.length
  refine ⟨fun i H st hi => ?_, fun H st => ?_, fun i H x H' A' st nA av hi y => ?_⟩
  · rw [List.length_zipWith] at hi
    exact ⟨xs, ys, q1 H M st hM m1, q2 H M st hM m2, by omega⟩
  · rw [List.length_zipWith]
    exact ⟨xs, ys, q1 H M st hM m1, q2 H M st hM m2, by omega⟩
  · obtain ⟨T, x, y, rfl, hT', rfl, hx, hy⟩ := y
    obtain ⟨d, h1, h2⟩ := r1.get' (hx xs (q1 H M st hM m1))
    obtain ⟨e, h3, h4⟩ := r2.get' (hy ys (q2 H M st hM m2))
    have zz := RsV.tup av hT' (FzL.cons (h2.ext' (st.old hT hM) nA) (.cons (h4.ext' (st.old hT hM) nA) .nil))
    exact ⟨zz.1, .tup [d, e], by rw [List.getElem?_zipWith, h1, h3], zz.2⟩
def iZ2 (K : PySem.W.Frag) (ta : TA) : TI := fun σ H R => ta σ H fun vs H1 => ∃ l1 a l2 b, vs = [.ref a, .ref b] ∧ (∃ xs, SqB K l1 H1 a xs) ∧ (∃ ys, SqB K l2 H1 b ys) ∧ R (Jz2 K l1 a l2 b) H1
theorem pi_z2 {e e2 : Expr} {ta : TA} {p pos tpos : Pos} {elts : List Expr} {kk : Nat} (hg : Gl X "zip") (hm : X.mg "zip" = none) (ha : PA X [e, e2] ta)
    (hs : starEach [e, e2] X.env = (false, eval e X.env) :: starEach [e2] X.env := by rfl) (hpl : (backTo pos (starEach [e2] X.env)).any (·.1) = false := by rfl) :
    PI X (.Tuple elts kk tpos) (.Call (.Name "zip" p) [e, e2] [] pos) (iZ2 X.K ta) := by
  refine ⟨fun pins s σ H R I h => Call_ (ld_blt I hg hm PyProof.Rows.boot_zip (PyProof.Rows.callWith_type1 (thn (ha.run pos pins s σ H _ I h) fun us s1 ⟨vs, H1, I1, r1, q1⟩ => ?_) hs hpl))⟩
  obtain ⟨l1, a, l2, b, rfl, ⟨xs, hx⟩, ⟨ys, hy⟩, q⟩ := q1
  cases r1 with
  | cons r rr =>
    cases rr with
    | cons r' rr =>
      cases rr
      cases r
      cases r'
      obtain ⟨its, rv, p1, la⟩ := hx.get I1
      obtain ⟨its2, rv2, p2, lb⟩ := hy.get I1
      refine zip_begins2 (beginsB its.toArray) (beginsB its2.toArray) p1 p2 fun h' hz hTI hTO h1 h2 hsz hk => wpAny_pyIter_zip hz ?_
      have I2 : Inv X pins σ H1 { s1 with heap := h' } := I1.kept (t' := s1.toks) hk
      refine ⟨s1.heap.objs.size + 4, [s1.heap.objs.size + 4, s1.heap.objs.size + 2, s1.heap.objs.size + 3, s1.heap.objs.size, s1.heap.objs.size + 1], _, _, H1, rfl, I2, turn_z2 (l1 := l1) (l2 := l2) (zip_sep2 (fun c hc => by rw [List.mem_singleton.mp hc]; exact la) (fun c hc => by rw [List.mem_singleton.mp hc]; exact lb)) (Nat.ne_of_lt la) (Nat.ne_of_lt (Nat.lt_succ_of_lt lb)),
        ⟨hz, hTI, ⟨_, _, hTO⟩, ItB.begin h1, ItB.begin h2⟩, fun c hcm => ?_, q⟩
      have hle : s1.heap.objs.size ≤ c := by
        simp only [List.mem_cons, List.not_mem_nil, or_false] at hcm
        rcases hcm with z | z | z | z | z <;> rw [z] <;> first | exact Nat.le_refl _ | exact Nat.le_add_right _ _
      exact I1.fpOk hle (I1.hok.fresh hle)
theorem i_zip2 {e1 e2 : Expr} {ms : MEs} {p pos tpos : Pos} {elts : List Expr} {kk : Nat} (hK : X.K = G.K) (hg : Gl X "zip") (hm : X.mg "zip" = none) (ha : EvL G X [e1, e2] ms)
    (hs : starEach [e1, e2] X.env = (false, eval e1 X.env) :: starEach [e2] X.env := by rfl) (hpl : (backTo pos (starEach [e2] X.env)).any (·.1) = false := by rfl) :
    EvI G X (.Tuple elts kk tpos) (.Call (.Name "zip" p) [e1, e2] [] pos) (mArgI fZip2 ms) := by
  intro W tk
  refine (pi_z2 hg hm (ha.run W tk) hs hpl).imp' fun σ H Q ⟨A, S, tp, R, h⟩ => ⟨A, S, tp, R, ?_⟩
  unfold mArgI at h
  have hl := ha.len S tp
  revert h hl
  cases ms S tp with
  | ok ds tp1 =>
    intro h hl vs H1 r
    obtain ⟨⟨d1, k1⟩, ⟨d2, k2⟩, rfl⟩ : ∃ p1 p2, ds = [p1, p2] := len_two (hl ds tp1 rfl)
    have hT : ∀ a, G.gm a → A a := fun a z => (R.tap a z).1
    have h : OutI G W A S σ H Q (match (seqD d1).bind fun p => (seqD d2).map fun q => List.zipWith (fun x y => D.tup [x, y]) p.2 q.2 with | some es => .ok es (k1 || (k2 || false)) tp1 | none => .bad) := h
    cases c1 : seqD d1 with
    | none => rw [c1] at h; exact h.elim
    | some p1 =>
      cases c2 : seqD d2 with
      | none => rw [c1, c2] at h; exact h.elim
      | some p2 =>
        rw [c1, c2] at h
        obtain ⟨v, ws, rfl, g1, g2⟩ := r.2.2.cons_inv
        obtain ⟨w, rfl, g2⟩ := g2.one
        obtain ⟨a, rfl, s1⟩ := g1.src hT c1
        obtain ⟨b, rfl, s2⟩ := g2.src hT c2
        rw [hK]
        exact ⟨p1.1, a, p2.1, b, rfl, s1.sq, s2.sq, h _ H1 r.1 r.2.1 fun M hM hm => wk_z2 hT s1 s2 hM hm⟩
  | ex c f tp1 => exact fun h _ => h
  | bad => exact fun h _ => h
end
end PV

/-! PVp: zip of three, enumerate. -/
namespace PV
open PySem L2
open PySem.Spec PyProof.Rows

def Jz3 (K : PySem.W.Frag) (l1 : Bool) (a : Addr) (l2 : Bool) (b : Addr) (l3 : Bool) (c : Addr) : It :=
  ⟨fun i H => ∃ (xs ys zs : List V), SqB K l1 H a xs ∧ SqB K l2 H b ys ∧ SqB K l3 H c zs ∧ i < min (min xs.length ys.length) zs.length,
    fun i H v H' => ∃ T x y z, v = .ref T ∧ H T = none ∧ H' = upd H T (.tup [x, y, z]) ∧ (∀ xs, SqB K l1 H a xs → xs[i]? = some x) ∧ (∀ ys, SqB K l2 H b ys → ys[i]? = some y) ∧ ∀ zs, SqB K l3 H c zs → zs[i]? = some z,
    fun i H => ∃ xs ys zs : List V, SqB K l1 H a xs ∧ SqB K l2 H b ys ∧ SqB K l3 H c zs ∧ i = min (min xs.length ys.length) zs.length⟩
theorem turn_z3 {P : Program} {w : World} {K : PySem.W.Frag} {elts : List Expr} {kk : Nat} {tpos : Pos} {l1 l2 l3 : Bool} {a b c z TI TO i1 i2 i3 : Addr} (S : ZipSep3 z TI TO i1 i2 i3 [i1, a] [i2, b] [i3, c]) (n1 : a ≠ i1) (n2 : b ≠ i2) (n3 : c ≠ i3) :
    Turn P w K (.Tuple elts kk tpos) (Jz3 K l1 a l2 b l3 c) [z, TI, TO, i1, i2, i3] z (fun i h => IsZip h z TI TO .none ∧ IsTupOf3 h TI (.ref i1) (.ref i2) (.ref i3) ∧ (∃ x y u, IsTupOf3 h TO x y u) ∧ ItB l1 h i1 a i ∧ ItB l2 h i2 b i ∧ ItB l3 h i3 c i) := by
  refine turn_gn (by simp) (fun i h st q hq => ?_) (fun i h h' st k => ?_) (fun A i s Q E st h => wpAny_pyIter_zip st.1 h) fun X hP hw hK hc pins s σ H I i st hg => ?_
  · obtain ⟨hz, hTI, ⟨x, y, u, hTO⟩, h1, h2, h3⟩ := st
    simp only [List.mem_cons, List.not_mem_nil, or_false] at hq
    rcases hq with q | q | q | q | q | q
    · rw [q]; exact ⟨_, hz, fun v q => nomatch q⟩
    · rw [q]; exact ⟨_, hTI, fun v q => nomatch q⟩
    · rw [q]; exact ⟨_, hTO, fun v q => nomatch q⟩
    · rw [q]; exact h1.obj
    · rw [q]; exact h2.obj
    · rw [q]; exact h3.obj
  · obtain ⟨hz, hTI, ⟨x, y, u, hTO⟩, h1, h2, h3⟩ := st
    exact ⟨k z (by simp) _ hz, k TI (by simp) _ hTI, ⟨x, y, u, k TO (by simp) _ hTO⟩, h1.keep fun o q => k i1 (by simp) o q, h2.keep fun o q => k i2 (by simp) o q, h3.keep fun o q => k i3 (by simp) o q⟩
  · subst hP hw hK
    obtain ⟨hz, hTI, hTO, h1, h2, h3⟩ := st
    obtain ⟨xs, ys, zs, hqx, hqy, hqz⟩ : ∃ (xs ys zs : List V), SqB X.K l1 H a xs ∧ SqB X.K l2 H b ys ∧ SqB X.K l3 H c zs := by
      rcases hg with ⟨xs, ys, zs, q1, q2, q3, _⟩ | ⟨xs, ys, zs, q1, q2, q3, _⟩ <;> exact ⟨xs, ys, zs, q1, q2, q3⟩
    obtain ⟨its, rv, p, _⟩ := hqx.get I
    obtain ⟨its2, rv2, p2, _⟩ := hqy.get I
    obtain ⟨its3, rv3, p3, _⟩ := hqz.get I
    have e1 : its.toArray.size = xs.length := by rw [List.size_toArray]; exact rv.length.symm
    have e2 : its2.toArray.size = ys.length := by rw [List.size_toArray]; exact rv2.length.symm
    have e3 : its3.toArray.size = zs.length := by rw [List.size_toArray]; exact rv3.length.symm
    have hd : X.A.in1.handled = none := I.ok.hd hc
    refine ⟨_, _, _, _, _, GoesN.zip3 S (drawsB (A := X.A.in1) (l := l1) hd i1 n1 its.toArray) (drawsB (A := X.A.in1) (l := l2) hd i2 n2 its2.toArray) (drawsB (A := X.A.in1) (l := l3) hd i3 n3 its3.toArray), fun q hcm => ?_, fun h st => ⟨st.1, st.2.1, st.2.2.1, st.2.2.2.1.1, st.2.2.2.2.1.1, st.2.2.2.2.2.1⟩, ⟨hz, hTI, hTO, ⟨h1, p⟩, ⟨h2, p2⟩, ⟨h3, p3⟩⟩, fun g => ?_, fun g => ?_, fun v h' y => ?_⟩
    · simp only [List.mem_cons, List.not_mem_nil, or_false] at hcm
      rcases hcm with q | q | q | q | q <;> rw [q] <;> simp
    · obtain ⟨xs', ys', zs', q1, q2, q3, q4⟩ := g
      rw [hqx.inj I q1, hqy.inj I q2, hqz.inj I q3] at *
      rw [e1, e2, e3]; exact q4
    · obtain ⟨xs', ys', zs', q1, q2, q3, q4⟩ := g
      rw [hqx.inj I q1, hqy.inj I q2, hqz.inj I q3] at *
      rw [e1, e2, e3]; exact q4
    · obtain ⟨T, x, y, u, ev, hT, hx, hy, hu, hTu⟩ := y
      have hx : its[i]? = some x := by simpa using hx
      have hy : its2[i]? = some y := by simpa using hy
      have hu : its3[i]? = some u := by simpa using hu
      have g1 : i < xs.length := by rw [rv.length]; exact (List.getElem?_eq_some_iff.mp hx).1
      have g2 : i < ys.length := by rw [rv2.length]; exact (List.getElem?_eq_some_iff.mp hy).1
      have g3 : i < zs.length := by rw [rv3.length]; exact (List.getElem?_eq_some_iff.mp hu).1
      obtain ⟨w1, hw1, ru1⟩ := rv.get (List.getElem?_eq_getElem g1)
      obtain ⟨w2, hw2, ru2⟩ := rv2.get (List.getElem?_eq_getElem g2)
      obtain ⟨w3, hw3, ru3⟩ := rv3.get (List.getElem?_eq_getElem g3)
      rw [hx] at hw1; cases hw1
      rw [hy] at hw2; cases hw2
      rw [hu] at hw3; cases hw3
      exact ⟨T, _, [xs[i], ys[i], zs[i]], ev, hT, hTu, .cons ru1 (.cons ru2 (.cons ru3 .nil)), by simp, T, _, _, _, rfl, I.hok.fresh hT, rfl, fun l hl => by rw [hl.inj I hqx]; exact List.getElem?_eq_getElem g1, fun l hl => by rw [hl.inj I hqy]; exact List.getElem?_eq_getElem g2, fun l hl => by rw [hl.inj I hqz]; exact List.getElem?_eq_getElem g3⟩
def Jen (K : PySem.W.Frag) (l1 : Bool) (a : Addr) : It :=
  ⟨fun i H => ∃ (xs : List V), SqB K l1 H a xs ∧ i < xs.length,
    fun i H v H' => ∃ T x, v = .ref T ∧ H T = none ∧ H' = upd H T (.tup [.int (i : Nat), x]) ∧ ∀ xs, SqB K l1 H a xs → xs[i]? = some x,
    fun i H => ∃ xs : List V, SqB K l1 H a xs ∧ i = xs.length⟩
theorem turn_en {P : Program} {w : World} {K : PySem.W.Frag} {elts : List Expr} {kk : Nat} {tpos : Pos} {l1 : Bool} {a e it : Addr} (hei : e ≠ it) (hea : e ≠ a) (n1 : a ≠ it) :
    Turn P w K (.Tuple elts kk tpos) (Jen K l1 a) [e, it] e (fun i h => (∃ old, IsEnum h e it (0 + (i : Int)) old) ∧ ItB l1 h it a i) := by
  refine turn_gn (by simp) (fun i h st q hq => ?_) (fun i h h' st k => ?_) (fun A i s Q E st h => let ⟨⟨_, he⟩, _⟩ := st; wpAny_pyIter_enum he h) fun X hP hw hK hc pins s σ H I i st hg => ?_
  · obtain ⟨⟨old, he⟩, h1⟩ := st
    simp only [List.mem_cons, List.not_mem_nil, or_false] at hq
    rcases hq with q | q
    · rw [q]; exact ⟨_, he, fun v q => nomatch q⟩
    · rw [q]; exact h1.obj
  · obtain ⟨⟨old, he⟩, h1⟩ := st
    exact ⟨⟨old, k e (by simp) _ he⟩, h1.keep fun o q => k it (by simp) o q⟩
  · subst hP hw hK
    obtain ⟨he, h1⟩ := st
    obtain ⟨xs, hqx⟩ : ∃ (xs : List V), SqB X.K l1 H a xs := by
      rcases hg with ⟨xs, q1, _⟩ | ⟨xs, q1, _⟩ <;> exact ⟨xs, q1⟩
    obtain ⟨its, rv, p, _⟩ := hqx.get I
    have e1 : its.toArray.size = xs.length := by rw [List.size_toArray]; exact rv.length.symm
    have hd : X.A.in1.handled = none := I.ok.hd hc
    refine ⟨_, _, _, _, _, GoesN.enumFrom 0 (drawsB (A := X.A.in1) (l := l1) hd it n1 its.toArray) e hei (by simp [hei, hea]) (by simp), fun q hcm => ?_, fun h st => ⟨st.1, st.2.1⟩, ⟨he, h1, p⟩, fun g => ?_, fun g => ?_, fun v h' y => ?_⟩
    · simp only [List.mem_cons, List.not_mem_nil, or_false] at hcm
      rcases hcm with q | q <;> rw [q] <;> simp
    · obtain ⟨xs', q1, q4⟩ := g
      rw [hqx.inj I q1] at *
      rw [e1]; exact q4
    · obtain ⟨xs', q1, q4⟩ := g
      rw [hqx.inj I q1] at *
      rw [e1]; exact q4
    · obtain ⟨T, t, x, ev, hT, hx, hTu⟩ := y
      have hx : its[i]? = some x := by simpa using hx
      have g1 : i < xs.length := by rw [rv.length]; exact (List.getElem?_eq_some_iff.mp hx).1
      obtain ⟨w1, hw1, ru1⟩ := rv.get (List.getElem?_eq_getElem g1)
      rw [hx] at hw1; cases hw1
      exact ⟨T, _, [.int (i : Nat), xs[i]], ev, hT, hTu, .cons ⟨t, by rw [Int.zero_add]⟩ (.cons ru1 .nil), by simp, T, _, rfl, I.hok.fresh hT, rfl, fun l hl => by rw [hl.inj I hqx]; exact List.getElem?_eq_getElem g1⟩

section
variable {G : Gx} {X : Cx} {A A' M : Addr → Prop} {S : Slots} {tp tp' : Tp} {σ : L2.St} {H H' H1 : Hp} {W : WX} {tg : Expr} {a : Addr} {ds : List D} {own : Bool}
theorem wk_z3 {l1 l2 l3 : Bool} {a b c : Addr} {ds1 ds2 ds3 : List D} {o1 o2 o3 : Bool} (hT : ∀ a, G.gm a → A a) (s1 : SrcA G A H1 l1 a ds1 o1) (s2 : SrcA G A H1 l2 b ds2 o2) (s3 : SrcA G A H1 l3 c ds3 o3) (hM : ∀ b, M b → A b) (hm : (o1 || (o2 || (o3 || false))) = true → ∀ b, ¬ M b) :
    WkD G A M H1 (Jz3 G.K l1 a l2 b l3 c) (zip3D ds1 ds2 ds3) := by
  obtain ⟨xs, r1, q1⟩ := s1.ex
  obtain ⟨ys, r2, q2⟩ := s2.ex
  obtain ⟨zs, r3, q3⟩ := s3.ex
  have m1 : o1 = true → ∀ b, ¬ M b := fun z => hm (by rw [z]; rfl)
  have m2 : o2 = true → ∀ b, ¬ M b := fun z => hm (by rw [z]; cases o1 <;> rfl)
  have m3 : o3 = true → ∀ b, ¬ M b := fun z => hm (by rw [z]; cases o1 <;> cases o2 <;> rfl)
  have e1 := r1.length
  have e2 := r2.length
  have e3 := r3.length
  refine ⟨fun i H st hi => ?_, fun H st => ?_, fun i H x H' A' st nA av hi y => ?_⟩
  · rw [zip3D_length] at hi
    exact ⟨xs, ys, zs, q1 H M st hM m1, q2 H M st hM m2, q3 H M st hM m3, by omega⟩
  · rw [zip3D_length]
    exact ⟨xs, ys, zs, q1 H M st hM m1, q2 H M st hM m2, q3 H M st hM m3, by omega⟩
  · obtain ⟨T, x, y, z, rfl, hT', rfl, hx, hy, hz⟩ := y
    obtain ⟨d, h1, h2⟩ := r1.get' (hx xs (q1 H M st hM m1))
    obtain ⟨e, h3, h4⟩ := r2.get' (hy ys (q2 H M st hM m2))
    obtain ⟨f, h5, h6⟩ := r3.get' (hz zs (q3 H M st hM m3))
    have zz := RsV.tup av hT' (FzL.cons (h2.ext' (st.old hT hM) nA) (.cons (h4.ext' (st.old hT hM) nA) (.cons (h6.ext' (st.old hT hM) nA) .nil)))
    exact ⟨zz.1, .tup [d, e, f], zip3D_get h1 h3 h5, zz.2⟩
theorem wk_en {l1 : Bool} {a : Addr} {ds1 : List D} {o1 : Bool} (hT : ∀ a, G.gm a → A a) (s1 : SrcA G A H1 l1 a ds1 o1) (hM : ∀ b, M b → A b) (hm : (o1 || false) = true → ∀ b, ¬ M b) :
    WkD G A M H1 (Jen G.K l1 a) (enumD 0 ds1) := by
  obtain ⟨xs, r1, q1⟩ := s1.ex
  have m1 : o1 = true → ∀ b, ¬ M b := fun z => hm (by rw [z]; rfl)
  have e1 := r1.length
  refine ⟨fun i H st hi => ?_, fun H st => ?_, fun i H x H' A' st nA av hi y => ?_⟩
  · rw [enumD_length] at hi
    exact ⟨xs, q1 H M st hM m1, by omega⟩
  · rw [enumD_length]
    exact ⟨xs, q1 H M st hM m1, by omega⟩
  · obtain ⟨T, x, rfl, hT', rfl, hx⟩ := y
    obtain ⟨d, h1, h2⟩ := r1.get' (hx xs (q1 H M st hM m1))
    have zz := RsV.tup av hT' (FzL.cons (.int (i : Nat)) (.cons (h2.ext' (st.old hT hM) nA) .nil))
    exact ⟨zz.1, .tup [.int (i : Nat), d], by rw [enumD_get h1, Int.zero_add], zz.2⟩
def iZ3 (K : PySem.W.Frag) (ta : TA) : TI := fun σ H R => ta σ H fun vs H1 => ∃ l1 a l2 b l3 c, vs = [.ref a, .ref b, .ref c] ∧ (∃ xs, SqB K l1 H1 a xs) ∧ (∃ ys, SqB K l2 H1 b ys) ∧ (∃ zs, SqB K l3 H1 c zs) ∧ R (Jz3 K l1 a l2 b l3 c) H1
theorem pi_z3 {e e2 e3 : Expr} {ta : TA} {p pos tpos : Pos} {elts : List Expr} {kk : Nat} (hg : Gl X "zip") (hm : X.mg "zip" = none) (ha : PA X [e, e2, e3] ta)
    (hs : starEach [e, e2, e3] X.env = (false, eval e X.env) :: starEach [e2, e3] X.env := by rfl) (hpl : (backTo pos (starEach [e2, e3] X.env)).any (·.1) = false := by rfl) :
    PI X (.Tuple elts kk tpos) (.Call (.Name "zip" p) [e, e2, e3] [] pos) (iZ3 X.K ta) := by
  refine ⟨fun pins s σ H R I h => Call_ (ld_blt I hg hm PyProof.Rows.boot_zip (PyProof.Rows.callWith_type1 (thn (ha.run pos pins s σ H _ I h) fun us s1 ⟨vs, H1, I1, r1, q1⟩ => ?_) hs hpl))⟩
  obtain ⟨l1, a, l2, b, l3, c, rfl, ⟨xs, hx⟩, ⟨ys, hy⟩, ⟨zs, hz⟩, q⟩ := q1
  cases r1 with
  | cons r rr =>
    cases rr with
    | cons r' rr =>
      cases rr with
      | cons r'' rr =>
        cases rr
        cases r
        cases r'
        cases r''
        obtain ⟨its, rv, p1, la⟩ := hx.get I1
        obtain ⟨its2, rv2, p2, lb⟩ := hy.get I1
        obtain ⟨its3, rv3, p3, lc⟩ := hz.get I1
        refine zip_begins3 (beginsB its.toArray) (beginsB its2.toArray) (beginsB its3.toArray) p1 p2 p3 fun h' hz hTI hTO h1 h2 h3 hsz hk => wpAny_pyIter_zip hz ?_
        have I2 : Inv X pins σ H1 { s1 with heap := h' } := I1.kept (t' := s1.toks) hk
        refine ⟨s1.heap.objs.size + 5, [s1.heap.objs.size + 5, s1.heap.objs.size + 3, s1.heap.objs.size + 4, s1.heap.objs.size, s1.heap.objs.size + 1, s1.heap.objs.size + 2], _, _, H1, rfl, I2,
          turn_z3 (l1 := l1) (l2 := l2) (l3 := l3) (zip_sep3 (fun c hc => by rw [List.mem_singleton.mp hc]; exact la) (fun c hc => by rw [List.mem_singleton.mp hc]; exact lb) (fun c hc => by rw [List.mem_singleton.mp hc]; exact lc)) (Nat.ne_of_lt la) (Nat.ne_of_lt (Nat.lt_succ_of_lt lb)) (Nat.ne_of_lt (Nat.lt_succ_of_lt (Nat.lt_succ_of_lt lc))),
          ⟨hz, hTI, ⟨_, _, _, hTO⟩, ItB.begin h1, ItB.begin h2, ItB.begin h3⟩, fun c hcm => ?_, q⟩
        have hle : s1.heap.objs.size ≤ c := by
          simp only [List.mem_cons, List.not_mem_nil, or_false] at hcm
          rcases hcm with z | z | z | z | z | z <;> rw [z] <;> first | exact Nat.le_refl _ | exact Nat.le_add_right _ _
        exact I1.fpOk hle (I1.hok.fresh hle)
theorem i_zip3 {e1 e2 e3 : Expr} {ms : MEs} {p pos tpos : Pos} {elts : List Expr} {kk : Nat} (hK : X.K = G.K) (hg : Gl X "zip") (hm : X.mg "zip" = none) (ha : EvL G X [e1, e2, e3] ms)
    (hs : starEach [e1, e2, e3] X.env = (false, eval e1 X.env) :: starEach [e2, e3] X.env := by rfl) (hpl : (backTo pos (starEach [e2, e3] X.env)).any (·.1) = false := by rfl) :
    EvI G X (.Tuple elts kk tpos) (.Call (.Name "zip" p) [e1, e2, e3] [] pos) (mArgI fZip3 ms) := by
  intro W tk
  refine (pi_z3 hg hm (ha.run W tk) hs hpl).imp' fun σ H Q ⟨A, S, tp, R, h⟩ => ⟨A, S, tp, R, ?_⟩
  unfold mArgI at h
  have hl := ha.len S tp
  revert h hl
  cases ms S tp with
  | ok ds tp1 =>
    intro h hl vs H1 r
    obtain ⟨⟨d1, k1⟩, ⟨d2, k2⟩, ⟨d3, k3⟩, rfl⟩ : ∃ p1 p2 p3, ds = [p1, p2, p3] := len_three (hl ds tp1 rfl)
    have hT : ∀ a, G.gm a → A a := fun a z => (R.tap a z).1
    have h : OutI G W A S σ H Q (match (seqD d1).bind fun p => (seqD d2).bind fun q => (seqD d3).map fun r => zip3D p.2 q.2 r.2 with | some es => .ok es (k1 || (k2 || (k3 || false))) tp1 | none => .bad) := h
    cases c1 : seqD d1 with
    | none => rw [c1] at h; exact h.elim
    | some p1 =>
      cases c2 : seqD d2 with
      | none => rw [c1, c2] at h; exact h.elim
      | some p2 =>
        cases c3 : seqD d3 with
        | none => rw [c1, c2, c3] at h; exact h.elim
        | some p3 =>
          rw [c1, c2, c3] at h
          obtain ⟨v, ws, rfl, g1, g2⟩ := r.2.2.cons_inv
          obtain ⟨w, ws, rfl, g4, g3⟩ := g2.cons_inv
          obtain ⟨u, rfl, g3⟩ := g3.one
          obtain ⟨a, rfl, s1⟩ := g1.src hT c1
          obtain ⟨b, rfl, s2⟩ := g4.src hT c2
          obtain ⟨c, rfl, s3⟩ := g3.src hT c3
          rw [hK]
          exact ⟨p1.1, a, p2.1, b, p3.1, c, rfl, s1.sq, s2.sq, s3.sq, h _ H1 r.1 r.2.1 fun M hM hm => wk_z3 hT s1 s2 s3 hM hm⟩
  | ex c f tp1 => exact fun h _ => h
  | bad => exact fun h _ => h
def iEn (K : PySem.W.Frag) (ta : TA) : TI := fun σ H R => ta σ H fun vs H1 => ∃ l1 a, vs = [.ref a] ∧ (∃ xs, SqB K l1 H1 a xs) ∧ R (Jen K l1 a) H1
theorem pi_en {e : Expr} {ta : TA} {p pos tpos : Pos} {elts : List Expr} {kk : Nat} (hg : Gl X "enumerate") (hm : X.mg "enumerate" = none) (ha : PA X [e] ta) (hs : starEach [e] X.env = [(false, eval e X.env)] := by rfl) :
    PI X (.Tuple elts kk tpos) (.Call (.Name "enumerate" p) [e] [] pos) (iEn X.K ta) := by
  refine ⟨fun pins s σ H R I h => Call_ (ld_blt I hg hm boot_enumerate (PyProof.Rows.callWith_type1 (thn (ha.run pos pins s σ H _ I h) fun us s1 ⟨vs, H1, I1, r1, q1⟩ => ?_) hs rfl))⟩
  obtain ⟨l1, a, rfl, ⟨xs, hx⟩, q⟩ := q1
  cases r1 with
  | cons r rr =>
    cases rr
    cases r
    obtain ⟨its, rv, p1, la⟩ := hx.get I1
    refine en_begins (beginsB its.toArray) p1 fun h' he h1 hsz hk => wpAny_pyIter_enum he ?_
    have I2 : Inv X pins σ H1 { s1 with heap := h' } := I1.kept (t' := s1.toks) hk
    refine ⟨s1.heap.objs.size + 1, [s1.heap.objs.size + 1, s1.heap.objs.size], _, _, H1, rfl, I2, turn_en (l1 := l1) (Nat.succ_ne_self _) (Nat.ne_of_gt (Nat.lt_succ_of_lt la)) (Nat.ne_of_lt la), ⟨⟨.none, he⟩, ItB.begin h1⟩, fun c hcm => ?_, q⟩
    have hle : s1.heap.objs.size ≤ c := by
      simp only [List.mem_cons, List.not_mem_nil, or_false] at hcm
      rcases hcm with z | z <;> rw [z] <;> first | exact Nat.le_refl _ | exact Nat.le_add_right _ _
    exact I1.fpOk hle (I1.hok.fresh hle)
theorem i_enum {e1 : Expr} {ms : MEs} {p pos tpos : Pos} {elts : List Expr} {kk : Nat} (hK : X.K = G.K) (hg : Gl X "enumerate") (hm : X.mg "enumerate" = none) (ha : EvL G X [e1] ms) (hs : starEach [e1] X.env = [(false, eval e1 X.env)] := by rfl) :
    EvI G X (.Tuple elts kk tpos) (.Call (.Name "enumerate" p) [e1] [] pos) (mArgI fEnum ms) := by
  intro W tk
  refine (pi_en hg hm (ha.run W tk) hs).imp' fun σ H Q ⟨A, S, tp, R, h⟩ => ⟨A, S, tp, R, ?_⟩
  unfold mArgI at h
  have hl := ha.len S tp
  revert h hl
  cases ms S tp with
  | ok ds tp1 =>
    intro h hl vs H1 r
    obtain ⟨⟨d1, k1⟩, rfl⟩ : ∃ p1, ds = [p1] := List.length_eq_one_iff.mp (hl ds tp1 rfl)
    have hT : ∀ a, G.gm a → A a := fun a z => (R.tap a z).1
    have h : OutI G W A S σ H Q (match (seqD d1).map fun p => enumD 0 p.2 with | some es => .ok es (k1 || false) tp1 | none => .bad) := h
    cases c1 : seqD d1 with
    | none => rw [c1] at h; exact h.elim
    | some p1 =>
      rw [c1] at h
      obtain ⟨v, rfl, g1⟩ := r.2.2.one
      obtain ⟨a, rfl, s1⟩ := g1.src hT c1
      rw [hK]
      exact ⟨p1.1, a, rfl, s1.sq, h _ H1 r.1 r.2.1 fun M hM hm => wk_en hT s1 hM hm⟩
  | ex c f tp1 => exact fun h _ => h
  | bad => exact fun h _ => h
end
end PV

/-! PVq: list comprehensions. -/
namespace PV
open PySem L2
open PySem.Spec PyProof.Rows

/-! ### targets of a block, by the places that they may set -/
def tQ (G : Gx) (vs : List Nat) (m : D → Slots → Option Slots) : TG := fun v σ H Q => ∃ A S tp d S', RelS G A S tp σ H ∧ Fz G H A d v ∧ m d S = some S' ∧ ∀ σ', RelS G A S' tp σ' H → σ'.length = σ.length → (∀ j, j ∉ vs → σ'[j]? = σ[j]?) → Q σ' H
def tQs (G : Gx) (vs : List Nat) (m : List D → Slots → Option Slots) : TGs := fun xs σ H Q => ∃ A S tp ds S', RelS G A S tp σ H ∧ FzL G H A ds xs ∧ m ds S = some S' ∧ ∀ σ', RelS G A S' tp σ' H → σ'.length = σ.length → (∀ j, j ∉ vs → σ'[j]? = σ[j]?) → Q σ' H
def EvQ (G : Gx) (X : Cx) (vs : List Nat) (t : Expr) (m : D → Slots → Option Slots) : Prop := PG X t (tQ G vs m)
def EvQs (G : Gx) (X : Cx) (vs : List Nat) (ts : List Expr) (m : List D → Slots → Option Slots) : Prop := PGs X ts (tQs G vs m)
def EvTs (G : Gx) (X : Cx) (ifs : List Expr) (m : ME) : Prop := PTs X ifs (tT G (fun _ _ _ _ => False) m)
section
variable {G : Gx} {X : Cx} {A A' M : Addr → Prop} {S S' : Slots} {tp tp' : Tp} {σ σ' : L2.St} {H H' H1 : Hp} {W : WX} {d : D} {v : V} {vs : List Nat}
theorem q_nm (i : Nat) {x : Str} {pos : Pos} (hN : X.N.Nodup) (hi : X.N[i]? = some x) (hx : Loc X.env.scope x) (hv : i ∈ vs) (hf : X.fn x = true ∨ X.env.scope.names.lookup x = some .local := by first | exact .inl rfl | exact .inr rfl | assumption) : EvQ G X vs (.Name x pos) (pNm i) := by
  refine (pg_name (i := i) hN hi hx hf).imp fun v σ H Q ⟨A, S, tp, d, S', R, h, e, q⟩ => ?_
  unfold pNm at e
  split at e
  · cases e
    exact q _ (R.setFz i h) (by simp) fun j hj => List.getElem?_set_ne fun (z : i = j) => hj (z ▸ hv)
  · cases e
theorem q_nil : EvQs G X vs [] pNil := ⟨fun pins s σ H xs us Q I r ⟨A, S, tp, ds, S', R, h, e, q⟩ => by
  unfold pNil at e
  split at e
  · cases e
    cases h
    exact pgs_nil.run pins s σ H [] us Q I r ⟨rfl, q σ R rfl fun _ _ => rfl⟩
  · cases e⟩
theorem q_cons {t : Expr} {ts : List Expr} {p : D → Slots → Option Slots} {ps : List D → Slots → Option Slots} (h1 : EvQ G X vs t p) (h2 : EvQs G X vs ts ps)
    (hs : (assignEach (t :: ts) X.env).map (·.2) = assign t X.env :: (assignEach ts X.env).map (·.2) := by rfl) : EvQs G X vs (t :: ts) (pCons p ps) := ⟨fun pins s σ H xs us Q I r ⟨A, S, tp, ds, S', R, h, e, q⟩ => by
  unfold pCons at e
  cases h with
  | nil => cases e
  | @cons d ds v vs' h t =>
    have e : (p d S).bind (ps ds) = some S' := e
    cases e1 : p d S with
    | none => rw [e1] at e; cases e
    | some S1 =>
      rw [e1] at e
      exact (pgs_cons h1 h2 hs).run pins s σ H _ us Q I r ⟨v, vs', rfl, A, S, tp, d, S1, R, h, e1, fun σ1 R1 l1 w1 => ⟨A, S1, tp, ds, S', R1, t, e, fun σ2 R2 l2 w2 => q σ2 R2 (l2.trans l1) fun j hj => (w2 j hj).trans (w1 j hj)⟩⟩⟩
theorem q_tup {ts : List Expr} {k : Nat} {pos : Pos} {ps : List D → Slots → Option Slots} {n : Nat} (hK : X.K = G.K) (hc : X.calm = true) (h : EvQs G X vs ts ps) (hl : ∀ ds S S', ps ds S = some S' → ds.length = n)
    (hn : (assignEach ts X.env).length = n := by rfl) (hst : (assignEach ts X.env).findIdx? (·.1) = none := by rfl) : EvQ G X vs (.Tuple ts k pos) (pTup ps) := by
  refine (pg_tup hc h hn hst).imp fun v σ H Q ⟨A, S, tp, d, S', R, hz, e, q⟩ => ?_
  unfold pTup at e
  split at e
  · rename_i ds
    cases hz with
    | @tup a xs _ ha r => exact ⟨a, xs, rfl, by rw [hK]; exact ha.sq, by rw [← r.length]; exact hl _ _ _ e, A, S, tp, ds, S', R, r, e, q⟩
  · cases e
theorem ts_nil : EvTs G X [] (mC (.bl true)) := ⟨fun pins s σ H Q I ⟨A, S, tp, R, h⟩ => pts_nil.run pins s σ H Q I (h H Kp.refl R)⟩
theorem ts_one {c : Expr} {m : ME} (h : EvT G X c m) (hx : Takes X fun _ _ _ _ => False) : EvTs G X [c] m := pts_one (h _ hx)
theorem takesBlk {s : Shared} {H : Hp} {scope : Scope} {cenv : Env} {fp : List Addr} : Takes (X.blk s H scope cenv fp) fun _ _ _ _ => False := fun u s' ⟨_, _, _, _, _, _, _, _, _, _, _, _, _, _, _, _, w⟩ => w
theorem Cw.blk {k : Nat} {s : Shared} {scope : Scope} {cenv : Env} {fp : List Addr} (C : Cw G k X) : Cw G k (X.blk s H scope cenv fp) := ⟨C.eP, C.ew, C.eK, C.em, C.eb, C.nd, C.room, C.gd⟩
theorem wipe_eq (l : σ'.length = σ.length) (h : ∀ j, j ∉ vs → σ'[j]? = σ[j]?) : wipe σ' vs = wipe σ vs := by
  refine List.ext_getElem? fun j => ?_
  by_cases hj : j ∈ vs
  · have key : ∀ τ : L2.St, τ.length = σ.length → (wipe τ vs)[j]? = if j < σ.length then some none else none := fun τ hl => by
      by_cases hlt : j < σ.length
      · rw [if_pos hlt]
        have e1 : j < (wipe τ vs).length := by rw [wipe_length, hl]; exact hlt
        rw [List.getElem?_eq_getElem e1]
        cases e2 : (wipe τ vs)[j] with
        | none => rfl
        | some x => exact absurd hj (wipe_some (by rw [List.getElem?_eq_getElem e1, e2])).2
      · rw [if_neg hlt, List.getElem?_eq_none (by rw [wipe_length, hl]; omega)]
    rw [key σ' l, key σ rfl]
  · rw [wipe_out hj, wipe_out hj, h j hj]
def wipeS (S : Slots) : List Nat → Slots
  | [] => S
  | v :: vs => (wipeS S vs).set v none
theorem RelS.wipe1 (R : RelS G A S tp σ H) (i : Nat) : RelS G A (S.set i none) tp (σ.set i none) H := by
  have key : ∀ {j : Nat} {x : D × Fl}, (S.set i none)[j]? = some (some x) → i ≠ j ∧ S[j]? = some (some x) := fun {j x} h => by
    by_cases hj : i = j
    · subst hj
      rw [List.getElem?_set, if_pos rfl] at h
      split at h <;> cases h
    · rw [List.getElem?_set_ne hj] at h
      exact ⟨hj, h⟩
  refine ⟨by simp [R.len], fun j d h => ?_, fun j d fl n h => ?_, fun j j' a d e fl n h h' r r' => ?_, R.avd, R.tap⟩
  · obtain ⟨hj, h⟩ := key h
    rw [List.getElem?_set_ne hj]
    exact R.frz j d h
  · obtain ⟨hj, h⟩ := key h
    rw [List.getElem?_set_ne hj]
    exact R.own j d fl n h
  · obtain ⟨hj, h⟩ := key h
    obtain ⟨hj', h'⟩ := key h'
    rw [List.getElem?_set_ne hj] at r
    rw [List.getElem?_set_ne hj'] at r'
    exact R.dis j j' a d e fl n h h' r r'
theorem RelS.wipe (R : RelS G A S tp σ H) : ∀ vs : List Nat, RelS G A (wipeS S vs) tp (wipe σ vs) H
  | [] => R
  | v :: vs => (R.wipe vs).wipe1 v

/-! ### one clause -/
def lcD (mp : D → Slots → Option Slots) (mt me : ME) (S0 : Slots) : List D → Tp → Option (List D × Tp)
  | [], tp => some ([], tp)
  | d :: ds, tp => match mp d S0 with
    | none => none
    | some S1 => match mt S1 tp with
      | .ok (.bl true) _ tp1 => match me S1 tp1 with
        | .ok _ .pk _ => none
        | .ok e _ tp2 => (lcD mp mt me S0 ds tp2).map fun r => (e :: r.1, r.2)
        | _ => none
      | .ok (.bl false) _ tp1 => lcD mp mt me S0 ds tp1
      | _ => none
def mLc (mi : MI) (mp : D → Slots → Option Slots) (mt me : ME) (vs : List Nat) : ME := fun S tp => match mi S tp with
  | .ok ds _ tp1 => if ds.length ≤ 16777216 then match lcD mp mt me (wipeS S vs) ds tp1 with
    | some r => .ok (.lst r.1) .fr r.2
    | none => .bad
    else .bad
  | .ex c f tp1 => .ex c f tp1
  | .bad => .bad
/-- where the block stands, the new list at D -/
structure InLc (G : Gx) (A : Addr → Prop) (S : Slots) (vs : List Nat) (σ : L2.St) (H1 : Hp) (p : Addr) (es : List D) (tp : Tp) (H : Hp) : Prop where
  kp : Kp G H1 H
  rel : RelS G (adA A p) (wipeS S vs) tp (wipe σ vs) H
  acc : ∃ ys, H p = some (.lst ys) ∧ FzL G H (adA A p) es ys
theorem InLc.start (R : RelS G A S tp σ H1) {p : Addr} (hp : H1 p = none) (vs : List Nat) : InLc G A S vs σ H1 p [] tp (upd H1 p (.lst [])) :=
  ⟨Kp.alloc hp, (R.wipe vs).add (fun b u q => by rw [upd_ne (ne_of_none q hp)]; exact q) hp ⟨_, upd_same, inferInstance⟩, [], upd_same, .nil⟩
theorem InLc.push {p : Addr} {es : List D} {ys : List V} {e : D} {y : V} (R0 : RelS G A S tp σ H1) (hp : H1 p = none) (I : InLc G A S vs σ H1 p es tp' H) (ha : H p = some (.lst ys)) (hz : Fz G H (adA A p) e y) : InLc G A S vs σ H1 p (es ++ [e]) tp' (upd H p (.lst (ys ++ [y]))) := by
  obtain ⟨ys', h1, h2⟩ := I.acc
  rw [ha] at h1; cases h1
  have ke : ∀ b o, H b = some o → ¬ adA A p b → upd H p (.lst (ys ++ [y])) b = some o := fun b o q n => by
    rw [upd_ne fun z => n (.inr z)]; exact q
  have nn : ∀ a, adA A p a → adA A p a ∨ H a = none := fun a q => .inl q
  have nop : ∀ a, G.gm a → a ≠ p := fun a e z => by
    obtain ⟨_, xs, q, _⟩ := R0.tap a e
    rw [z, hp] at q; cases q
  have W := R0.wipe vs
  refine ⟨fun b o q n => ?_, ⟨I.rel.len, fun i d q => ?_, fun i d fl n q => ?_, I.rel.dis, fun a q => ?_, fun a q => ?_⟩, _, upd_same, (h2.append (.cons hz .nil)).ext' ke nn⟩
  · rw [upd_ne (ne_of_none q hp)]; exact I.kp b o q n
  · obtain ⟨w, q1, q2⟩ := I.rel.frz i d q
    exact ⟨w, q1, q2.ext' ke nn⟩
  · obtain ⟨a, q1, q2, q3, q4⟩ := I.rel.own i d fl n q
    obtain ⟨b, z1, z2, _, z4⟩ := W.own i d fl n q
    rw [q1] at z1; cases z1
    obtain ⟨o, z4⟩ := z4.obj
    exact ⟨a, q1, q2, q3, q4.ext' (upd_ne (ne_of_none z4 hp)) ke nn⟩
  · by_cases z : a = p
    · rw [z]; exact ⟨_, upd_same, inferInstance⟩
    · rw [upd_ne z]; exact I.rel.avd a q
  · obtain ⟨q1, xs, q2, q3⟩ := I.rel.tap a q
    exact ⟨q1, xs, by rw [upd_ne (nop a q)]; exact q2, q3.ext' ke nn⟩
theorem InLc.fin {p : Addr} {es : List D} (R0 : RelS G A S tp σ H1) (hp : H1 p = none) (I : InLc G A S vs σ H1 p es tp' H) : Res G A S tp' σ H1 H (.lst es) .fr (.ref p) := by
  obtain ⟨ys, h1, h2⟩ := I.acc
  exact ⟨I.kp, p, rfl, hp, R0.afterNew I.kp hp ⟨_, h1, inferInstance⟩ I.rel.tap, ys, h1, h2⟩
theorem InLc.on {p : Addr} {es : List D} {tp2 : Tp} {S1 : Slots} {σ1 : L2.St} (R0 : RelS G A S tp σ H1) (hp : H1 p = none) (I : InLc G A S vs σ H1 p es tp' H) (k : Kp G H H') (R : RelS G (adA A p) S1 tp2 σ1 H') : InLc G A S vs σ H1 p es tp2 H' := by
  obtain ⟨ys, h1, h2⟩ := I.acc
  have nop : ¬ G.gm p := fun e => by
    obtain ⟨_, xs, q, _⟩ := R0.tap p e
    rw [hp] at q; cases q
  exact ⟨I.kp.trans k, I.rel.kp k fun a e => (R.tap a e).2, ys, k _ _ h1 nop, h2.kp I.rel k⟩
/-- the loop of the block -/
theorem lc_loop {mp : D → Slots → Option Slots} {mt me : ME} {p : Addr} {J : It} {ds : List D} {kk : Bool} {r : List D × Tp} {Q : VK} (R0 : RelS G A S tp σ H1) (hp : H1 p = none) (wk : WkD G A (fun _ => False) H1 J ds) (hz : ds.length ≤ 16777216)
    (hr : lcD mp mt me (wipeS S vs) ds tp = some r) (hq : ∀ H, InLc G A S vs σ H1 p r.1 r.2 H → Q (.ref p) H) :
    ∃ W : Nat → Nat → Hp → Prop, (∃ m, W 0 m (upd H1 p (.lst []))) ∧ ∀ i m H, W i m H →
      (J.stop i H ∧ Q (.ref p) H) ∨ (J.go i H ∧ ∃ Nx : Hp → Prop, (∀ H', Nx H' → ∃ m', m' < m ∧ W (i + 1) m' H') ∧ ∀ x H', J.yld i H x H' → tQ G vs mp x (wipe σ vs) H' fun σ2 H2 => wipe σ2 vs = wipe σ vs ∧ tT G (fun _ _ _ _ => False) mt σ2 H2 fun b H3 =>
        if b = true then tE G (fun _ _ _ _ => False) me σ2 H3 fun y H4 => ∃ acc, H4 p = some (.lst acc) ∧ acc.length < sizeLine ∧ Nx (upd H4 p (.lst (acc ++ [y]))) else Nx H3) := by
  let Pv : Nat → Hp → Prop := fun i H => i ≤ ds.length ∧ ∃ es tp' r', es.length ≤ i ∧ InLc G A S vs σ H1 p es tp' H ∧ lcD mp mt me (wipeS S vs) (ds.drop i) tp' = some r' ∧ (es ++ r'.1, r'.2) = r
  refine ⟨fun i m H => m = ds.length - i ∧ Pv i H, ⟨_, rfl, Nat.zero_le _, [], tp, r, Nat.le_refl _, InLc.start R0 hp vs, hr, rfl⟩, ?_⟩
  rintro i m H ⟨rfl, hi, es, tp', r', he, I, hl, hrr⟩
  have st : Stands G (fun _ => False) H1 H := fun b o q _ n => I.kp b o q n
  by_cases hlt : i < ds.length
  · refine .inr ⟨wk.go i H st hlt, Pv (i + 1), fun H' q => ⟨_, by omega, rfl, q⟩, fun x H' y => ?_⟩
    obtain ⟨k1, d, hd, hx⟩ := wk.yld i H x H' (adA A p) st (fun a q => q.elim .inl fun z => .inr (z ▸ hp)) I.rel.avd hlt y
    have hdr : ds.drop i = d :: ds.drop (i + 1) := by
      rw [List.drop_eq_getElem_cons hlt]
      congr 1
      have := List.getElem?_eq_getElem hlt
      rw [hd] at this
      exact (Option.some.inj this).symm
    rw [hdr] at hl
    have I1 := I.on R0 hp (Kp.all k1) (I.rel.kpAll k1)
    have hl : (match mp d (wipeS S vs) with
      | none => none
      | some S1 => match mt S1 tp' with
        | .ok (.bl true) _ tp1 => match me S1 tp1 with
          | .ok _ .pk _ => none
          | .ok e _ tp2 => (lcD mp mt me (wipeS S vs) (ds.drop (i + 1)) tp2).map fun r => (e :: r.1, r.2)
          | _ => none
        | .ok (.bl false) _ tp1 => lcD mp mt me (wipeS S vs) (ds.drop (i + 1)) tp1
        | _ => none) = some r' := hl
    cases e1 : mp d (wipeS S vs) with
    | none => rw [e1] at hl; cases hl
    | some S1 =>
      rw [e1] at hl
      dsimp only at hl
      refine ⟨adA A p, _, tp', d, S1, I1.rel, hx, e1, fun σ2 R2 l2 w2 => ⟨?_, adA A p, S1, tp', R2, ?_⟩⟩
      · rw [wipe_eq l2 w2]
        exact wipe_eq (wipe_length σ vs) fun j hj => wipe_out hj
      · revert hl
        cases mt S1 tp' with
        | ok b kb tp1 =>
          cases b with
          | bl b =>
            intro hl H3 k3 R3
            have I3 := I1.on R0 hp k3 R3
            cases b with
            | false =>
              refine (if_neg Bool.false_ne_true).mpr ⟨hlt, es, tp1, r', by omega, I3, hl, hrr⟩
            | true =>
              refine (if_pos (rfl : true = true)).mpr ⟨adA A p, S1, tp1, R3, ?_⟩
              dsimp only at hl
              revert hl
              cases me S1 tp1 with
              | ok e ke tp2 =>
                intro hl y H4 rs
                have hk : ke ≠ .pk := fun z => by subst z; cases hl
                have hl2 : (lcD mp mt me (wipeS S vs) (ds.drop (i + 1)) tp2).map (fun r => (e :: r.1, r.2)) = some r' := by
                  cases ke with
                  | pk => exact absurd rfl hk
                  | frz => exact hl
                  | fr => exact hl
                rw [Option.map_eq_some_iff] at hl2
                obtain ⟨r2, hl3, hr2⟩ := hl2
                have R4 := rs.rel R3
                have I4 := I3.on R0 hp rs.1 R4
                obtain ⟨ys, h1, h2⟩ := I4.acc
                have hlen := h2.length
                exact ⟨ys, h1, sz_lt (by omega), hlt, es ++ [e], tp2, r2, by rw [List.length_append]; simp; omega, I4.push R0 hp h1 (rs.fz R3 hk), hl3, by rw [← hrr, ← hr2]; simp⟩
              | ex c f tp2 => intro hl; cases hl
              | bad => intro hl; cases hl
          | _ => intro hl; cases hl
        | ex c f tp1 => intro hl; cases hl
        | bad => intro hl; cases hl
  · have e : i = ds.length := by omega
    subst e
    rw [List.drop_length] at hl
    cases hl
    refine .inl ⟨wk.stop H st, hq H ?_⟩
    rw [← hrr]
    simpa using I
theorem lc_out {mi : MI} {mp : D → Slots → Option Slots} {mt me : ME} {Q : VK} (h : tE G W (mLc mi mp mt me vs) σ H Q) : tLc (tI G W mi) (tQ G vs mp) (tT G (fun _ _ _ _ => False) mt) (tE G (fun _ _ _ _ => False) me) vs σ H Q := by
  obtain ⟨A, S, tp, R, h⟩ := h
  refine ⟨A, S, tp, R, ?_⟩
  unfold mLc at h
  revert h
  cases mi S tp with
  | ok ds kk tp1 =>
    intro h J H1 k1 R1 wk p hp
    have h : OutE G W A S σ H Q (if ds.length ≤ 16777216 then match lcD mp mt me (wipeS S vs) ds tp1 with
      | some r => .ok (.lst r.1) .fr r.2
      | none => .bad
      else .bad) := h
    split at h
    · rename_i hz
      cases e : lcD mp mt me (wipeS S vs) ds tp1 with
      | none => rw [e] at h; exact h.elim
      | some r =>
        rw [e] at h
        exact lc_loop (kk := kk) R1 hp (wk _ (fun _ z => z.elim) fun _ _ z => z) hz e fun H2 I => h _ H2 ((I.fin R1 hp).of R1 k1)
    · exact h.elim
  | ex c f tp1 => exact fun h => h
  | bad => exact fun h => h
theorem x_lc {elt tg iter : Expr} {ifs : List Expr} {scope : Scope} {own : List (Str × Nat)} {pos : Pos} {mi : MI} {mp : D → Slots → Option Slots} {mt me : ME} (hc : X.calm = true) (hN : X.N.Nodup) (hi : EvI G X tg iter mi) (ok : BlkOk X.N X.env.scope scope own)
    (hg : ∀ (s : Shared) (H : Hp) (C : Addr) (cl : List (Str × Addr)) (fp : List Addr), EvQ G (X.blk s H scope (compEnvC scope cl C X.env) fp) (own.map (·.2)) tg mp)
    (ht : ∀ (s : Shared) (H : Hp) (C : Addr) (cl : List (Str × Addr)) (fp : List Addr), EvTs G (X.blk s H scope (compEnvC scope cl C X.env) fp) ifs mt)
    (he : ∀ (s : Shared) (H : Hp) (C : Addr) (cl : List (Str × Addr)) (fp : List Addr), EvE G (X.blk s H scope (compEnvC scope cl C X.env) fp) elt me) (hs : ∀ x, foldedSetIterable iter X.env x = pure x := by intro _; rfl) :
    EvE G X (.ListComp elt [⟨tg, iter, ifs, 0⟩] scope pos) (mLc mi mp mt me (own.map (·.2))) :=
  fun W tk => (pe_lc hc hN (hi W tk) ok hg ht (fun s H C cl fp => he s H C cl fp _ takesBlk) hs).imp fun σ H Q h => lc_out h
theorem RelF.setL {F : Fm} (R : RelF G F A S tp σ H) : True := trivial
/-- name = [..], on one line, the name a local -/
theorem s_setLc (i : Nat) {y : Str} {py : Pos} {elt tg iter : Expr} {ifs : List Expr} {scope : Scope} {own : List (Str × Nat)} {pos spos : Pos} {mi : MI} {mp : D → Slots → Option Slots} {mt me : ME} (hc : X.calm = true) (hN : X.N.Nodup) (hy : X.N[i]? = some y) (hyl : X.env.scope.names.lookup y = some .local)
    (hsw : swapsWith (.ListComp elt [⟨tg, iter, ifs, 0⟩] scope pos) (some (.Name y py)) spos.line X.env = pure true) (hi : EvI G X tg iter mi) (ok : BlkOk X.N X.env.scope scope own)
    (hg : ∀ (s : Shared) (H : Hp) (C : Addr) (cl : List (Str × Addr)) (fp : List Addr), EvQ G (X.blk s H scope (compEnvC scope cl C X.env) fp) (own.map (·.2)) tg mp)
    (ht : ∀ (s : Shared) (H : Hp) (C : Addr) (cl : List (Str × Addr)) (fp : List Addr), EvTs G (X.blk s H scope (compEnvC scope cl C X.env) fp) ifs mt)
    (he : ∀ (s : Shared) (H : Hp) (C : Addr) (cl : List (Str × Addr)) (fp : List Addr), EvE G (X.blk s H scope (compEnvC scope cl C X.env) fp) elt me) (hs : ∀ x, foldedSetIterable iter X.env x = pure x := by intro _; rfl) :
    EvS G X (.Assign [.Name y py] (.ListComp elt [⟨tg, iter, ifs, 0⟩] scope pos) spos) (mSet i (mLc mi mp mt me (own.map (·.2)))) := by
  refine fun F W tk => (ps_setLc (i := i) hc hN hy hyl hsw (hi W tk) ok hg ht (fun s H C cl fp => he s H C cl fp _ takesBlk) hs).imp fun De σ H ⟨A, S, tp, R, h⟩ => lc_out (W := W) (Q := fun x H1 => gName i x σ H1 De.nx) ⟨A, S, tp, R.rel, ?_⟩
  unfold mSet at h
  revert h
  cases mLc mi mp mt me (own.map (·.2)) S tp with
  | ok d k tp' =>
    intro h v H' r
    have hk : k ≠ .pk := fun z => by subst z; exact h.elim
    obtain ⟨A1, R1, hv, _⟩ := R.res r hk
    have h : OutS G F W De (if notLck S i then .nx (setK S i d k) tp' else .bad) := by
      cases k with
      | pk => exact absurd rfl hk
      | frz => exact h
      | fr => exact h
    split at h
    · rename_i hl
      exact h A1 _ H' (R1.setK i hl hv)
    · exact h.elim
  | ex c f tp' => exact fun h cv dd H' r kp x => h A cv dd σ H' (R.after kp r) x
  | bad => exact fun h => h
end
end PV

/-! PVr: a def from its body. -/
namespace PV
open PySem L2

def parS (ds : List (D × Bool)) (n : Nat) : Slots := ds.map (fun p => some (p.1, if p.2 then Fl.lck else Fl.frz)) ++ List.replicate (n - ds.length) none
def semD (n : Nat) (mb : MS) : Sem1 := fun ds tp => match mb (parS ds n) tp with
  | .nx _ tp' => .ok .non .frz tp'
  | .rt _ .pk _ => .bad
  | .rt d k tp' => .ok d k tp'
  | .ex c f _ tp' => .ex c f tp'
  | _ => .bad
theorem noPk_semD (n : Nat) (mb : MS) : noPk (semD n mb) := by
  intro ds tp d tp' h
  unfold semD at h
  cases e : mb (parS ds n) tp with
  | rt d k tp1 => rw [e] at h; cases k <;> cases h
  | _ => rw [e] at h; cases h
section
variable {G : Gx} {A A' : Addr → Prop} {H H' : Hp}
theorem VkL.at' : ∀ {ds : List (D × Bool)} {vs : List V} {i : Nat} {d : D} {b : Bool}, VkL G H A ds vs → ds[i]? = some (d, b) → ∃ v, vs[i]? = some v ∧ (b = false → Fz G H A d v) ∧ (b = true → OwV G H A d v)
  | _, _, i, d, b, .nil, e => by simp at e
  | _, _, 0, d, b, .fz r _, e => by
    simp at e
    obtain ⟨rfl, rfl⟩ := e
    exact ⟨_, rfl, fun _ => r, fun z => nomatch z⟩
  | _, _, 0, d, b, .ow r _, e => by
    simp at e
    obtain ⟨rfl, rfl⟩ := e
    exact ⟨_, rfl, fun z => (nomatch z), fun _ => r⟩
  | _, _, i + 1, d, b, .fz _ t, e => by
    obtain ⟨v, h1, h2⟩ := VkL.at' (i := i) (d := d) (b := b) t (by simpa using e)
    exact ⟨v, by simpa using h1, h2⟩
  | _, _, i + 1, d, b, .ow _ t, e => by
    obtain ⟨v, h1, h2⟩ := VkL.at' (i := i) (d := d) (b := b) t (by simpa using e)
    exact ⟨v, by simpa using h1, h2⟩
theorem parS_at {ds : List (D × Bool)} {n i : Nat} {d : D} {fl : Fl} (h : (parS ds n)[i]? = some (some (d, fl))) : ∃ b, ds[i]? = some (d, b) ∧ fl = if b then Fl.lck else Fl.frz := by
  unfold parS at h
  rw [List.getElem?_append] at h
  split at h
  · rw [List.getElem?_map] at h
    cases e : ds[i]? with
    | none => rw [e] at h; cases h
    | some p =>
      rw [e] at h
      obtain ⟨d', b⟩ := p
      have h : some (some (d', if b then Fl.lck else Fl.frz)) = some (some (d, fl)) := h
      cases h
      exact ⟨b, rfl, rfl⟩
  · rw [List.getElem?_replicate] at h
    split at h <;> cases h
theorem start_at {N : List Str} {vs : List V} {i : Nat} {v : V} (h : vs[i]? = some v) : (L2.start N vs)[i]? = some (some v) := by
  unfold L2.start
  have hl := (List.getElem?_eq_some_iff.mp h).1
  rw [List.getElem?_append_left (by simpa using hl), List.getElem?_map, h]
  rfl
theorem parS_rel {N : List Str} {vs : List V} {ds : List (D × Bool)} {tp : Tp} (hA : Avd A H) (hT : TapOk G H A tp) (hv : VkL G H A ds vs) : RelS G A (parS ds N.length) tp (L2.start N vs) H := by
  have hl := hv.length
  refine ⟨by simp [parS, L2.start, hl], fun i d h => ?_, fun i d fl n h => ?_, fun i j a d e fl n h => ?_, hA, hT⟩
  · obtain ⟨b, h1, h2⟩ := parS_at h
    obtain ⟨v, h3, h4, _⟩ := hv.at' h1
    refine ⟨v, start_at h3, h4 ?_⟩
    cases b with
    | false => rfl
    | true => cases h2
  · obtain ⟨b, h1, h2⟩ := parS_at h
    obtain ⟨v, h3, _, h4⟩ := hv.at' h1
    have hb : b = true := by
      cases b with
      | true => rfl
      | false => exact absurd h2 n
    obtain ⟨a, rfl, q⟩ := h4 hb
    exact ⟨a, start_at h3, q⟩
  · obtain ⟨b, _, h2⟩ := parS_at h
    cases b <;> cases h2
/-- a body began -/
def bodyF (A : Addr → Prop) (H : Hp) : Fm := ⟨H, A, fun _ => False, fun _ _ => False⟩
theorem RelS.body {S : Slots} {tp : Tp} {σ : L2.St} (R : RelS G A S tp σ H) (h : ∀ (i : Nat) (d : D), S[i]? ≠ some (some (d, .own))) : RelF G (bodyF A H) A S tp σ H :=
  ⟨R, fun _ _ q _ _ => q, fun _ q => q, fun _ q => .inl q, fun i d a e => absurd e (h i d), fun _ _ z => z.elim, fun a e => (R.tap a e).1, fun _ z => z.elim, fun a q => ⟨(R.avd a q).imp fun _ z => z.1, fun z => z⟩⟩
theorem RelF.tap1 {S : Slots} {tp : Tp} {σ : L2.St} {A1 A2 : Addr → Prop} (R : RelF G (bodyF A1 H) A2 S tp σ H') {B : Addr → Prop} (hB : ∀ a, A1 a → B a) (s : ∀ a, B a → A2 a) : TapOk G H' B tp := fun a e => by
  obtain ⟨h1, xs, h2, h3⟩ := R.rel.tap a e
  exact ⟨hB a (R.tp a e), xs, h2, h3.mono s⟩
theorem ExOk.mono {c : Nat} {fs : List D} {cv : Value} {dd : Option Addr} (h : ExOk G H A' c fs cv dd) (s : ∀ a, A a → A' a) : ExOk G H A c fs cv dd := by
  obtain ⟨h1, h2⟩ := h
  refine ⟨h1, h2.imp_right fun ⟨d, vs, q1, q2, q3, q4, q5⟩ => ⟨d, vs, q1, q2, fun z => q3 (s d z), q4, q5.mono s⟩⟩
/-- what a body leaves, as its call's -/
theorem OutC.body {n : Nat} {mb : MS} {ds : List (D × Bool)} {tp : Tp} {Q : VK} {E : XK} (h : OutC G A H Q E (semD n mb ds tp)) :
    OutS G (bodyF A H) (fun cls d _ H' => E cls d H') { nx := fun _ H' => Q .non H', rt := Q } (mb (parS ds n) tp) := by
  unfold semD at h
  revert h
  cases mb (parS ds n) tp with
  | nx S tp' => exact fun h A' σ H' R => h .non H' (fun b o q m => R.kp b o q m fun z => z) (R.tap1 (fun _ z => z) R.sub) .non
  | bk S tp' => exact fun h => h.elim
  | ct S tp' => exact fun h => h.elim
  | rt d k tp' =>
    cases k with
    | pk => exact fun h => h.elim
    | frz =>
      rintro h v H' ⟨A', S, σ, R, q⟩
      exact h v H' (fun b o q m => R.kp b o q m fun z => z) (R.tap1 (fun _ z => z) R.sub) (q.mono R.sub)
    | fr =>
      rintro h v H' ⟨A', S, σ, a, rfl, h1, R, h2, h3⟩
      have s : ∀ b, adA A a b → A' b := fun b z => z.elim (R.sub b) fun z => z ▸ h2
      exact h a H' (fun b o q m => R.kp b o q m fun z => z) h1 (R.tap1 (fun _ z => .inl z) s) (h3.mono s)
  | ex c f S tp' => exact fun h A' cv dd σ H' R x => h cv dd H' (fun b o q m => R.kp b o q m fun z => z) (R.tap1 (fun _ z => z) R.sub) (x.mono R.sub)
  | bad => exact fun h => h.elim
/-- the context of a def's body -/
abbrev cxG (G : Gx) (N : List Str) (qual : Str) (scope : Scope) (f : Addr) (cdv : Value) (Ar : Around) (outer : List Env) (s : Shared) (H : Hp) (E : XK) : Cx := cxOf (L2.CX G.P G.w) G.P G.w G.K G.mg G.base N qual scope f cdv Ar outer s H E
theorem fnf {N ps : List Str} {x qual : Str} {params : Arguments} {body : List Stmt} {scope : Scope} {f : Addr} {fd : FuncData} {k : Nat} {mb : MS} (F : FunD G.K x qual params body scope [] [] f fd) (S : FnScope N ps scope) (gx : G.mg x = some (.ref f)) (b : Binds G.K fd ps [])
    (hb : ∀ (cdv : Value) (Ar : Around) (outer : List Env) (s : Shared) (H : Hp) (E : XK), Cw G k (cxG G N qual scope f cdv Ar outer s H E) → EvSs G (cxG G N qual scope f cdv Ar outer s H E) body mb) : FnF G (k + 1) x ps (semD N.length mb) := by
  refine ⟨f, fd, okG F S (fun vs H Q E h => ?_) (fun cdv Ar outer s H vs Q E hr h => ?_), gx, F.kp, b⟩
  · obtain ⟨A, ds, tp, hn, _, _, hv, _⟩ := h
    rw [← hv.length, hn]
  · obtain ⟨A, ds, tp, hn, hA, hT, hv, ho⟩ := h
    have C : Cw G k (cxG G N qual scope f cdv Ar outer s H E) := ⟨rfl, rfl, rfl, rfl, rfl, S.nd, hr.rm, hr.gd⟩
    have R := parS_rel (N := N) hA hT hv
    refine ⟨tS G (bodyF A H) (fun cls d _ H' => E cls d H') mb, hb cdv Ar outer s H E C _ _ (takes_of rfl rfl rfl rfl), A, _, tp, R.body fun i d e => ?_, OutC.body ho⟩
    obtain ⟨b, _, h2⟩ := parS_at e
    cases b <;> cases h2
end
end PV

/-! PVs: isinstance. -/
namespace PV
open PySem L2

inductive Ty where
  | non | bl | int | str | tup | lst | dct
  deriving DecidableEq, Inhabited
def Ty.nm : Ty → String
  | .non => "NoneType" | .bl => "bool" | .int => "int" | .str => "str" | .tup => "tuple" | .lst => "list" | .dct => "dict"
def D.ty : D → Option Ty
  | .non => some .non | .bl _ => some .bl | .int _ => some .int | .str _ => some .str | .tup _ => some .tup | .lst _ => some .lst | .scr _ => some .lst | .dct _ _ => some .dct
  | _ => none
def Ty.isi (t T : Ty) : Bool := decide (t = T) || (decide (t = .bl) && decide (T = .int))
theorem Ty.kit (t T : Ty) : kitB t.nm T.nm = some (t.isi T) := by
  cases t <;> cases T <;> decide +kernel
/-- what is known of the data class c -/
structure ClsF (G : Gx) (c : Nat) : Prop where
  cl : Cls G.K (G.ca c)
  ha : PySem.W.findIn G.K (.ref (G.ca c)) "__class__" = some (some (.builtin "object.__class__"))
  hn : PySem.W.specialIn G.K (.builtin "object.__class__") "__get__" = some (some (.builtin "getset_descriptor.__get__"))
  tk : PySem.W.takesIn G.K (.builtin "object.__class__") = some true
  hm : PySem.W.mroIn G.K (G.ca c) (.type "object") = some true
  nf : ∀ f ∈ G.cf c, NoAttr G.K (G.ca c) f
  nd : (G.cf c).Nodup
/-- the data classes are 0, .., n - 1 -/
structure IsiF (G : Gx) (n : Nat) : Prop where
  cls : ∀ c, c < n → ClsF G c
  t1 : ∀ c, c < n → ∀ T : Ty, PySem.W.kitOne G.K (.type T.nm) (.ref (G.ca c)) = some false
  t2 : ∀ c, c < n → ∀ T : Ty, PySem.W.kitOne G.K (.ref (G.ca c)) (.type T.nm) = some false
  t3 : ∀ c e, c < n → e < n → PySem.W.kitOne G.K (.ref (G.ca c)) (.ref (G.ca e)) = some (decide (c = e))
def isiT (n : Nat) (T : Ty) : D → Option Bool
  | .ins c _ => if c < n then some false else none
  | d => d.ty.map fun t => t.isi T
def isiC (n e : Nat) : D → Option Bool
  | .ins c _ => if c < n then some (decide (c = e)) else none
  | d => d.ty.map fun _ => false
section
variable {G : Gx} {X : Cx} {H H' : Hp} {A : Addr → Prop} {d : D} {v : V} {n : Nat}
theorem SqT.tyx {a : Addr} {xs : List V} (h : SqT G.K H a xs) : TyX G.K H (.ref a) (.type "tuple") := by
  rcases h with (h | ⟨o, h⟩) | ⟨o, its, n, h, hc, _⟩
  · exact .base (.tup h)
  · exact .fTuple h
  · exact .kTuple h hc
theorem Vw.tyx {t : Ty} (h : Vw G H A d v) (e : d.ty = some t) : TyX G.K H v (.type t.nm) := by
  rcases h with h | ⟨a, rfl, _, _, h⟩
  · cases h with
    | non => cases e; exact .base .non
    | bl b => cases e; exact .base (.bl b)
    | int i => cases e; exact .base (.int i)
    | str x => cases e; exact .base (.str x)
    | tup h r => cases e; exact SqT.tyx h.sq
    | lst h r => cases e; exact .base (.lst h.1)
    | dct h na r => cases e; exact .base (.dK h)
    | scr h r =>
      cases e
      rcases h.sq with (h | ⟨o, h⟩) | ⟨o, its, n, h, hc, _⟩
      · exact .base (.lst h)
      · exact .base (.frz h)
      · exact .kList h hc
    | _ => cases e
  · cases d with
    | lst ds => cases e; obtain ⟨xs, h1, _⟩ := h; exact .base (.lst h1)
    | dct ks ds => cases e; obtain ⟨kvs, h1, _⟩ := h; exact .base (.dK h1)
    | ins c ds => cases e
    | _ => exact h.elim
theorem Vw.insx {c : Nat} {ds : List D} (I : IsiF G n) (hc : c < n) (h : Vw G H A (.ins c ds) v) : TyX G.K H v (.ref (G.ca c)) := by
  obtain ⟨a, dx, fs, rfl, h1, _⟩ := h.ins
  have q := I.cls c hc
  exact .base (.ins h1 q.cl q.ha q.hn q.tk q.hm)
/-- isinstance(e, C), C a name -/
def mIsi (f : D → Option Bool) (m : ME) : ME := fun S tp => (m S tp).bind fun d _ tp1 => match f d with
  | some b => .ok (.bl b) .frz tp1
  | none => .bad
theorem isi_reads {W : WX} {f : D → Option Bool} {m : ME} {σ : L2.St} {Q : VK} {c : V} {u : Value} (hc : ClsV c u) (hf : ∀ d b H A v, Vw G H A d v → f d = some b → ∃ t, TyX G.K H v t ∧ PySem.W.kitOne G.K t u = some b) (h : tE G W (mIsi f m) σ H Q) : tCB (rIsi G.K) (tCons (tE G W m) (tCons (tC c) tNil)) σ H Q := by
  obtain ⟨A, S, tp, R, h⟩ := h
  refine ⟨A, S, tp, R, (OutE.bind R h).mono fun x H1 _ q => ?_⟩
  obtain ⟨d, k, tp1, r, R1, q⟩ := q
  split at q
  · rename_i b e
    obtain ⟨t, h1, h2⟩ := hf d b H1 A x (r.vw R) e
    exact ⟨x, c, t, u, b, rfl, hc, h1, h2, q _ _ ⟨Kp.refl, R1, .bl b⟩⟩
  · exact q.elim
theorem x_isiT {e : Expr} {m : ME} {x : Str} {p p2 pos : Pos} (T : Ty) (hK : X.K = G.K) (I : IsiF G n) (he : EvE G X e m) (hg : Gl X "isinstance") (hm : X.mg "isinstance" = none) (gx : Gl X x) (mx : X.mg x = none) (bx : bootBuiltins x = some (.type T.nm)) (hn : x ≠ "__name__" := by decide) (hd : (x == ("__debug__" : Str)) = false := by decide)
    (hs : starEach (e :: [.Name x p2]) X.env = (false, eval e X.env) :: starEach [.Name x p2] X.env := by rfl) (hs2 : starEach [.Name x p2] X.env = (false, eval (.Name x p2) X.env) :: starEach [] X.env := by rfl) (hpl : (backTo pos (starEach [.Name x p2] X.env)).any (·.1) = false := by rfl) :
    EvE G X (.Call (.Name "isinstance" p) [e, .Name x p2] [] pos) (mIsi (isiT n T) m) := by
  refine fun W tk => (pe_callB (call_isi (X := X)) hg hm PyProof.Rows.boot_isinstance (pa_cons (he W tk) (pa_cons (pe_bltn gx mx bx (v := .ty T.nm) rfl hn hd) pa_nil hs2) hs) (by decide) (by decide) hs hpl).imp fun σ H Q h => by
    rw [hK]
    refine isi_reads (.ty T.nm) (fun d b H A v hv hf => ?_) h
    unfold isiT at hf
    split at hf
    · rename_i c l
      split at hf
      · rename_i hc
        cases hf
        exact ⟨_, hv.insx I hc, I.t2 c hc T⟩
      · cases hf
    · rw [Option.map_eq_some_iff] at hf
      obtain ⟨t, ht, rfl⟩ := hf
      exact ⟨_, hv.tyx ht, kit_ty (Ty.kit t T)⟩
theorem x_isiC {e : Expr} {m : ME} {x : Str} {p p2 pos : Pos} (c : Nat) (hK : X.K = G.K) (I : IsiF G n) (hcn : c < n) (he : EvE G X e m) (hg : Gl X "isinstance") (hm : X.mg "isinstance" = none) (gx : Gl X x) (mx : X.mg x = some (.ref (G.ca c))) (hd : (x == ("__debug__" : Str)) = false := by decide)
    (hs : starEach (e :: [.Name x p2]) X.env = (false, eval e X.env) :: starEach [.Name x p2] X.env := by rfl) (hs2 : starEach [.Name x p2] X.env = (false, eval (.Name x p2) X.env) :: starEach [] X.env := by rfl) (hpl : (backTo pos (starEach [.Name x p2] X.env)).any (·.1) = false := by rfl) :
    EvE G X (.Call (.Name "isinstance" p) [e, .Name x p2] [] pos) (mIsi (isiC n c) m) := by
  refine fun W tk => (pe_callB (call_isi (X := X)) hg hm PyProof.Rows.boot_isinstance (pa_cons (he W tk) (pa_cons (pe_glob gx mx (v := .ref (G.ca c)) rfl hd) pa_nil hs2) hs) (by decide) (by decide) hs hpl).imp fun σ H Q h => by
    rw [hK]
    refine isi_reads (.own (G.ca c)) (fun d b H A v hv hf => ?_) h
    unfold isiC at hf
    split at hf
    · rename_i c' l
      split at hf
      · rename_i hc
        cases hf
        exact ⟨_, hv.insx I hc, I.t3 c' c hc hcn⟩
      · cases hf
    · rw [Option.map_eq_some_iff] at hf
      obtain ⟨t, ht, rfl⟩ := hf
      exact ⟨_, hv.tyx ht, I.t1 c hcn t⟩

/-! ### fields -/
/-- e.f, f the field fi c of the class c -/
def mFld (fi : Nat → Option Nat) (m : ME) : ME := fun S tp => (m S tp).bind fun d _ tp1 => match d with
  | .ins c l => match fi c with
    | some i => ofO (l[i]?.map fun d => (d, .frz)) tp1
    | none => .bad
  | _ => .bad
theorem lookup_at : ∀ {fs : List (Str × V)} {i : Nat} {f : Str} {v : V}, (fs.map (·.1)).Nodup → fs[i]? = some (f, v) → fs.lookup f = some v
  | [], i, f, v, _, h => by simp at h
  | (g, u) :: fs, 0, f, v, _, h => by
    simp at h
    obtain ⟨rfl, rfl⟩ := h
    simp [List.lookup]
  | (g, u) :: fs, i + 1, f, v, nd, h => by
    rw [List.map_cons, List.nodup_cons] at nd
    have h : fs[i]? = some (f, v) := by simpa using h
    have hne : f ≠ g := fun z => nd.1 (by
      rw [← z]
      exact List.mem_map.mpr ⟨(f, v), List.mem_of_getElem? h, rfl⟩)
    rw [List.lookup_cons]
    have : (f == g) = false := by simpa using hne
    rw [this]
    exact lookup_at nd.2 h
theorem x_fld {e : Expr} {m : ME} {f : Str} {pos : Pos} {fi : Nat → Option Nat} (hK : X.K = G.K) (I : IsiF G n) (hfi : ∀ c i, fi c = some i → c < n ∧ (G.cf c)[i]? = some f) (he : EvE G X e m) (hb : attributeBase e f X.env (eval e X.env) = eval e X.env := by rfl) : EvE G X (.Attribute e f pos) (mFld fi m) := by
  refine fun W tk => (pe_fld (he W tk) hb).imp fun σ H Q ⟨A, S, tp, R, h⟩ => ⟨A, S, tp, R, (OutE.bind R h).mono fun x H1 _ q => ?_⟩
  obtain ⟨d, k, tp1, r, R1, q⟩ := q
  rw [hK]
  split at q
  · rename_i c l
    split at q
    · rename_i i hi
      obtain ⟨hc, hf⟩ := hfi c i hi
      obtain ⟨a, dx, fs, rfl, h1, h2, h3⟩ := (r.vw R).ins
      have F := I.cls c hc
      cases e : l[i]? with
      | none => rw [e] at q; exact q.elim
      | some d =>
        rw [e] at q
        obtain ⟨v, hv, hz⟩ := h3.get e
        have il : i < l.length := (List.getElem?_eq_some_iff.mp e).1
        rw [List.getElem?_map, Option.map_eq_some_iff] at hv
        obtain ⟨⟨g, u⟩, hg, rfl⟩ := hv
        have e2 : (fs.map (·.1))[i]? = some g := by rw [List.getElem?_map, hg]; rfl
        rw [h2, List.getElem?_take_of_lt il, hf] at e2
        cases e2
        refine ⟨a, G.ca c, dx, fs, u, rfl, h1, F.cl, F.nf f (List.mem_of_getElem? hf), lookup_at ?_ hg, q u H1 ⟨Kp.refl, R1, hz⟩⟩
        rw [h2]
        exact F.nd.sublist (List.take_sublist _ _)
    · exact q.elim
  · exact q.elim
end
end PV

/-! PVt: parallel assignments that keep what is new one's own; the tape; repetition. -/
namespace PV
open PySem L2

inductive Otk where
  | ok (ds : List (D × Kd)) (tp : Tp)
  | ex (c : Nat) (f : List D) (tp : Tp)
  | bad
  deriving Inhabited
abbrev MEk := Slots → Tp → Otk
def mKn : MEk := fun _ tp => .ok [] tp
def mKc (m : ME) (ms : MEk) : MEk := fun S tp => match m S tp with
  | .ok _ .pk _ => .bad
  | .ok d k tp1 => match ms S tp1 with
    | .ok ds tp2 => .ok ((d, k) :: ds) tp2
    | o => o
  | .ex c f tp1 => .ex c f tp1
  | .bad => .bad
inductive VOkL (G : Gx) (F : Fm) (A : Addr → Prop) (S : Slots) (σ : L2.St) (H : Hp) : Hp → List (D × Kd) → List V → Prop
  | nil {H0 : Hp} : VOkL G F A S σ H H0 [] []
  | cons {H0 H1 : Hp} {d : D} {k : Kd} {v : V} {ds : List (D × Kd)} {vs : List V} : VOk G F A S σ H d v k → (∀ a, v = .ref a → k = .fr → H0 a = none ∧ ∃ o, H1 a = some o) → (∀ a, H1 a = none → H0 a = none) → VOkL G F A S σ H H1 ds vs → VOkL G F A S σ H H0 ((d, k) :: ds) (v :: vs)
def OutLk (G : Gx) (F : Fm) (W : WX) (A : Addr → Prop) (S : Slots) (σ : L2.St) (H : Hp) (Q : List V → Hp → Prop) : Otk → Prop
  | .ok ds tp' => ∀ vs H' A', Kp G H H' → (∀ a, A a → A' a) → (∀ a, A' a → A a ∨ H a = none) → RelF G F A' S tp' σ H' → VOkL G F A' S σ H' H ds vs → Q vs H'
  | .ex c f tp' => ∀ A' cv dd H', RelF G F A' S tp' σ H' → ExOk G H' A' c f cv dd → W cv dd σ H'
  | .bad => False
def tLk (G : Gx) (F : Fm) (W : WX) (m : MEk) : TA := fun σ H Q => ∃ A S tp, RelF G F A S tp σ H ∧ OutLk G F W A S σ H Q (m S tp)
structure EvK (G : Gx) (X : Cx) (es : List Expr) (m : MEk) : Prop where
  run : ∀ F W, Takes X W → PA X es (tLk G F W m)
  len : ∀ S tp ds tp', m S tp = .ok ds tp' → ds.length = es.length
section
variable {G : Gx} {X : Cx} {F : Fm} {A A' A1 : Addr → Prop} {S S' : Slots} {tp tp' : Tp} {σ σ' : L2.St} {H H' H0 H1 : Hp} {W : WX} {d : D} {k : Kd} {v : V} {ds : List (D × Kd)} {vs : List V}
theorem VOkL.length (h : VOkL G F A S σ H H0 ds vs) : ds.length = vs.length := by
  induction h with
  | nil => rfl
  | cons _ _ _ _ ih => simp [ih]
theorem VOk.kp (R : RelF G F A S tp σ H) (h : VOk G F A S σ H d v k) (kp : Kp G H H') (s : ∀ a, A a → A' a) (n : ∀ a, A' a → A a ∨ H a = none) : VOk G F A' S σ H' d v k := by
  have st := R.rel.stay kp
  cases k with
  | frz => exact Fz.ext' st n h
  | fr =>
    obtain ⟨a, rfl, h1, h2, h3, h4, h5⟩ := h
    obtain ⟨o, ho⟩ := h4.obj
    exact ⟨a, rfl, s a h1, h2, h3, h4.ext' ((kp a o ho h2).trans ho.symm) st n, h5⟩
  | pk => exact h.elim
theorem VOkL.kp (R : RelF G F A S tp σ H) (kp : Kp G H H') (s : ∀ a, A a → A' a) (n : ∀ a, A' a → A a ∨ H a = none) (h : VOkL G F A S σ H H0 ds vs) : VOkL G F A' S σ H' H0 ds vs := by
  induction h with
  | nil => exact .nil
  | cons a b c _ ih => exact .cons (a.kp R kp s n) b c ih
theorem k_nil : EvK G X [] mKn := ⟨fun F W tk => pa_nil.imp fun σ H Q ⟨A, S, tp, R, h⟩ => h [] H A Kp.refl (fun _ z => z) (fun _ z => .inl z) R .nil, fun S tp ds tp' h => by cases h; rfl⟩
theorem k_cons {e : Expr} {es : List Expr} {m : ME} {ms : MEk} (he : EvE G X e m) (hr : EvK G X es ms) (hs : starEach (e :: es) X.env = (false, eval e X.env) :: starEach es X.env := by rfl) : EvK G X (e :: es) (mKc m ms) := by
  refine ⟨fun F W tk => (pa_cons (he W tk) (hr.run F W tk) hs).imp fun σ H Q ⟨A, S, tp, R, h⟩ => ⟨A, S, tp, R.rel, ?_⟩, fun S tp ds tp' h => ?_⟩
  · unfold mKc at h
    revert h
    cases m S tp with
    | ok d k tp1 =>
      intro h v H1 r
      have hk : k ≠ .pk := fun z => by subst z; exact h.elim
      obtain ⟨A1, R1, hv, s1, n1⟩ := R.res r hk
      have h : OutLk G F W A S σ H Q (match ms S tp1 with | .ok ds tp2 => .ok ((d, k) :: ds) tp2 | o => o) := by
        cases k with
        | pk => exact absurd rfl hk
        | frz => exact h
        | fr => exact h
      refine ⟨A1, S, tp1, R1, ?_⟩
      revert h
      cases ms S tp1 with
      | ok ds tp2 =>
        intro h vs H2 A2 k2 s2 n2 R2 h2
        have kn : ∀ a, H1 a = none → H a = none := fun a z => Kp.none (r.rel R.rel) r.1 z
        refine h (v :: vs) H2 A2 (r.1.trans k2) (fun a z => s2 a (s1 a z)) (fun a z => (n2 a z).elim (n1 a) fun y => .inr (kn a y)) R2 (.cons (hv.kp R1 k2 s2 n2) (fun a ev ek => ?_) kn h2)
        subst ek ev
        obtain ⟨_, b, eb, hb, _, ho⟩ := r
        cases eb
        exact ⟨hb, ho.obj⟩
      | ex c f tp2 => exact fun h => h
      | bad => exact fun h => h
    | ex c f tp1 => exact fun h cv dd H' r kp x => h A cv dd H' (R.after kp r) x
    | bad => exact fun h => h
  · unfold mKc at h
    revert h
    cases m S tp with
    | ok d k tp1 =>
      intro h
      have hk : k ≠ .pk := fun z => by subst z; cases h
      have h : (match ms S tp1 with | .ok ds tp2 => Otk.ok ((d, k) :: ds) tp2 | o => o) = .ok ds tp' := by
        cases k with
        | pk => exact absurd rfl hk
        | frz => exact h
        | fr => exact h
      cases e2 : ms S tp1 with
      | ok es' tp2 =>
        rw [e2] at h
        cases h
        rw [List.length_cons, List.length_cons, hr.len _ _ _ _ e2]
      | ex c f tp2 => rw [e2] at h; cases h
      | bad => rw [e2] at h; cases h
    | ex c f tp1 => intro h; cases h
    | bad => intro h; cases h

/-! ### several slots set -/
def setKs : Slots → List Nat → List (D × Kd) → Slots
  | S, i :: is, (d, k) :: ds => setKs (setK S i d k) is ds
  | S, _, _ => S
def setVs : L2.St → List Nat → List V → L2.St
  | σ, i :: is, v :: vs => setVs (σ.set i (some v)) is vs
  | σ, _, _ => σ
def okSet : Slots → List Nat → List (D × Kd) → Bool
  | S, i :: is, (d, k) :: ds => notLck S i && okSet (setK S i d k) is ds
  | _, [], [] => true
  | _, _, _ => false
theorem VOkL.new : ∀ {ds : List (D × Kd)} {vs : List V} {H0 : Hp}, VOkL G F A S σ H H0 ds vs → ∀ (j : Nat) (d : D) (a : Addr), ds[j]? = some (d, .fr) → vs[j]? = some (.ref a) → H0 a = none
  | _, _, _, .nil, j, d, a, h, _ => by simp at h
  | _, _, _, .cons _ b _ _, 0, d, a, h, h' => by
    simp at h h'
    obtain ⟨rfl, rfl⟩ := h
    exact (b a h' rfl).1
  | _, _, _, .cons _ _ c t, j + 1, d, a, h, h' => c a (VOkL.new t j d a (by simpa using h) (by simpa using h'))
theorem VOkL.moved {S' : Slots} {σ' : L2.St} : ∀ {ds : List (D × Kd)} {vs : List V} {H0 : Hp}, VOkL G F A S σ H H0 ds vs → (∀ (j : Nat) (d : D) (a : Addr), ds[j]? = some (d, .fr) → vs[j]? = some (.ref a) → Unu S σ a → Unu S' σ' a) → VOkL G F A S' σ' H H0 ds vs
  | _, _, _, .nil, _ => .nil
  | _, _, _, .cons (k := k) a b c t, h => .cons (by
      cases k with
      | frz => exact a
      | pk => exact a
      | fr =>
        obtain ⟨x, rfl, h1, h2, h3, h4, h5⟩ := a
        exact ⟨x, rfl, h1, h2, h3, h4, h 0 _ x rfl rfl h5⟩) b c (VOkL.moved t fun j d a e e' => h (j + 1) d a (by simpa using e) (by simpa using e'))
theorem setKs_rel : ∀ {is : List Nat} {ds : List (D × Kd)} {vs : List V} {S : Slots} {σ : L2.St} {H0 : Hp}, RelF G F A S tp σ H → VOkL G F A S σ H H0 ds vs → okSet S is ds = true → RelF G F A (setKs S is ds) tp (setVs σ is vs) H
  | [], _, _, S, σ, _, R, h, _ => by
    cases h with
    | nil => exact R
    | cons _ _ _ _ => exact R
  | i :: is, _, _, S, σ, _, R, .nil, _ => R
  | i :: is, _, _, S, σ, H0, R, .cons (H1 := H1) (d := d) (k := k) (v := v) a b c t, h => by
    have h : (notLck S i && okSet (setK S i d k) is _) = true := h
    rw [Bool.and_eq_true] at h
    have R1 := R.setK i h.1 a
    show RelF G F A (setKs (setK S i d k) is _) tp (setVs (σ.set i (some v)) is _) H
    refine setKs_rel R1 (t.moved fun j e x e1 e2 u j' e' fl n q q' => ?_) h.2
    have hx := t.new j e x e1 e2
    by_cases hj : i = j'
    · subst hj
      cases k with
      | fr =>
        have il : i < σ.length := by
          rw [List.getElem?_set, if_pos rfl] at q'
          split at q'
          · assumption
          · cases q'
        rw [List.getElem?_set_self il] at q'
        cases q'
        obtain ⟨_, o, ho⟩ := b x rfl rfl
        rw [hx] at ho; cases ho
      | frz =>
        have q : (S.set i (some (d, Fl.frz)))[i]? = some (some (e', fl)) := q
        rw [List.getElem?_set, if_pos rfl] at q
        split at q
        · cases q; exact n rfl
        · cases q
      | pk => exact a.elim
    · have q2 : S[j']? = some (some (e', fl)) := by
        cases k with
        | fr =>
          have q : (S.set i (some (d, Fl.own)))[j']? = some (some (e', fl)) := q
          rwa [List.getElem?_set_ne hj] at q
        | frz =>
          have q : (S.set i (some (d, Fl.frz)))[j']? = some (some (e', fl)) := q
          rwa [List.getElem?_set_ne hj] at q
        | pk => exact a.elim
      rw [List.getElem?_set_ne hj] at q'
      exact u j' e' fl n q2 q'
def mPar (is : List Nat) (ms : MEk) : MS := fun S tp => match ms S tp with
  | .ok ds tp' => if okSet S is ds then .nx (setKs S is ds) tp' else .bad
  | .ex c f tp' => .ex c f S tp'
  | .bad => .bad
theorem okSet_len : ∀ {is : List Nat} {ds : List (D × Kd)} {S : Slots}, okSet S is ds = true → is.length = ds.length
  | [], [], _, _ => rfl
  | i :: is, (d, k) :: ds, S, h => by
    have h : (notLck S i && okSet (setK S i d k) is ds) = true := h
    rw [Bool.and_eq_true] at h
    simp [okSet_len h.2]
  | [], _ :: _, _, h => nomatch h
  | _ :: _, [], _, h => nomatch h
theorem par_reads {is : List Nat} {ms : MEk} {De : Ends} {Q : List V → Hp → Prop} (h : tS G F W (mPar is ms) De σ H) (hq : ∀ (A : Addr → Prop) (S : Slots) (tp : Tp) (ds : List (D × Kd)) vs H' H0, RelF G F A S tp σ H' → VOkL G F A S σ H' H0 ds vs → okSet S is ds = true → (∀ A σ H, RelF G F A (setKs S is ds) tp σ H → De.nx σ H) → Q vs H') :
    tLk G F W ms σ H Q := by
  obtain ⟨A, S, tp, R, h⟩ := h
  refine ⟨A, S, tp, R, ?_⟩
  unfold mPar at h
  revert h
  cases ms S tp with
  | ok ds tp1 =>
    intro h vs H1 A1 _ _ _ R1 hv
    have h : OutS G F W De (if okSet S is ds then .nx (setKs S is ds) tp1 else .bad) := h
    split at h
    · rename_i ho
      exact hq A1 S tp1 ds vs H1 H R1 hv ho fun A σ H R => h A σ H R
    · exact h.elim
  | ex c f tp1 => exact fun h A' cv dd H' r x => h A' cv dd σ H' r x
  | bad => exact fun h => h
theorem s_par (i j : Nat) {x y : Str} {a b : Expr} {ms : MEk} {px py pt pos : Pos} {kt k2 pt2} (hc : X.calm = true) (hN : X.N.Nodup) (hi : X.N[i]? = some x) (hj : X.N[j]? = some y) (hij : i ≠ j)
    (hx : X.env.scope.names.lookup x = some .local) (hy : X.env.scope.names.lookup y = some .local) (ha : EvK G X [a, b] ms)
    (hw : swappedStores [.Tuple [.Name x px, .Name y py] kt pt] (.Tuple [a, b] k2 pt2) X.env = pure (some [x, y]) := by rfl)
    (hs : swapsWithSole [.Tuple [.Name x px, .Name y py] kt pt] (.Tuple [a, b] k2 pt2) pos.line X.env = pure false := by rfl) :
    EvS G X (.Assign [.Tuple [.Name x px, .Name y py] kt pt] (.Tuple [a, b] k2 pt2) pos) (mPar [i, j] ms) := by
  refine fun F W tk => (ps_par hc hN hi hj hij hx hy (ha.run F W tk) hw hs).imp fun De σ H h => par_reads h fun A S tp ds vs H' H0 R hv ho hn => ?_
  have l1 := okSet_len ho
  have l2 := hv.length
  obtain ⟨v, w, rfl⟩ := len_two (by rw [← l2, ← l1]; rfl)
  exact ⟨v, w, rfl, hn A _ H' (setKs_rel R hv ho)⟩
theorem s_par3 (i j l : Nat) {x y z : Str} {a b c : Expr} {ms : MEk} {px py pz pt pos : Pos} {kt k2 pt2} (hc : X.calm = true) (hN : X.N.Nodup) (hi : X.N[i]? = some x) (hj : X.N[j]? = some y) (hl : X.N[l]? = some z) (hij : i ≠ j) (hil : i ≠ l) (hjl : j ≠ l)
    (hx : X.env.scope.names.lookup x = some .local) (hy : X.env.scope.names.lookup y = some .local) (hz : X.env.scope.names.lookup z = some .local) (ha : EvK G X [a, b, c] ms)
    (hw : swappedStores [.Tuple [.Name x px, .Name y py, .Name z pz] kt pt] (.Tuple [a, b, c] k2 pt2) X.env = pure (some [x, y, z]) := by rfl)
    (hs : swapsWithSole [.Tuple [.Name x px, .Name y py, .Name z pz] kt pt] (.Tuple [a, b, c] k2 pt2) pos.line X.env = pure false := by rfl) :
    EvS G X (.Assign [.Tuple [.Name x px, .Name y py, .Name z pz] kt pt] (.Tuple [a, b, c] k2 pt2) pos) (mPar [i, j, l] ms) := by
  refine fun F W tk => (ps_par3 hc hN hi hj hl hij hil hjl hx hy hz (ha.run F W tk) hw hs).imp fun De σ H h => par_reads h fun A S tp ds vs H' H0 R hv ho hn => ?_
  have l1 := okSet_len ho
  have l2 := hv.length
  obtain ⟨u, v, w, rfl⟩ := len_three (by rw [← l2, ← l1]; rfl)
  exact ⟨u, v, w, rfl, hn A _ H' (setKs_rel R hv ho)⟩

/-! ### by a tuple that is made and taken apart -/
def tNms (is : List Nat) : TGs := fun xs σ H Q => is.length = xs.length ∧ Q (setVs σ is xs) H
theorem n_nil : PGs X [] (tNms []) := ⟨fun pins s σ H xs us Q I r ⟨hl, q⟩ => by
  cases xs with
  | nil =>
    cases r
    exact pgs_nil.run pins s σ H [] [] Q I .nil ⟨rfl, q⟩
  | cons _ _ => cases hl⟩
theorem n_cons (i : Nat) {x : Str} {pos : Pos} {ts : List Expr} {is : List Nat} (hN : X.N.Nodup) (hi : X.N[i]? = some x) (hx : Loc X.env.scope x) (h2 : PGs X ts (tNms is)) (hf : X.fn x = true ∨ X.env.scope.names.lookup x = some .local := by first | exact .inl rfl | exact .inr rfl | assumption)
    (hs : (assignEach (.Name x pos :: ts) X.env).map (·.2) = assign (.Name x pos) X.env :: (assignEach ts X.env).map (·.2) := by rfl) : PGs X (.Name x pos :: ts) (tNms (i :: is)) := ⟨fun pins s σ H xs us Q I r ⟨hl, q⟩ => by
  cases xs with
  | nil => cases hl
  | cons v vs => exact (pgs_cons (pg_name (i := i) hN hi hx hf) h2 hs).run pins s σ H _ us Q I r ⟨v, vs, rfl, by simpa using hl, q⟩⟩
theorem s_parT (is : List Nat) {ts es : List Expr} {ms : MEk} {kt k2 : Nat} {pt pt2 pos : Pos} (hK : X.K = G.K) (hc : X.calm = true) (ht : PGs X ts (tNms is)) (ha : EvK G X es ms) (hn : (assignEach ts X.env).length = is.length := by rfl) (hst : (assignEach ts X.env).findIdx? (·.1) = none := by rfl) (hz : es.length ≤ 16777216 := by decide)
    (hw : swappedStores [.Tuple ts kt pt] (.Tuple es k2 pt2) X.env = pure none := by rfl) (hs : swapsWithSole [.Tuple ts kt pt] (.Tuple es k2 pt2) pos.line X.env = pure false := by rfl) (h1 : (assignEach [.Tuple ts kt pt] X.env).map (·.2) = [assign (.Tuple ts kt pt) X.env] := by rfl) :
    EvS G X (.Assign [.Tuple ts kt pt] (.Tuple es k2 pt2) pos) (mPar is ms) := by
  refine fun F W tk => (ps_asg (pe_tup (ha.run F W tk)) (pg_tup hc ht hn hst) hs hw h1).imp fun De σ H ⟨A, S, tp, R, h⟩ => ⟨A, S, tp, R, ?_⟩
  unfold mPar at h
  have hlen := ha.len S tp
  revert h hlen
  cases ms S tp with
  | ok ds tp1 =>
    intro h hlen vs H1 A1 _ _ _ R1 hv
    have h : OutS G F W De (if okSet S is ds then .nx (setKs S is ds) tp1 else .bad) := h
    have el := hlen ds tp1 rfl
    have l2 := hv.length
    refine ⟨sz_le (by omega), fun p hp => ?_⟩
    split at h
    · rename_i ho
      have l1 := okSet_len ho
      have k1 : Kp G H1 (upd H1 p (.tup vs)) := Kp.alloc hp
      exact ⟨p, vs, rfl, .of upd_same, by omega, by omega, h A1 _ _ (setKs_rel (R1.after k1 (R1.rel.alloc hp)) (hv.kp R1 k1 (fun _ z => z) fun _ z => .inl z) ho)⟩
    · exact h.elim
  | ex c f tp1 => exact fun h _ A' cv dd H' r x => h A' cv dd σ H' r x
  | bad => exact fun h _ => h
end
end PV

/-! PVu: the tape, repetition, minus, constants of the top. -/
namespace PV
open PySem L2
section
variable {G : Gx} {X : Cx} {F : Fm} {A A' A1 : Addr → Prop} {S S' : Slots} {tp tp' : Tp} {σ σ' : L2.St} {H H' H0 H1 : Hp} {W : WX} {d : D} {k : Kd} {v : V}
/-- a constant of the top -/
theorem x_gint {i : Int} {x : Str} {pos : Pos} (hg : Gl X x) (hm : ∃ t, X.mg x = some (.int i t)) (hd : (x == ("__debug__" : Str)) = false := by decide) : EvE G X (.Name x pos) (mC (.int i)) := by
  obtain ⟨t, hm⟩ := hm
  exact fun W tk => (pe_glob hg hm (v := .int i) ⟨t, rfl⟩ hd).imp fun σ H Q ⟨A, S, tp, R, h⟩ => out_c R h (.int i)
theorem x_gstr {z : Str} {x : Str} {pos : Pos} (hg : Gl X x) (hm : ∃ t, X.mg x = some (.str z t)) (hd : (x == ("__debug__" : Str)) = false := by decide) : EvE G X (.Name x pos) (mC (.str z)) := by
  obtain ⟨t, hm⟩ := hm
  exact fun W tk => (pe_glob hg hm (v := .str z) ⟨t, rfl⟩ hd).imp fun σ H Q ⟨A, S, tp, R, h⟩ => out_c R h (.str z)

/-! ### the tape: x is its name, at slot i -/
def isTape (S : Slots) (i : Nat) : Bool := match S[i]? with
  | some (some (.tape, .frz)) => true
  | _ => false
theorem isTape_eq {i : Nat} (h : isTape S i = true) : S[i]? = some (some (.tape, .frz)) := by
  unfold isTape at h
  split at h
  · assumption
  · cases h
theorem RelS.tape (R : RelS G A S tp σ H) {i : Nat} (h : isTape S i = true) : ∃ a, σ[i]? = some (some (.ref a)) ∧ G.ah = some a := by
  obtain ⟨v, h1, h2⟩ := R.frz i _ (isTape_eq h)
  cases h2 with
  | tape e => exact ⟨_, h1, e⟩
theorem RelS.tapL (R : RelS G A S tp σ H) {a : Addr} (ha : G.ah = some a) : A a ∧ ∃ xs, H a = some (.lst xs) ∧ FzL G H A tp xs := by
  obtain ⟨h1, o, h2, h3⟩ := R.tap a (.inl ha)
  obtain ⟨xs, h4, h5⟩ := h3.tape ha
  subst h4
  exact ⟨h1, xs, h2, h5⟩
/-- x[e] -/
def mTapI (i : Nat) (m : ME) : ME := fun S tp => if isTape S i then (m S tp).bind fun e _ tp2 => match e with
  | .int z => ofO ((atD tp2 z).map fun d => (d, .frz)) tp2
  | _ => .bad
  else .bad
theorem x_tap (i : Nat) {x : Str} {b : Expr} {mb : ME} {pos p1 : Pos} (hK : X.K = G.K) (hN : X.N[i]? = some x) (hv : Vis X.env.scope x) (hb : EvE G X b mb) (hs : PlainIx b := by exact fun _ _ => rfl) (hd : (x == ("__debug__" : Str)) = false := by decide) (hcd : (x == ("__classdict__" : Str)) = false := by decide) :
    EvE G X (.Subscript (.Name x p1) b pos) (mTapI i mb) := by
  refine fun W tk => (pe_ix ix_list (pe_var (i := i) hN hv hd hcd) (hb W tk) hs).imp fun σ H Q ⟨A, S, tp, R, h⟩ => ?_
  unfold mTapI at h
  split at h
  · rename_i ht
    obtain ⟨a, h1, h2⟩ := R.tape ht
    refine ⟨_, h1, A, S, tp, R, (OutE.bind R h).mono fun y H1 _ q => ?_⟩
    obtain ⟨e, ke, tp1, r, R1, q⟩ := q
    split at q
    · rename_i z
      cases e1 : atD tp1 z with
      | none => rw [e1] at q; exact q.elim
      | some d =>
        rw [e1] at q
        obtain ⟨_, xs, q1, q2⟩ := R1.tapL h2
        obtain ⟨w, hw, hz⟩ := atD_at q2 e1
        exact ⟨a, xs, z, w, rfl, (r.vw R).int, by rw [hK]; exact .of q1, hw, q w H1 ⟨Kp.refl, R1, hz⟩⟩
    · exact q.elim
  · exact h.elim
theorem RelF.tapW (R : RelF G F A S tp σ H) {a : Addr} (ha : G.ah = some a) {tp' : Tp} {xs : List V} (h : FzL G H A tp' xs) : RelF G F A S tp' σ (upd H a (.lst xs)) := by
  obtain ⟨hA, ys, hy, _⟩ := R.rel.tapL ha
  have ke : ∀ b u, H b = some u → ¬ A b → upd H a (.lst xs) b = some u := fun b u q n => by
    rw [upd_ne fun z => n (by rw [z]; exact hA)]; exact q
  have nn : ∀ c, A c → A c ∨ H c = none := fun c q => .inl q
  have hex : ∀ b, (∃ o, H b = some o) → ∃ o, upd H a (.lst xs) b = some o := fun b ⟨o, q⟩ => by
    by_cases hb : b = a
    · subst hb; exact ⟨_, upd_same⟩
    · exact ⟨o, by rw [upd_ne hb]; exact q⟩
  have hexN : ∀ b, (∃ o, H b = some o ∧ Nco o) → ∃ o, upd H a (.lst xs) b = some o ∧ Nco o := fun b ⟨o, q, w⟩ => by
    by_cases hb : b = a
    · subst hb; exact ⟨_, upd_same, inferInstance⟩
    · exact ⟨o, by rw [upd_ne hb]; exact q, w⟩
  refine ⟨⟨R.rel.len, fun j e q => ?_, fun j e fl n q => ?_, R.rel.dis, fun c q => hexN c (R.rel.avd c q), fun c e => ?_⟩, fun b o q n m => ?_, R.sub, R.nw, R.ow, R.pin, R.tp, fun b m => hex b (R.mm b m), R.wf⟩
  · obtain ⟨w, h1, h2⟩ := R.rel.frz j e q
    exact ⟨w, h1, h2.ext' ke nn⟩
  · obtain ⟨c, h1, h2, h3, h4⟩ := R.rel.own j e fl n q
    exact ⟨c, h1, h2, h3, h4.ext' (upd_ne fun z => h3 (by rw [z]; exact .inl ha)) ke nn⟩
  · obtain ⟨q1, o, q2, q3⟩ := R.rel.tap c e
    refine ⟨q1, ?_⟩
    by_cases hc : c = a
    · subst hc
      refine ⟨_, upd_same, fun _ => ⟨xs, rfl, h.ext' ke nn⟩, fun q z => ?_⟩
      obtain ⟨ps, z1, _⟩ := q3.tab q z
      rw [hy] at q2
      cases q2
      cases z1
    · have q4 := q3.ext' ke nn
      exact ⟨o, by rw [upd_ne hc]; exact q2, fun z => absurd (Option.some.inj (z.symm.trans ha)) hc, q4.tab⟩
  · rw [upd_ne fun z => n (by rw [z]; exact .inl ha)]
    exact R.kp b o q n m
/-- x[ei] = e -/
def mTapS (i : Nat) (mi m : ME) : MS := fun S tp => match m S tp with
  | .ok _ .pk _ => .bad
  | .ok d _ tp1 => match mi S tp1 with
    | .ok (.int z) _ tp2 => if isTape S i then match plD tp2.length z with
      | some j => .nx S (tp2.set j d)
      | none => .bad
      else .bad
    | _ => .bad
  | .ex c f tp' => .ex c f S tp'
  | .bad => .bad
theorem s_tapS (i : Nat) {x : Str} {ei e : Expr} {mi m : ME} {pos p1 p2 : Pos} (hN : X.N[i]? = some x) (hv : Vis X.env.scope x) (hi : EvE G X ei mi) (he : EvE G X e m)
    (hs : swapsWithSole [.Subscript (.Name x p1) ei p2] e pos.line X.env = pure false := by rfl) (hw : swappedStores [.Subscript (.Name x p1) ei p2] e X.env = pure none := by rfl)
    (h1 : (assignEach [.Subscript (.Name x p1) ei p2] X.env).map (·.2) = [assign (.Subscript (.Name x p1) ei p2) X.env] := by rfl)
    (ha : ∀ v, assign (.Subscript (.Name x p1) ei p2) X.env v = (do let ov ← holding [v] (eval (.Name x p1) X.env); let iv ← holding [v, ov] (eval ei X.env); standAt p2; holding [v, ov, iv] (setItem ov iv v); release [v, ov, iv] []) := by intro _; rfl)
    (hd : (x == ("__debug__" : Str)) = false := by decide) (hcd : (x == ("__classdict__" : Str)) = false := by decide) : EvS G X (.Assign [.Subscript (.Name x p1) ei p2] e pos) (mTapS i mi m) := by
  refine fun F W tk => (ps_asg (he W tk) (pg_sub (pe_var (i := i) hN hv hd hcd) (hi W tk) set_list ha) hs hw h1).imp fun De σ H ⟨A, S, tp, R, h⟩ => ⟨A, S, tp, R.rel, ?_⟩
  unfold mTapS at h
  revert h
  cases m S tp with
  | ok d k tp1 =>
    intro h v H1 r
    have hk : k ≠ .pk := fun z => by subst z; exact h.elim
    have hz := r.fz R.rel hk
    have R1 := R.after r.1 (r.rel R.rel)
    have h : OutS G F W De (match mi S tp1 with
      | .ok (.int z) _ tp2 => if isTape S i then match plD tp2.length z with
        | some j => .nx S (tp2.set j d)
        | none => .bad
        else .bad
      | _ => .bad) := by
      cases k with
      | pk => exact absurd rfl hk
      | frz => exact h
      | fr => exact h
    revert h
    cases e2 : mi S tp1 with
    | ok n k2 tp2 =>
      cases n with
      | int z =>
        show OutS G F W De (if isTape S i then match plD tp2.length z with
          | some j => .nx S (tp2.set j d)
          | none => .bad
          else .bad) → _
        intro h
        split at h
        · rename_i ht
          split at h
          · rename_i j ej
            obtain ⟨a, hσ, hah⟩ := R.rel.tape ht
            refine ⟨_, hσ, A, S, tp1, R1.rel, ?_⟩
            rw [e2]
            intro iv H2 r2
            have R2 := R1.after r2.1 (r2.rel R1.rel)
            obtain ⟨hA, xs, q1, q2⟩ := R2.rel.tapL hah
            exact ⟨a, xs, z, j, rfl, (r2.vw R1.rel).int, q1, by rw [← q2.length]; exact ej, h A σ _ (R2.tapW hah (FzL.set (hz.kp R1.rel r2.1) j q2))⟩
          · exact h.elim
        · exact h.elim
      | _ => exact fun h => h.elim
    | ex c f tp' => exact fun h => h.elim
    | bad => exact fun h => h.elim
  | ex c f tp' => exact fun h cv dd H' r kp x => h A cv dd σ H' (R.after kp r) x
  | bad => exact fun h => h

/-! ### products, repetition -/
/-- as fMul; a tuple is repeated twice or more -/
def fMul2 : F2
  | .int i, .int j => if in64 i || in64 j then some (.int (i * j), .frz) else none
  | .lst xs, .int k => if decide (-(2 ^ 63) ≤ k) && decide (k < 2 ^ 63) && decide (xs.length * k.toNat ≤ 16777216) then some (.lst (List.replicate k.toNat xs).flatten, .fr) else none
  | .tup xs, .int k => if decide (2 ≤ k) && decide (k ≤ 1000) && decide (xs.length ≤ 1000) && !xs.isEmpty then some (.tup (List.replicate k.toNat xs).flatten, .frz) else none
  | _, _ => none
theorem v_mul (hK : X.K = G.K) : OpR X (binaryOp .Mult) (rV2 G fMul2) := by
  intro pins s σ H x y v u Q I rx ry h
  obtain ⟨A, d, e, r, k, hA, h1, h2, hf, q⟩ := h
  unfold fMul2 at hf
  split at hf
  · split at hf
    · rename_i hz
      cases hf
      rw [Bool.or_eq_true] at hz
      exact op_mul pins s σ H x y v u Q I rx ry ⟨_, _, h1.int, h2.int, hz.imp in64_ok in64_ok, q _ _ (.frz (.int _))⟩
    · cases hf
  · split at hf
    · rename_i xs k hz
      cases hf
      rw [Bool.and_eq_true, Bool.and_eq_true] at hz
      obtain ⟨a, ys, rfl, ha, r1⟩ := h1.lst
      exact op_rep pins s σ H _ y v u Q I rx ry ⟨a, k, ys, rfl, h2.int, ha, of_decide_eq_true hz.1.1, of_decide_eq_true hz.1.2, by rw [← r1.length]; exact sz_le (of_decide_eq_true hz.2), fun p hp => q _ _ (.lst hp (r1.flat _))⟩
    · cases hf
  · split at hf
    · rename_i xs k hz
      cases hf
      rw [Bool.and_eq_true, Bool.and_eq_true, Bool.and_eq_true] at hz
      obtain ⟨a, ys, rfl, ha, r1⟩ := h1.tup
      have hl := r1.length
      refine op_repT pins s σ H _ y v u Q I rx ry ⟨a, k, ys, rfl, h2.int, by rw [hK]; exact ha.sq, fun z => ?_, of_decide_eq_true hz.1.1.1, of_decide_eq_true hz.1.1.2, by rw [← hl]; exact of_decide_eq_true hz.1.2, fun p hp => q _ _ (.tup hA hp (r1.flat _))⟩
      subst z
      have : xs = [] := List.length_eq_zero_iff.mp (by simpa using hl)
      subst this
      simp at hz
    · cases hf
  · cases hf
end
end PV

/-! PVv: what a law's text uses: defs by their statements, built-in names. -/
namespace PV
open PySem L2
def mBad : MS := fun _ _ => .bad
theorem s_bad {G : Gx} {X : Cx} {st : Stmt} : EvS G X st mBad := fun F W tk => ⟨fun pins s σ H D I ⟨A, S, tp, R, h⟩ => h.elim⟩
/-- the def st stands under the name x -/
def HasD (G : Gx) (x : Str) (st : Stmt) : Prop := ∃ f fd, FunD G.K x x (defArgs st) (defBody st) (defScope st) [] [] f fd ∧ G.mg x = some (.ref f)
theorem fnD {G : Gx} {N ps : List Str} {x : Str} {st : Stmt} {k : Nat} {mb : MS} (h : HasD G x st) (S : FnScope N ps (defScope st))
    (b : ∀ (kV doc pm : Value) (an : Option Addr) (cdv ct : Value) (us : List Value), us.length = ps.length → bindArgs (PySem.W.fnOf x x (defArgs st) (defBody st) (defScope st) .none kV doc pm an cdv ct) ⟨us, []⟩ = pure (ps.zip us))
    (hb : ∀ (f : Addr) (cdv : Value) (Ar : Around) (outer : List Env) (s : Shared) (H : Hp) (E : XK), Cw G k (cxG G N x (defScope st) f cdv Ar outer s H E) → EvSs G (cxG G N x (defScope st) f cdv Ar outer s H E) (defBody st) mb) : FnF G (k + 1) x ps (semD N.length mb) := by
  obtain ⟨f, fd, F, gx⟩ := h
  exact fnf F S gx (F.bindsN b) (hb f)
theorem Cw.u65 {G : Gx} {k : Nat} {X : Cx} (C : Cw G k X) : X.A.units + 65 < cLine := by have := C.room.un; omega
theorem Cw.u64 {G : Gx} {k : Nat} {X : Cx} (C : Cw G k X) : X.A.units + 64 < cLine := by have := C.room.un; omega
theorem bt_len : bootBuiltins "len" = some (.builtin "len") := by decide +kernel
theorem bt_all : bootBuiltins "all" = some (.builtin "all") := by decide +kernel
theorem bt_any : bootBuiltins "any" = some (.builtin "any") := by decide +kernel
theorem bt_sum : bootBuiltins "sum" = some (.builtin "sum") := by decide +kernel
theorem bt_abs : bootBuiltins "abs" = some (.builtin "abs") := by decide +kernel
theorem bt_max : bootBuiltins "max" = some (.builtin "max") := by decide +kernel
theorem bt_min : bootBuiltins "min" = some (.builtin "min") := by decide +kernel
theorem bt_int : bootBuiltins "int" = some (.type "int") := by decide +kernel
theorem bt_bool : bootBuiltins "bool" = some (.type "bool") := by decide +kernel
theorem bt_str : bootBuiltins "str" = some (.type "str") := by decide +kernel
theorem bt_tuple : bootBuiltins "tuple" = some (.type "tuple") := by decide +kernel
theorem bt_list : bootBuiltins "list" = some (.type "list") := by decide +kernel
theorem bt_dict : bootBuiltins "dict" = some (.type "dict") := by decide +kernel
end PV

/-! PVw: objects of data classes are made. -/
namespace PV
open PySem L2
section
variable {G : Gx} {X : Cx} {F : Fm} {A A' A1 : Addr → Prop} {S S' : Slots} {tp tp' : Tp} {σ σ' : L2.St} {H H' H0 H1 : Hp} {W : WX} {d : D} {k : Kd} {v : V} {c : Nat}
/-- the object that is made stands in slot 0, at x -/
def SelfF (G : Gx) (F : Fm) : Prop := ∃ x, F.fx 0 (.ref x) ∧ F.M x ∧ ¬ G.gm x
def EvS' (G : Gx) (X : Cx) (st : Stmt) (m : MS) : Prop := ∀ F W, SelfF G F → Takes X W → PS X st (tS G F W m)
def EvSs' (G : Gx) (X : Cx) (st : List Stmt) (m : MS) : Prop := ∀ F W, SelfF G F → Takes X W → PSs X st (tS G F W m)
theorem EvS.self {st : Stmt} {m : MS} (h : EvS G X st m) : EvS' G X st m := fun F W _ tk => h F W tk
theorem ss_cons' {st : Stmt} {rest : List Stmt} {a b : MS} (h1 : EvS' G X st a) (h2 : EvSs' G X rest b) : EvSs' G X (st :: rest) (mSeq a b) := by
  refine fun F W sf tk => (pss_cons (h1 F W sf tk) (h2 F W sf tk)).imp fun D σ H ⟨A, S, tp, R, h⟩ => ⟨A, S, tp, R, ?_⟩
  unfold mSeq at h
  revert h
  cases a S tp with
  | nx S' tp' => exact fun h A' σ' H' R' => ⟨A', S', tp', R', h⟩
  | bk S tp => exact fun h => h
  | ct S tp => exact fun h => h
  | rt d k tp => exact fun h => h
  | ex c f S tp => exact fun h => h
  | bad => exact fun h => h
theorem ss_nil' : EvSs' G X [] mNext := fun F W _ tk => ss_nil F W tk
def freeL (S : Slots) : Bool := S.all fun s => match s with
  | some (_, .lck) => false
  | _ => true
/-- self.f = e, the next field of the class c -/
def mFldS (n : Nat) (fn : Nat → Nat → Option Unit) (m : ME) : MS := fun S tp => match m S tp with
  | .ok _ .pk _ => .bad
  | .ok d _ tp1 => match S[(0 : Nat)]? with
    | some (some (.ins c l, .lck)) => if c < n && (fn c l.length).isSome && freeL (S.drop 1) then .nx (S.set 0 (some (.ins c (l ++ [d]), .lck))) tp1 else .bad
    | _ => .bad
  | .ex c f tp1 => .ex c f S tp1
  | .bad => .bad
theorem putF_new {f : Str} {v : V} : ∀ {fs : List (Str × V)}, f ∉ fs.map (·.1) → putF f v fs = fs ++ [(f, v)]
  | [], _ => rfl
  | (g, u) :: fs, h => by
    have h1 : g ≠ f := fun z => h (by rw [z]; exact List.mem_cons_self)
    have h2 : f ∉ fs.map (·.1) := fun z => h (List.mem_cons_of_mem _ z)
    show (if g = f then (g, v) :: fs else (g, u) :: putF f v fs) = _
    rw [if_neg h1, putF_new h2]
    rfl
/-- writing the container of a held slot -/
theorem RelF.writeL (R : RelF G F A S tp σ H) {i : Nat} {d d' : D} {a : Addr} {o : HO} (h : S[i]? = some (some (d, .lck))) (hσ : σ[i]? = some (some (.ref a))) (hM : F.M a) (hn : ¬ G.gm a)
    (ho : ∀ (j : Nat) (e : D), S[j]? = some (some (e, .lck)) → j = i) (new : OwC G (upd H a o) A a d') : RelF G F A (S.set i (some (d', .lck))) tp σ (upd H a o) := by
  obtain ⟨b, q1, hA, _, hO⟩ := R.rel.own i d .lck (by decide) h
  rw [hσ] at q1; cases q1
  have hN : Nco o := by
    obtain ⟨u, e, n⟩ := new.objN
    rw [upd_same] at e
    cases e
    exact n
  obtain ⟨o0, ho0⟩ := hO.obj
  have ke : ∀ b u, H b = some u → ¬ A b → upd H a o b = some u := fun b u q n => by
    rw [upd_ne fun z => n (by rw [z]; exact hA)]; exact q
  have nn : ∀ c, A c → A c ∨ H c = none := fun c q => .inl q
  have il : i < S.length := (List.getElem?_eq_some_iff.mp h).1
  have hex : ∀ b, (∃ o, H b = some o) → ∃ u, upd H a o b = some u := fun b ⟨u, q⟩ => by
    by_cases hb : b = a
    · subst hb; exact ⟨_, upd_same⟩
    · exact ⟨u, by rw [upd_ne hb]; exact q⟩
  have hexN : ∀ b, (∃ u, H b = some u ∧ Nco u) → ∃ u, upd H a o b = some u ∧ Nco u := fun b ⟨u, q, w⟩ => by
    by_cases hb : b = a
    · subst hb; exact ⟨_, upd_same, hN⟩
    · exact ⟨u, by rw [upd_ne hb]; exact q, w⟩
  have lk : ∀ {j : Nat} {e : D} {fl : Fl}, i ≠ j → fl ≠ Fl.frz → S[j]? = some (some (e, fl)) → fl = .own := fun {j e fl} hj n q => by
    cases fl with
    | frz => exact absurd rfl n
    | own => rfl
    | lck => exact absurd (ho j e q).symm hj
  refine ⟨⟨by simp [R.rel.len], fun j e q => ?_, fun j e fl n q => ?_, fun j j' c' e e' fl n q q' r r' => ?_, fun c q => hexN c (R.rel.avd c q), fun c e => ?_⟩, fun b u q n m => ?_, R.sub, R.nw, fun j e c q r => ?_, fun j w q => ?_, R.tp, fun b m => hex b (R.mm b m), R.wf⟩
  · by_cases hj : i = j
    · subst hj
      rw [List.getElem?_set_self il] at q; cases q
    · rw [List.getElem?_set_ne hj] at q
      obtain ⟨w, h1, h2⟩ := R.rel.frz j e q
      exact ⟨w, h1, h2.ext' ke nn⟩
  · by_cases hj : i = j
    · subst hj
      rw [List.getElem?_set_self il] at q
      cases q
      exact ⟨a, hσ, hA, hn, new⟩
    · rw [List.getElem?_set_ne hj] at q
      obtain ⟨c, h1, h2, h3, h4⟩ := R.rel.own j e fl n q
      have hca : c ≠ a := fun z => by
        subst z
        have := lk hj n q
        subst this
        exact hj (R.rel.dis j i c e d .lck (by decide) q h h1 hσ).symm
      exact ⟨c, h1, h2, h3, h4.ext' (upd_ne hca) ke nn⟩
  · have hj : i ≠ j := fun z => by
      subst z
      rw [List.getElem?_set_self il] at q; cases q
    rw [List.getElem?_set_ne hj] at q
    by_cases hj' : i = j'
    · subst hj'
      exact R.rel.dis j i c' e d .lck (by decide) q h r r'
    · rw [List.getElem?_set_ne hj'] at q'
      exact R.rel.dis j j' c' e e' fl n q q' r r'
  · obtain ⟨t1, xs, t2, t3⟩ := R.rel.tap c e
    have hca : c ≠ a := fun z => hn (by rw [← z]; exact e)
    exact ⟨t1, xs, by rw [upd_ne hca]; exact t2, t3.ext' ke nn⟩
  · rw [upd_ne fun z => m (by rw [z]; exact hM)]
    exact R.kp b u q n m
  · have hj : i ≠ j := fun z => by
      subst z
      rw [List.getElem?_set_self il] at q; cases q
    rw [List.getElem?_set_ne hj] at q
    exact R.ow j e c q r
  · obtain ⟨q1, e, q2⟩ := R.pin j w q
    refine ⟨q1, ?_⟩
    by_cases hj : i = j
    · subst hj
      exact ⟨d', List.getElem?_set_self il⟩
    · exact ⟨e, by rw [List.getElem?_set_ne hj]; exact q2⟩
theorem s_fldS {n : Nat} {fn : Nat → Nat → Option Unit} {x f : Str} {e : Expr} {m : ME} {p1 p2 pos : Pos} (hK : X.K = G.K) (I : IsiF G n) (hfn : ∀ c j, (fn c j).isSome = true → c < n → (G.cf c)[j]? = some f ∧ j < 1000) (hN : X.N[0]? = some x) (hv : Vis X.env.scope x) (he : EvE G X e m)
    (hs : swapsWith e (some (.Attribute (.Name x p1) f p2)) pos.line X.env = pure false := by rfl) (hd : (x == ("__debug__" : Str)) = false := by decide) (hcd : (x == ("__classdict__" : Str)) = false := by decide) : EvS' G X (.Assign [.Attribute (.Name x p1) f p2] e pos) (mFldS n fn m) := by
  refine fun F W sf tk => (ps_fld (pe_var (i := 0) hN hv hd hcd) (he W tk) hs).imp fun De σ H ⟨A, S, tp, R, h⟩ => ⟨A, S, tp, R.rel, ?_⟩
  unfold mFldS at h
  revert h
  cases m S tp with
  | ok d k tp1 =>
    intro h v H1 r
    have hk : k ≠ .pk := fun z => by subst z; exact h.elim
    have hz := r.fz R.rel hk
    have R1 := R.after r.1 (r.rel R.rel)
    have h : OutS G F W De (match S[(0 : Nat)]? with
      | some (some (.ins c l, .lck)) => if c < n && (fn c l.length).isSome && freeL (S.drop 1) then .nx (S.set 0 (some (.ins c (l ++ [d]), .lck))) tp1 else .bad
      | _ => .bad) := by
      cases k with
      | pk => exact absurd rfl hk
      | frz => exact h
      | fr => exact h
    split at h
    · rename_i c l e0
      split at h
      · rename_i ht
        rw [Bool.and_eq_true, Bool.and_eq_true] at ht
        have hc : c < n := of_decide_eq_true ht.1.1
        obtain ⟨x0, hx1, hx2, hx3⟩ := sf
        obtain ⟨hσ, _⟩ := R1.pin 0 _ hx1
        obtain ⟨a, q1, qA, qn, dx, fs, q2, q3, q4⟩ := R1.rel.own 0 _ _ (by decide) e0
        rw [hσ] at q1; cases q1
        have Fc := I.cls c hc
        obtain ⟨hf, hj⟩ := hfn c l.length ht.1.2 hc
        have hlen : l.length = fs.length := by have := q4.length; simpa using this
        have ef : fs.map (·.1) = (G.cf c).take l.length := q3
        have fnew : f ∉ fs.map (·.1) := fun z => by
          rw [ef] at z
          obtain ⟨i, hi⟩ := List.mem_iff_getElem?.mp z
          have i1 : i < l.length := by
            have := (List.getElem?_eq_some_iff.mp hi).1
            rw [List.length_take] at this; omega
          rw [List.getElem?_take_of_lt i1] at hi
          have i2 : i < (G.cf c).length := (List.getElem?_eq_some_iff.mp hi).1
          have := (List.getElem?_inj i2 Fc.nd).mp (hi.trans hf.symm)
          omega
        rw [hK]
        refine ⟨_, hσ, x0, G.ca c, dx, fs, rfl, q2, Fc.cl, Fc.nf f (List.mem_of_getElem? hf), by omega, h A _ _ (R1.writeL e0 hσ hx2 hx3 (fun j e q => ?_) ⟨dx, _, upd_same, ?_, ?_⟩)⟩
        · cases j with
          | zero => rfl
          | succ j =>
            have z := List.all_eq_true.mp ht.2 (some (e, .lck)) (List.mem_of_getElem? (i := j) (by rw [List.getElem?_drop]; rw [Nat.add_comm]; exact q))
            cases z
        · rw [putF_new fnew, List.map_append, ef, List.length_append]
          show (G.cf c).take l.length ++ [f] = (G.cf c).take (l.length + 1)
          rw [List.take_succ, hf]
          rfl
        · rw [putF_new fnew, List.map_append]
          refine (q4.append (.cons hz .nil)).ext' (fun b u q nA => ?_) fun _ q => .inl q
          rw [upd_ne fun z => nA (by rw [z]; exact qA)]
          exact q
      · exact h.elim
    · exact h.elim
  | ex c f tp1 => exact fun h cv dd H' r kp x => h A cv dd σ H' (R.after kp r) x
  | bad => exact fun h => h
end
end PV

/-! PVx: C(e, ..), C a data class with its __init__. -/
namespace PV
open PySem L2
/-- what __init__ does to a new object of the class c -/
def semI (c n : Nat) (mb : MS) : Sem1 := fun ds tp => match mb (some (.ins c [], .lck) :: parS ds (n - 1)) tp with
  | .nx S tp' => match S[(0 : Nat)]? with
    | some (some (.ins c' l, .lck)) => .ok (.ins c' l) .fr tp'
    | _ => .bad
  | .ex e f _ tp' => .ex e f tp'
  | _ => .bad
def KpB (G : Gx) (x : Addr) (H H' : Hp) : Prop := ∀ b o, H b = some o → ¬ G.gm b → b ≠ x → H' b = some o
def OutN (G : Gx) (A : Addr → Prop) (H : Hp) (x : Addr) (Q : VK) (E : XK) : Ot → Prop
  | .ok d .fr tp' => ∀ H', KpB G x H H' → TapOk G H' A tp' → OwC G H' A x d → Q .non H'
  | .ex c f tp' => ∀ cv dd H', KpB G x H H' → TapOk G H' A tp' → ExOk G H' A c f cv dd → (∃ o, H' x = some o) → E cv dd H'
  | _ => False
def SpN (G : Gx) (c n : Nat) (sem : Sem1) : Sp := fun vs H Q E => ∃ A ds tp x dx rest, vs = .ref x :: rest ∧ ds.length + 1 = n ∧ H x = some (.ins (G.ca c) dx []) ∧ Avd A H ∧ A x ∧ ¬ G.gm x ∧ TapOk G H A tp ∧ FzL G H A (ds.map (·.1)) rest ∧ ds.any (·.2) = false ∧ OutN G A H x Q E (sem ds tp)
structure FnN (G : Gx) (k c : Nat) (x : Str) (ps : List Str) (sem : Sem1) : Prop where
  ex : ∃ f fd, FnOkG G.P G.w G.K G.mg G.base (L2.CX G.P G.w) k f fd ps (SpN G c ps.length sem) ∧ Mk G.K (G.ca c) f ∧ G.mg x = some (.ref (G.ca c)) ∧ Binds G.K fd ps []
def mNew (sem : Sem1) (ms : MEs) : ME := fun S tp => (ms S tp).bind fun ds tp1 => if ds.any (·.2) = false then sem ds tp1 else .bad
section
variable {G : Gx} {X : Cx} {k : Nat} {c : Nat} {e : Expr} {es : List Expr} {ms : MEs} {p pos : Pos} {x : Str} {ps : List Str} {sem : Sem1} {A A' : Addr → Prop} {S : Slots} {tp tp' : Tp} {σ : L2.St} {H H' H1 : Hp} {W : WX}
theorem _root_.PV.RoomG.make {k : Nat} {A : Around} (r : RoomG (k + 1) A) (C : Addr) (us : List Value) : RoomG k (A.under (.builtin "type.__call__" ⟨.ref C :: us, []⟩)) := ⟨r.rm.make C us [], by
  have h := r.gd
  have g : (Code.builtin "type.__call__" ⟨.ref C :: us, []⟩).guards = [] := by
    unfold Code.guards
    rw [if_neg]
    show ¬ guardIds.contains "type.__call__" = true
    decide
  have z : (A.under (.builtin "type.__call__" ⟨.ref C :: us, []⟩)).guards = pushGuards (Code.builtin "type.__call__" ⟨.ref C :: us, []⟩).guards A.guards := rfl
  rw [z, h, g]; rfl⟩
/-- an object is made and given to its __init__; what may come out by an exception may lean on the frame's state -/
theorem run_new {pins : List (Addr × Obj)} {s : Shared} {Q : VK} {us : List Value} {vs : List V} {C f : Addr} {fd : FuncData} {sp : Sp} {E : XK} (M : Mk X.K C f) (Fn : FnOkG X.prog X.w X.K X.mg X.base (L2.CX X.prog X.w) k f fd ps sp) (hr : RoomG (k + 1) X.A) (hb : Binds X.K fd ps [])
    (hx : PassesAt (L2.CX X.prog X.w) X σ E) (I : Inv X pins σ H s) (r : Vals vs us)
    (h : ∀ x dx, H x = none → H dx = none → dx ≠ x → sp (.ref x :: vs) (upd (upd H dx (.own x)) x (.ins C dx [])) (fun v H2 => v = .non ∧ Q (.ref x) H2) E) :
    wpAny (model X.prog X.w) X.A (call (.ref C) us) (EP X pins σ Q) X.xe s := by
  have hsp := h (s.heap.objs.size + 1) s.heap.objs.size (I.hok.fresh (Nat.le_succ _)) (I.hok.fresh (Nat.le_refl _)) (Nat.ne_of_lt (Nat.lt_succ_self _))
  have J := Inv.made (C := C) I
  have rr : Vals (V.ref (s.heap.objs.size + 1) :: vs) (Value.ref (s.heap.objs.size + 1) :: us) := .cons rfl r
  have b := hb _ (Value.ref (s.heap.objs.size + 1) :: us) J.kIn (by rw [List.append_nil, ← rr.length]; exact Fn.len _ _ _ _ hsp)
  rw [List.append_nil] at b
  have run := Fn.run _ X.stack _ _ ⟨Value.ref (s.heap.objs.size + 1) :: us, []⟩ _ _ _ E (hr.make C us) (J.env0.make C us []) b rr hsp
  refine wpAny_call (make_map (f := f) I.kIn M.makes M.init (beq_iff_eq.mp M.fn) (codeAny_mono run fun r s' hq => ?_))
  match r, hq with
  | .error e, hq => exact hx pins _ _ _ s' J hq
  | .ok (.ret u), hq =>
    obtain ⟨v, H', I3, rv, ev, q3⟩ := J.after hq
    subst ev
    exact ⟨rv, V.ref (s.heap.objs.size + 1), H', I3, rfl, q3⟩
  | .ok .next, hq => exact hq.elim
  | .ok .brk, hq => exact hq.elim
  | .ok .cont, hq => exact hq.elim
def tNewS (C : Addr) (sp : Sp) (E : L2.St → XK) (t : TA) : TE := fun σ H Q => t σ H fun vs H1 => ∀ x dx, H1 x = none → H1 dx = none → dx ≠ x → sp (.ref x :: vs) (upd (upd H1 dx (.own x)) x (.ins C dx [])) (fun v H2 => v = .non ∧ Q (.ref x) H2) (E σ)
theorem pe_newS {C f : Addr} {fd : FuncData} {sp : Sp} {E : L2.St → XK} {t : TA} (M : Mk X.K C f) (Fn : FnOkG X.prog X.w X.K X.mg X.base (L2.CX X.prog X.w) k f fd ps sp) (hr : RoomG (k + 1) X.A) (hg : Gl X x) (hm : X.mg x = some (.ref C)) (hb : Binds X.K fd ps []) (hx : ∀ σ, PassesAt (L2.CX X.prog X.w) X σ (E σ))
    (ha : PA X (e :: es) t) (hdb : (x == ("__debug__" : Str)) = false) (hs : starEach (e :: es) X.env = (false, eval e X.env) :: starEach es X.env) (hpl : (backTo pos (starEach es X.env)).any (·.1) = false) : PE X (.Call (.Name x p) (e :: es) [] pos) (tNewS C sp E t) :=
  ⟨fun pins s σ H Q I h => wpAny_Call_Name_kw (ld_glob I hg hm (PySem.W.callWith_K (h₀ := X.base) I.ok.mod.kin M.kp (thn (ha.run pos pins s σ H _ I h) fun us s1 ⟨vs, H1, I1, r, q⟩ => ⟨I1.kIn, run_new M Fn hr hb (hx σ) I1 r q⟩) hs hpl) hdb)⟩
theorem adA_tap (R : RelS G A S tp σ H) (t : TapOk G H' A' tp') (s : ∀ a, A a → A' a) : TapOk G H' A tp' := fun a e => by
  obtain ⟨_, xs, h1, h2⟩ := t a e
  exact ⟨(R.tap a e).1, xs, h1, h2.mono s⟩
theorem OutN.of {Q : VK} {o : Ot} {y : Addr} {dx : Addr} (R : RelS G A S tp σ H1) (hx : H1 y = none) (hdx : H1 dx = none) (hne : dx ≠ y) (hk : ∀ d k tp', o = .ok d k tp' → k = .fr) (q : OutE G W A S σ H1 Q o) :
    OutN G (adA A y) (upd (upd H1 dx (.own y)) y (.ins (G.ca c) dx [])) y (fun v H2 => v = .non ∧ Q (.ref y) H2) (fun cv dd H' => W cv dd σ H') o := by
  have up : ∀ b o, H1 b = some o → upd (upd H1 dx (.own y)) y (.ins (G.ca c) dx []) b = some o := fun b o z => by
    rw [upd_ne (ne_of_none z hx), upd_ne (ne_of_none z hdx)]; exact z
  have kp : ∀ {H'}, KpB G y (upd (upd H1 dx (.own y)) y (.ins (G.ca c) dx [])) H' → Kp G H1 H' := fun k b o z n => k b o (up b o z) n (ne_of_none z hx)
  cases o with
  | ok d k tp' =>
    have := hk d k tp' rfl
    subst this
    exact fun H' k t o => ⟨rfl, q _ H' ⟨kp k, y, rfl, hx, R.afterNew (kp k) hx o.objN t, o⟩⟩
  | ex c f tp' => exact fun cv dd H' k t x _ => q cv dd H' (R.after (kp k) (adA_tap R t fun _ z => .inl z)) (kp k) (x.mono fun _ z => .inl z)
  | bad => exact q.elim
theorem x_new {j : Nat} (C : Cw G k X) (N : FnN G j c x ps sem) (hj : j + 1 ≤ k) (hk : ∀ ds tp d k tp', sem ds tp = .ok d k tp' → k = .fr) (hg : Gl X x) (ha : EvL G X (e :: es) ms) (hn : (e :: es).length + 1 = ps.length := by rfl) (hdb : (x == ("__debug__" : Str)) = false := by decide)
    (hs : starEach (e :: es) X.env = (false, eval e X.env) :: starEach es X.env := by rfl) (hpl : (backTo pos (starEach es X.env)).any (·.1) = false := by rfl) :
    EvE G X (.Call (.Name x p) (e :: es) [] pos) (mNew sem ms) := by
  intro W tk
  obtain ⟨f, fd, N1, N2, N3, N4⟩ := N.ex
  rw [← C.eP, ← C.ew, ← C.eK, ← C.em, ← C.eb] at N1
  rw [← C.eK] at N2 N4
  rw [← C.em] at N3
  refine (pe_newS (E := fun σ cv dd H' => W cv dd σ H') N2 N1 (C.roomG.mono hj) hg N3 N4 (passesAt tk) (ha.run W tk) hdb hs hpl).imp fun σ H Q ⟨A, S, tp, R, q⟩ => ⟨A, S, tp, R, ?_⟩
  have q2 := OutL.bind R q
  have hl := ha.len S tp
  revert q2 hl
  cases ms S tp with
  | ok ds tp2 =>
    intro q2 hl vs H2 r2 y dx hy hdx hne
    obtain ⟨ds', tp2', r2', q⟩ := q2 vs H2 r2
    have e2 := r2'.2.2.length
    have e3 := r2.2.2.length
    have R2 := r2'.2.1
    split at q
    · rename_i hany
      have up : ∀ b o, H2 b = some o → upd (upd H2 dx (.own y)) y (.ins (G.ca c) dx []) b = some o := fun b o z => by
        rw [upd_ne (ne_of_none z hy), upd_ne (ne_of_none z hdx)]; exact z
      have R3 := R2.add up hy ⟨_, upd_same, inferInstance⟩
      have hnt : ¬ G.gm y := fun z => by
        obtain ⟨_, xs, h1, _⟩ := R2.tap y z
        rw [hy] at h1; cases h1
      exact ⟨adA A y, ds', tp2', y, dx, vs, rfl, by rw [← hn, ← hl ds tp2 rfl]; omega, upd_same, R3.avd, .inr rfl, hnt, R3.tap, (r2'.2.2.fzs hany).ext' (fun b o z _ => up b o z) (fun a z => z.elim .inl fun w => .inr (w ▸ hy)), hany, OutN.of R2 hy hdx hne (hk ds' tp2') q⟩
    · exact q.elim
  | ex c f tp2 => exact fun q2 _ => q2
  | bad => exact fun q2 _ => q2
theorem FzL.vk : ∀ {ds : List (D × Bool)} {vs : List V}, FzL G H A (ds.map (·.1)) vs → ds.any (·.2) = false → VkL G H A ds vs
  | [], _, .nil, _ => .nil
  | (d, b) :: ds, _, .cons r t, h => by
    simp at h
    obtain ⟨rfl, h⟩ := h
    exact .fz r (FzL.vk t (by simpa using h))
theorem semI_fr {n : Nat} {mb : MS} : ∀ ds tp d k tp', semI c n mb ds tp = .ok d k tp' → k = .fr := fun ds tp d k tp' h => by
  unfold semI at h
  split at h
  · split at h
    · cases h; rfl
    · cases h
  · cases h
  · cases h
/-- the frame in which __init__ runs -/
def newF (A : Addr → Prop) (H : Hp) (x : Addr) : Fm := ⟨H, fun a => A a ∧ a ≠ x, fun a => a = x, fun i v => i = 0 ∧ v = .ref x⟩
theorem fnN {N ps : List Str} {q : Str} {params : Arguments} {body : List Stmt} {scope : Scope} {f : Addr} {fd : FuncData} {k : Nat} {mb : MS} (F : FunD G.K "__init__" q params body scope [] [] f fd) (S : FnScope N ps scope) (M : Mk G.K (G.ca c) f) (gx : G.mg x = some (.ref (G.ca c))) (b : Binds G.K fd ps []) (hN : N.length = (N.length - 1) + 1)
    (hcf : (G.cf c).take 0 = [])
    (hb : ∀ (cdv : Value) (Ar : Around) (outer : List Env) (s : Shared) (H : Hp) (E : XK), Cw G k (cxG G N q scope f cdv Ar outer s H E) → EvSs' G (cxG G N q scope f cdv Ar outer s H E) body mb) : FnN G (k + 1) c x ps (semI c N.length mb) := by
  refine ⟨f, fd, okG F S (fun vs H Q E h => ?_) (fun cdv Ar outer s H vs Q E hr h => ?_), M, gx, b⟩
  · obtain ⟨A, ds, tp, x, dx, rest, rfl, hn, _, _, _, _, _, hv, _⟩ := h
    have := hv.length
    simp at this
    rw [List.length_cons, ← this, hn]
  · obtain ⟨A, ds, tp, x, dx, rest, rfl, hn, hx, hA, hAx, hnt, hT, hv, hany, ho⟩ := h
    have C : Cw G k (cxG G N q scope f cdv Ar outer s H E) := ⟨rfl, rfl, rfl, rfl, rfl, S.nd, hr.rm, hr.gd⟩
    have vk := hv.vk hany
    have hlen := vk.length
    let S0 : Slots := some (.ins c [], .lck) :: parS ds (N.length - 1)
    have e0 : L2.start N (V.ref x :: rest) = some (V.ref x) :: (rest.map some ++ List.replicate (N.length - 1 - rest.length) none) := by
      unfold L2.start
      rw [List.map_cons, List.cons_append, List.length_cons]
      congr 3
      omega
    have R0 : RelS G A S0 tp (L2.start N (V.ref x :: rest)) H := by
      rw [e0]
      have own0 : OwC G H A x (.ins c []) := ⟨dx, [], hx, by simp [hcf], .nil⟩
      refine ⟨by simp [S0, parS, hlen], fun i d h => ?_, fun i d fl n h => ?_, fun i j a d e fl n h => ?_, hA, hT⟩
      · cases i with
        | zero => cases h
        | succ i =>
          obtain ⟨b, h1, h2⟩ := parS_at (show (parS ds (N.length - 1))[i]? = some (some (d, Fl.frz)) from h)
          obtain ⟨v, h3, h4, _⟩ := vk.at' h1
          refine ⟨v, ?_, h4 ?_⟩
          · show (rest.map some ++ _)[i]? = _
            have hl := (List.getElem?_eq_some_iff.mp h3).1
            rw [List.getElem?_append_left (by simpa using hl), List.getElem?_map, h3]
            rfl
          · cases b with
            | false => rfl
            | true => cases h2
      · cases i with
        | zero =>
          cases h
          exact ⟨x, rfl, hAx, hnt, own0⟩
        | succ i =>
          exfalso
          obtain ⟨b, h1, h2⟩ := parS_at (show (parS ds (N.length - 1))[i]? = some (some (d, fl)) from h)
          cases b with
          | false => exact n h2
          | true =>
            have := List.any_eq_false.mp hany (d, true) (List.mem_of_getElem? h1)
            simp at this
      · exfalso
        cases i with
        | zero => cases h
        | succ i =>
          obtain ⟨b, _, h2⟩ := parS_at (show (parS ds (N.length - 1))[i]? = some (some (d, Fl.own)) from h)
          cases b <;> cases h2
    have RF : RelF G (newF A H x) A S0 tp (L2.start N (V.ref x :: rest)) H := by
      refine ⟨R0, fun _ _ q _ _ => q, fun _ q => q.1, fun a q => ?_, fun i d a h => ?_, fun i v z => ?_, fun a e => ⟨(hT a e).1, fun z => hnt (by rw [← z]; exact e)⟩, fun b z => ?_, fun a q => ⟨(hA a q.1).imp fun _ z => z.1, q.2⟩⟩
      · by_cases z : a = x
        · exact .inr (.inr z)
        · exact .inl ⟨q, z⟩
      · exfalso
        cases i with
        | zero => cases h
        | succ i =>
          obtain ⟨b, _, h2⟩ := parS_at (show (parS ds (N.length - 1))[i]? = some (some (d, Fl.own)) from h)
          cases b <;> cases h2
      · obtain ⟨rfl, rfl⟩ := z
        exact ⟨by rw [e0]; rfl, _, rfl⟩
      · rw [show b = x from z]; exact ⟨_, hx⟩
    refine ⟨tS G (newF A H x) (fun cls d _ H' => E cls d H') mb, hb cdv Ar outer s H E C _ _ ⟨x, ⟨rfl, rfl⟩, rfl, hnt⟩ (takes_of rfl rfl rfl rfl), A, S0, tp, RF, ?_⟩
    have kb : ∀ {A' S' tp' σ' H'}, RelF G (newF A H x) A' S' tp' σ' H' → KpB G x H H' ∧ TapOk G H' A tp' ∧ ∀ a, A a → A' a := fun {A' S' tp' σ' H'} R => by
      have s : ∀ a, A a → A' a := fun a z => by
        by_cases e : a = x
        · subst e
          obtain ⟨q1, d, q2⟩ := R.pin 0 (.ref a) ⟨rfl, rfl⟩
          obtain ⟨b, q3, q4, _⟩ := R.rel.own 0 d .lck (by decide) q2
          rw [q1] at q3; cases q3
          exact q4
        · exact R.sub a ⟨z, e⟩
      refine ⟨fun b o q n m => R.kp b o q n m, fun a e => ?_, s⟩
      obtain ⟨_, xs, h1, h2⟩ := R.rel.tap a e
      exact ⟨(hT a e).1, xs, h1, h2.mono s⟩
    unfold semI at ho
    revert ho
    show OutN G A H x Q E (match mb S0 tp with
      | .nx S tp' => match S[(0 : Nat)]? with
        | some (some (.ins c' l, .lck)) => .ok (.ins c' l) .fr tp'
        | _ => .bad
      | .ex e f _ tp' => .ex e f tp'
      | _ => .bad) → _
    cases mb S0 tp with
    | nx S' tp' =>
      intro ho A' σ' H' R
      obtain ⟨k1, k2, k3⟩ := kb R
      obtain ⟨q1, d, q2⟩ := R.pin 0 (.ref x) ⟨rfl, rfl⟩
      obtain ⟨b, q3, q4, _, q5⟩ := R.rel.own 0 d .lck (by decide) q2
      rw [q1] at q3; cases q3
      have ho : OutN G A H x Q E (match S'[(0 : Nat)]? with
        | some (some (.ins c' l, .lck)) => .ok (.ins c' l) .fr tp'
        | _ => .bad) := ho
      rw [q2] at ho
      cases d with
      | ins c' l => exact ho H' k1 k2 (q5.mono k3)
      | _ => exact ho.elim
    | ex e f S' tp' =>
      intro ho A' cv dd σ' H' R x'
      obtain ⟨k1, k2, k3⟩ := kb R
      obtain ⟨q1, d, q2⟩ := R.pin 0 (.ref x) ⟨rfl, rfl⟩
      obtain ⟨b, q3, q4, _, q5⟩ := R.rel.own 0 d .lck (by decide) q2
      rw [q1] at q3; cases q3
      exact ho cv dd H' k1 k2 (x'.mono k3) q5.obj
    | _ => exact fun ho => ho.elim
end
end PV

/-! PVy: == and != by a data class's own __eq__, any answer. -/
namespace PV
open PySem L2
/-- the class c has its own __eq__, at f, and no own __ne__ -/
structure EqF (G : Gx) (c : Nat) (f : Addr) : Prop where
  obj : ∃ (nm q : Str) (N : Addr) (bs : List Value) (hd : Bool) (sn : List Str) (sub : List Value) (ab : Bool) (col : Option Bool) (dd : Option Addr) (k0 k1 k2 k3 k5 : Option Value) (ni : String) (oN : Obj) (es : Array DictEntry) (ep : Nat),
    G.K.lookup (G.ca c) = some (excClassObj nm q (G.ca c) N bs [.type "object"] hd sn sub ab col dd k0 k1 k2 k3 k5 ni) ∧ G.K.lookup N = some oN ∧ oN.data = .dict es ep ∧ StrKeys es ∧ nsFind es "__eq__" = some (.ref f) ∧ nsFind es "__ne__" = none
  fn : ∃ o, G.K.lookup f = some o ∧ o.cls = .type "function"
  find : PySem.W.findIn G.K (.ref (G.ca c)) "__eq__" = some (some (.ref f))
  isf : PySem.W.isFn G.K (.ref f) = true
structure FnE (G : Gx) (k c : Nat) (ps : List Str) (sem : Sem1) : Prop where
  ex : ∃ f fd, FnOkG G.P G.w G.K G.mg G.base (L2.CX G.P G.w) k f fd ps (SpV G 2 sem) ∧ EqF G c f ∧ Binds G.K fd ps []
/-- what the call of __eq__ wants -/
def SpQ (G : Gx) (sem : Sem1) (P : Bool → Hp → Prop) (a b : Addr) (H : Hp) : Prop := ∃ A d kd e ke tp bb tp', Avd A H ∧ TapOk G H A tp ∧ VkL G H A [(d, kd), (e, ke)] [.ref a, .ref b] ∧ sem [(d, kd), (e, ke)] tp = .ok (.bl bb) .frz tp' ∧ ∀ H', Kp G H H' → TapOk G H' A tp' → P bb H'
section
variable {G : Gx} {X : Cx} {k j c : Nat} {ps : List Str} {sem : Sem1} {A A' : Addr → Prop} {S : Slots} {tp tp' : Tp} {σ : L2.St} {H H' H1 : Hp} {W : WX} {ma mb : ME} {pins : List (Addr × Obj)} {s : Shared}
theorem run_own {f : Addr} {fd : FuncData} {Ar : Around} {a b : Addr} {P : Bool → Hp → Prop} (Fn : FnOkG X.prog X.w X.K X.mg X.base (L2.CX X.prog X.w) j f fd ps (SpV G 2 sem)) (hb : Binds X.K fd ps []) (room : RoomG j Ar) (fr : Ar.frames = X.A.frames) (I : Inv X pins σ H s) (h : SpQ G sem P a b H) :
    wpAny (model X.prog X.w) Ar (call (.ref f) [.ref a, .ref b]) (fun v s' => ∃ bb H', v = .bool bb ∧ Inv X pins σ H' s' ∧ P bb H') X.xe s := by
  obtain ⟨A, d, kd, e, ke, tp, bb, tp', hA, hT, hv, hs, hP⟩ := h
  have sp : SpV G 2 sem [.ref a, .ref b] H (fun v H' => ∃ bb, v = .bl bb ∧ P bb H') (fun _ _ _ => False) := by
    refine ⟨A, _, tp, rfl, hA, hT, hv, ?_⟩
    rw [hs]
    intro v H' kp t z
    cases z
    exact ⟨bb, rfl, hP H' kp t⟩
  have e0 := I.env0
  have e1 : Env0 X.prog X.w X.K X.mg X.base Ar X.stack s H := ⟨fr.trans e0.frames, e0.mod, e0.bs, e0.bsz, e0.funs, e0.frf, e0.hok, e0.bare⟩
  have hl := Fn.len _ _ _ _ sp
  have bd := hb s [.ref a, .ref b] I.kIn (by rw [List.append_nil]; exact hl)
  rw [List.append_nil] at bd
  refine wpAny_call (codeAny_mono (Fn.run Ar X.stack s H ⟨[.ref a, .ref b], []⟩ _ [V.ref a, V.ref b] _ _ room e1 bd (.cons rfl (.cons rfl .nil)) sp) fun r s' hq => ?_)
  match r, hq with
  | .error _, hq => exact (show False from by obtain ⟨_, _, _, _, _, _, _, _, _, _, _, _, z⟩ := hq; exact z).elim
  | .ok (.ret u), hq =>
    obtain ⟨v, H', J, rv, bb', ev, hp⟩ := I.after hq
    subst ev
    cases rv
    exact ⟨bb', H', rfl, J, hp⟩
  | .ok .next, hq => exact hq.elim
  | .ok .brk, hq => exact hq.elim
  | .ok .cont, hq => exact hq.elim
def rEqO (G : Gx) (c : Nat) (sem : Sem1) (neg : Bool) : R2 := fun x y H Q => ∃ a b dx fs dy gs, x = .ref a ∧ y = .ref b ∧ H a = some (.ins (G.ca c) dx fs) ∧ H b = some (.ins (G.ca c) dy gs) ∧ SpQ G sem (fun bb H' => Q (.bl (xor neg bb)) H') a b H
theorem op_eqO (C : Cw G k X) (E : FnE G j c ps sem) (hj : j ≤ k) : OpR X (compareOp .Eq) (rEqO G c sem false) := by
  obtain ⟨f, fd, E1, E2, E3⟩ := E.ex
  rw [← C.eP, ← C.ew, ← C.eK, ← C.em, ← C.eb] at E1
  rw [← C.eK] at E3
  have g1 := E2.find
  have g2 := E2.isf
  rw [← C.eK] at g1 g2
  intro pins s σ H x y v u Q I rx ry h
  obtain ⟨a, b, dx, fs, dy, gs, rfl, rfl, ha, hb, q⟩ := h
  cases rx
  cases ry
  obtain ⟨_, J1, _⟩ := ins_get I.hok ha
  obtain ⟨_, J2, _⟩ := ins_get I.hok hb
  obtain ⟨_, J1, _⟩ := J1.look
  obtain ⟨_, J2, _⟩ := J2.look
  obtain ⟨_, hF⟩ := I.fr
  refine PySem.W.cmp_K (op := .Eq) (tb := .ref (G.ca c)) C.room.units0 hF I.ok.mod.kin J1 J2.type (by simp [PySem.W.notFirst]) g1 g2 (wpAny_mono (run_own E1 E3 (C.roomG.mono hj) rfl I q) (fun v s' z => ?_) fun _ _ z => z)
  obtain ⟨bb, H', rfl, J, hp⟩ := z
  refine ⟨.bl bb, H', J, rfl, ?_⟩
  simpa using hp
theorem op_neO (C : Cw G k X) (E : FnE G j c ps sem) (hj : j + 1 ≤ k) : OpR X (compareOp .NotEq) (rEqO G c sem true) := by
  obtain ⟨f, fd, E1, E2, E3⟩ := E.ex
  rw [← C.eP, ← C.ew, ← C.eK, ← C.em, ← C.eb] at E1
  rw [← C.eK] at E3
  obtain ⟨nm, qn, N, bs, hd, sn, sub, ab, col, dd, k0, k1, k2, k3, k5, ni, oN, es, ep, o1, o2, o3, o4, o5, o6⟩ := E2.obj
  obtain ⟨of, o7, o8⟩ := E2.fn
  rw [← C.eK] at o1 o2 o7
  intro pins s σ H x y v u Q I rx ry h
  obtain ⟨a, b, dx, fs, dy, gs, rfl, rfl, ha, hb, q⟩ := h
  cases rx
  cases ry
  obtain ⟨_, J1, _⟩ := ins_get I.hok ha
  obtain ⟨_, J2, _⟩ := ins_get I.hok hb
  obtain ⟨_, J1, _⟩ := J1.look
  obtain ⟨_, J2, _⟩ := J2.look
  have kin := I.kIn
  have X1 : s.heap.OwnEqNoNe a (G.ca c) f "object" [.type "object"] :=
    ⟨_, of, nm, qn, N, bs, hd, sn, sub, ab, col, dd, k0, k1, k2, k3, k5, ni, nsFind es, _, J1.at_, J1.cls, kin _ _ o1, ⟨oN, es, ep, kin _ _ o2, o3, o4, fun _ => rfl⟩, o5, kin _ _ o7, o8, PySem.F.cmp_object.mro, PySem.F.cmp_object.eq.lookup, o6⟩
  have room := C.roomG
  have un := C.u64
  obtain ⟨hp, g, dr, tk, os⟩ := s
  refine compareOp_ne_ownEq PySem.F.cmp_object X1 J2.at_ J2.cls (by omega) (wpAny_mono (run_own (Ar := X.A.in1) E1 E3 ((room.mono hj).in1) rfl I q) (fun v s' z => ?_) fun _ _ z => z)
  obtain ⟨bb, H', rfl, J, hp⟩ := z
  refine ⟨bb, rfl, .bl (!bb), H', J, rfl, ?_⟩
  simpa using hp
/-- a == b, a != b of objects of the class c -/
def mEqO (c : Nat) (sem : Sem1) (neg : Bool) (ma mb : ME) : ME := fun S tp => (ma S tp).bind fun d k tp1 => (mb S tp1).bind fun e k' tp2 => match d, e with
  | .ins c1 _, .ins c2 _ => if c1 = c ∧ c2 = c then match sem [(d, k.isPk), (e, k'.isPk)] tp2 with
    | .ok (.bl b) .frz tp3 => .ok (.bl (xor neg b)) .frz tp3
    | _ => .bad
    else .bad
  | _, _ => .bad
theorem eqO_reads {neg : Bool} {Q : VK} (h : tE G W (mEqO c sem neg ma mb) σ H Q) : tOp (rEqO G c sem neg) (tE G W ma) (tE G W mb) σ H Q := by
  obtain ⟨A, S, tp, R, h⟩ := h
  refine ⟨A, S, tp, R, (OutE.bind R h).mono fun x H1 _ q => ?_⟩
  obtain ⟨d, k, tp1, r1, R1, q0⟩ := q
  refine ⟨A, S, tp1, R1, (OutE.bind R1 q0).mono fun y H2 k2 q => ?_⟩
  obtain ⟨e, k', tp2, r2, R2, z⟩ := q
  cases d with
  | ins c1 l1 =>
    cases e with
    | ins c2 l2 =>
      have z2 : OutE G W A S σ H2 Q (if c1 = c ∧ c2 = c then match sem [(.ins c1 l1, k.isPk), (.ins c2 l2, k'.isPk)] tp2 with
        | .ok (.bl b) .frz tp3 => .ok (.bl (xor neg b)) .frz tp3
        | _ => .bad
        else .bad) := z
      clear z
      split at z2
      · rename_i hc
        obtain ⟨hc1, hc2⟩ := hc
        subst hc1
        subst hc2
        cases es : sem [(.ins c2 l1, k.isPk), (.ins c2 l2, k'.isPk)] tp2 with
        | ok d kd tp3 =>
          rw [es] at z2
          cases d with
          | bl b =>
            cases kd with
            | frz =>
              obtain ⟨a1, dx, fs, rfl, h1, _⟩ := ((r1.vw R).kp R1 k2).ins
              obtain ⟨a2, dy, gs, rfl, h2, _⟩ := (r2.vw R1).ins
              have vk : VkL G H2 A [(.ins c2 l1, k.isPk), (.ins c2 l2, k'.isPk)] [.ref a1, .ref a2] := r1.vk R R1 k2 (r2.vk R1 R2 Kp.refl .nil)
              exact ⟨a1, a2, dx, fs, dy, gs, rfl, rfl, h1, h2, A, _, _, _, _, tp2, b, tp3, R2.avd, R2.tap, vk, es, fun H' kp t => z2 _ H' ⟨kp, R2.after kp t, .bl _⟩⟩
            | _ => exact z2.elim
          | _ => exact z2.elim
        | ex c f tp3 => rw [es] at z2; exact z2.elim
        | bad => rw [es] at z2; exact z2.elim
      · exact z2.elim
    | _ => exact z.elim
  | _ => exact z.elim
theorem x_eqO {a b : Expr} {pos : Pos} (C : Cw G k X) (E : FnE G j c ps sem) (hj : j ≤ k) (ha : EvE G X a ma) (hb : EvE G X b mb) : EvE G X (.Compare a [.Eq] [b] pos) (mEqO c sem false ma mb) :=
  fun W tk => (pe_cmpR (op_eqO C E hj) (ha W tk) (hb W tk) (nomark _)).imp fun _ _ _ h => eqO_reads h
theorem x_neO {a b : Expr} {pos : Pos} (C : Cw G k X) (E : FnE G j c ps sem) (hj : j + 1 ≤ k) (ha : EvE G X a ma) (hb : EvE G X b mb) : EvE G X (.Compare a [.NotEq] [b] pos) (mEqO c sem true ma mb) :=
  fun W tk => (pe_cmpR (op_neO C E hj) (ha W tk) (hb W tk) (nomark _)).imp fun _ _ _ h => eqO_reads h
theorem fnE {N ps : List Str} {q : Str} {params : Arguments} {body : List Stmt} {scope : Scope} {f : Addr} {fd : FuncData} {k : Nat} {mb : MS} (F : FunD G.K "__eq__" q params body scope [] [] f fd) (S : FnScope N ps scope) (hps : ps.length = 2) (E : EqF G c f) (b : Binds G.K fd ps [])
    (hb : ∀ (cdv : Value) (Ar : Around) (outer : List Env) (s : Shared) (H : Hp) (E : XK), Cw G k (cxG G N q scope f cdv Ar outer s H E) → EvSs G (cxG G N q scope f cdv Ar outer s H E) body mb) : FnE G (k + 1) c ps (semD N.length mb) := by
  refine ⟨f, fd, okG F S (fun vs H Q E h => ?_) (fun cdv Ar outer s H vs Q E hr h => ?_), E, b⟩
  · obtain ⟨A, ds, tp, hn, _, _, hv, _⟩ := h
    rw [← hv.length, hn, hps]
  · obtain ⟨A, ds, tp, hn, hA, hT, hv, ho⟩ := h
    have C : Cw G k (cxG G N q scope f cdv Ar outer s H E) := ⟨rfl, rfl, rfl, rfl, rfl, S.nd, hr.rm, hr.gd⟩
    refine ⟨tS G (bodyF A H) (fun cls d _ H' => E cls d H') mb, hb cdv Ar outer s H E C _ _ (takes_of rfl rfl rfl rfl), A, _, tp, (parS_rel (N := N) hA hT hv).body fun i d e => ?_, OutC.body ho⟩
    obtain ⟨b, _, h2⟩ := parS_at e
    cases b <;> cases h2
end
end PV

/-! PVz: slices, minus. -/
namespace PV
open PySem L2
open PyProof.Rows
def mNeg (m : ME) : ME := fun S tp => (m S tp).bind fun d _ tp1 => match d with
  | .int i => .ok (.int (-i)) .frz tp1
  | _ => .bad
def mInt (m : ME) : ME := fun S tp => (m S tp).bind fun d _ tp1 => match d with
  | .int i => .ok (.int i) .frz tp1
  | _ => .bad
def OutO (G : Gx) (W : WX) (A : Addr → Prop) (S : Slots) (σ : L2.St) (H : Hp) (Q : Option Int → Hp → Prop) : Ot → Prop
  | .ok .non _ tp' => ∀ H', Kp G H H' → RelS G A S tp' σ H' → Q none H'
  | .ok (.int i) _ tp' => ∀ H', Kp G H H' → RelS G A S tp' σ H' → Q (some i) H'
  | .ok _ _ _ => False
  | .ex c f tp' => ∀ cv dd H', RelS G A S tp' σ H' → Kp G H H' → ExOk G H' A c f cv dd → W cv dd σ H'
  | .bad => False
def tO (G : Gx) (W : WX) (m : ME) : TO := fun σ H Q => ∃ A S tp, RelS G A S tp σ H ∧ OutO G W A S σ H Q (m S tp)
def EvO (G : Gx) (X : Cx) (e : Option Expr) (m : ME) : Prop := ∀ W, Takes X W → PO X e (tO G W m)
def partD : D → Option (Option Int)
  | .non => some none
  | .int i => some (some i)
  | _ => none
def cutD (l : List D) (lo hi : Option Int) : List D := (l.drop (HT.sIx l.length 0 lo)).take (HT.sIx l.length l.length hi - HT.sIx l.length 0 lo)
def fSl (d : D) (lo hi : Option Int) : Option (D × Kd) := match d with
  | .lst l => some (.lst (cutD l lo hi), .fr)
  | .scr l => some (.lst (cutD l lo hi), .fr)
  | .tup l => some (.tup (cutD l lo hi), .frz)
  | _ => none
/-- e[lo:hi] -/
def mSl (m ml mh : ME) : ME := fun S tp => (m S tp).bind fun d _ tp1 => (ml S tp1).bind fun a _ tp2 => match partD a with
  | none => .bad
  | some lo => (mh S tp2).bind fun b _ tp3 => match partD b with
    | none => .bad
    | some hi => ofO (fSl d lo hi) tp3
section
variable {G : Gx} {X : Cx} {A A' : Addr → Prop} {S : Slots} {tp tp' : Tp} {σ : L2.St} {H H' H1 : Hp} {W : WX} {d : D} {v : V}
theorem _root_.L2.PO.imp {e : Option Expr} {t t' : TO} (h : PO X e t) (hi : ∀ σ H Q, t' σ H Q → t σ H Q) : PO X e t' := ⟨fun pins s σ H Q I q => h.run pins s σ H Q I (hi _ _ _ q)⟩
theorem x_neg {a : Expr} {m : ME} {pos : Pos} (ha : EvE G X a m) : EvE G X (.UnaryOp .USub a pos) (mNeg m) := by
  refine fun W tk => (pe_un un_neg (ha W tk)).imp fun σ H Q ⟨A, S, tp, R, h⟩ => ⟨A, S, tp, R, (OutE.bind R h).mono fun v H1 _ q => ?_⟩
  obtain ⟨d, k, tp1, r, R1, q⟩ := q
  cases d with
  | int i => exact ⟨i, (r.vw R).int, q _ _ ⟨Kp.refl, R1, .int _⟩⟩
  | _ => exact q.elim
theorem o_none : EvO G X none (mC .non) := fun W tk => po_none.imp fun σ H Q ⟨A, S, tp, R, h⟩ => h H Kp.refl R
theorem o_some {e : Expr} {m : ME} (he : EvE G X e m) : EvO G X (some e) (mInt m) := by
  refine fun W tk => (po_some (he W tk)).imp fun σ H Q ⟨A, S, tp, R, h⟩ => ⟨A, S, tp, R, ?_⟩
  unfold mInt at h
  revert h
  cases m S tp with
  | ok d k tp1 =>
    intro h v H1 r
    cases d with
    | int i => exact ⟨i, (r.vw R).int, h H1 r.1 (r.rel R)⟩
    | _ => exact h.elim
  | ex c f tp1 => exact fun h => h
  | bad => exact fun h => h
theorem FzL.cut {ds : List D} {xs : List V} (r : FzL G H A ds xs) (lo hi : Option Int) : FzL G H A (cutD ds lo hi) (cutV xs lo hi) := by
  unfold cutD cutV
  rw [r.length]
  exact (r.drop _).take _
theorem cutD_all {l : List D} {lo hi : Option Int} (h : HT.sIx l.length 0 lo = 0 ∧ HT.sIx l.length l.length hi = l.length) : cutD l lo hi = l := by
  unfold cutD
  rw [h.1, h.2]
  simp
def rSlV (G : Gx) : V → Option Int → Option Int → Hp → VK → Prop := fun x lo hi H Q => ∃ A d r k, Avd A H ∧ Vw G H A d x ∧ fSl d lo hi = some (r, k) ∧ ∀ v H', RsV G A H H' r k v → Q v H'
theorem v_sl (hK : X.K = G.K) : SlR X (rSlV G) := by
  intro pins s σ H x v vl vu lo hi sl Q I rx hs pl pu h
  obtain ⟨A, d, r, k, hA, h1, hf, q⟩ := h
  cases d with
  | lst l =>
    cases hf
    obtain ⟨a, xs, rfl, ha, r1⟩ := h1.lst
    exact sl_list pins s σ H _ v vl vu lo hi sl Q I rx hs pl pu ⟨a, xs, rfl, .of ha, fun p hp => q _ _ (.lst hp (r1.cut lo hi))⟩
  | scr l =>
    cases hf
    rcases h1 with h1 | ⟨_, _, _, _, h1⟩
    · cases h1 with
      | @scr a xs _ h r1 => exact sl_list pins s σ H _ v vl vu lo hi sl Q I rx hs pl pu ⟨a, xs, rfl, by rw [hK]; exact h.sq, fun p hp => q _ _ (.lst hp (r1.cut lo hi))⟩
    · exact h1.elim
  | tup l =>
    cases hf
    obtain ⟨a, xs, rfl, ha, r1⟩ := h1.tup
    refine sl_tupA pins s σ H _ v vl vu lo hi sl Q I rx hs pl pu ⟨a, xs, rfl, by rw [hK]; exact ha.sq, fun z => ?_, fun _ p hp => q _ _ (.tup hA hp (r1.cut lo hi))⟩
    rw [← r1.length] at z
    rw [cutD_all z] at q
    exact q _ _ (.frz (.tup ha r1))
  | _ => cases hf
theorem OutO.mono {Q Q' : Option Int → Hp → Prop} {o : Ot} (h : OutO G W A S σ H Q o) (hq : ∀ p H', Q p H' → Q' p H') : OutO G W A S σ H Q' o := by
  cases o with
  | ok d k tp' =>
    cases d with
    | non => exact fun H' kp r => hq _ _ (h H' kp r)
    | int i => exact fun H' kp r => hq _ _ (h H' kp r)
    | _ => exact h.elim
  | ex c f tp' => exact h
  | bad => exact h
theorem OutE.bindO {Qv : VK} {o : Ot} {f : D → Kd → Tp → Ot} (R : RelS G A S tp σ H) (h : OutE G W A S σ H Qv (o.bind f)) (hf : ∀ d k tp', partD d = none → f d k tp' = .bad) :
    OutO G W A S σ H (fun p H1 => ∃ d k tp1, partD d = some p ∧ Kp G H H1 ∧ RelS G A S tp1 σ H1 ∧ OutE G W A S σ H1 Qv (f d k tp1)) o := by
  cases o with
  | ok d k tp' =>
    cases d with
    | non => exact fun H' kp r => ⟨_, k, tp', rfl, kp, r, OutE.of r kp h⟩
    | int i => exact fun H' kp r => ⟨_, k, tp', rfl, kp, r, OutE.of r kp h⟩
    | _ =>
      have h : OutE G W A S σ H Qv (f _ k tp') := h
      rw [hf _ _ _ rfl] at h
      exact h.elim
  | ex c f tp' => exact h
  | bad => exact h
theorem x_sl {e : Expr} {lo hi : Option Expr} {m ml mh : ME} {p2 pos : Pos} (hK : X.K = G.K) (he : EvE G X e m) (hl : EvO G X lo ml) (hh : EvO G X hi mh) : EvE G X (.Subscript e (.Slice lo hi none p2) pos) (mSl m ml mh) := by
  refine fun W tk => (pe_slice (v_sl hK) (he W tk) (hl W tk) (hh W tk)).imp fun σ H Q ⟨A, S, tp, R, h⟩ => ⟨A, S, tp, R, (OutE.bind R h).mono fun x H1 _ q => ?_⟩
  obtain ⟨d, k, tp1, r, R1, q1⟩ := q
  have z1 := OutE.bindO R1 q1 fun a k' tp' ha => by rw [ha]
  refine ⟨A, S, tp1, R1, OutO.mono z1 fun lo' H2 z => ?_⟩
  obtain ⟨a, ka, tp2, ea, k2, R2, q2⟩ := z
  rw [ea] at q2
  have z2 := OutE.bindO R2 q2 fun b k' tp' hb => by rw [hb]
  refine ⟨A, S, tp2, R2, OutO.mono z2 fun hi' H3 z => ?_⟩
  obtain ⟨b, kb, tp3, eb, k3, R3, q3⟩ := z
  rw [eb] at q3
  have q3 : OutE G W A S σ H3 Q (ofO (fSl d lo' hi') tp3) := q3
  unfold ofO at q3
  split at q3
  · rename_i r' kk ef
    exact ⟨A, d, r', kk, R3.avd, ((r.vw R).kp R1 k2).kp R2 k3, ef, fun v H' rs => q3 v H' (rs.res R3)⟩
  · exact q3.elim
end
end PV

/-! PWa: targets x[i] within a pattern. -/
namespace PV
open PySem L2
/-- an index that leaves the tape as it is -/
def Quiet (m : ME) : Prop := ∀ S tp, m S tp = match m S [] with
  | .ok n k _ => .ok n k tp
  | .ex c f _ => .ex c f tp
  | .bad => .bad
theorem quiet_nm (i : Nat) : Quiet (mNm i) := fun S tp => by
  unfold mNm
  cases S[i]? with
  | none => rfl
  | some x =>
    cases x with
    | none => rfl
    | some y =>
      obtain ⟨d, fl⟩ := y
      cases fl <;> rfl
theorem quiet_c (d : D) : Quiet (mC d) := fun _ _ => rfl
def pSetI (i : Nat) (mi : ME) : D → Slots → Option Slots := fun d S => match mi S [] with
  | .ok n _ _ => stI S i n d
  | _ => none
/-! ### targets that may write owned lists -/
def tR (G : Gx) (F : Fm) (m : D → Slots → Option Slots) : TG := fun v σ H Q => ∃ A S tp d S', RelF G F A S tp σ H ∧ Fz G H A d v ∧ m d S = some S' ∧ ∀ σ' H', RelF G F A S' tp σ' H' → (∀ b o, H b = some o → ¬ A b → H' b = some o) → Q σ' H'
def tRs (G : Gx) (F : Fm) (m : List D → Slots → Option Slots) : TGs := fun vs σ H Q => ∃ A S tp ds S', RelF G F A S tp σ H ∧ FzL G H A ds vs ∧ m ds S = some S' ∧ ∀ σ' H', RelF G F A S' tp σ' H' → (∀ b o, H b = some o → ¬ A b → H' b = some o) → Q σ' H'
def EvR (G : Gx) (X : Cx) (t : Expr) (m : D → Slots → Option Slots) : Prop := ∀ F, PG X t (tR G F m)
def EvRs (G : Gx) (X : Cx) (ts : List Expr) (m : List D → Slots → Option Slots) : Prop := ∀ F, PGs X ts (tRs G F m)
section
variable {G : Gx} {X : Cx} {F : Fm} {A A' : Addr → Prop} {S S' : Slots} {tp tp' : Tp} {σ σ' : L2.St} {H H' H1 : Hp} {W : WX} {d : D} {k : Kd} {v : V}
theorem EvP.r {t : Expr} {m : D → Slots → Option Slots} (h : EvP G X t m) : EvR G X t m := fun F => (h F).imp fun v σ H Q ⟨A, S, tp, d, S', R, hz, e, q⟩ => ⟨A, S, tp, d, S', R, hz, e, fun σ' R' => q σ' H R' fun _ _ z _ => z⟩
theorem r_setI (i : Nat) {x : Str} {ei : Expr} {mi : ME} {p1 p2 : Pos} (hN : X.N[i]? = some x) (hv : Vis X.env.scope x) (hi : EvE G X ei mi) (hq : Quiet mi)
    (ha : ∀ v, assign (.Subscript (.Name x p1) ei p2) X.env v = (do let ov ← holding [v] (eval (.Name x p1) X.env); let iv ← holding [v, ov] (eval ei X.env); standAt p2; holding [v, ov, iv] (setItem ov iv v); release [v, ov, iv] []) := by intro _; rfl)
    (hd : (x == ("__debug__" : Str)) = false := by decide) (hcd : (x == ("__classdict__" : Str)) = false := by decide) : EvR G X (.Subscript (.Name x p1) ei p2) (pSetI i mi) := by
  refine fun F => (pg_sub (pe_var (i := i) hN hv hd hcd) (hi (fun _ _ _ _ => False) takes0) set_list ha).imp fun v σ H Q ⟨A, S, tp, d, S', R, hz, e, q⟩ => ?_
  unfold pSetI at e
  have hm := hq S tp
  cases em : mi S [] with
  | ok n k tq =>
    rw [em] at e hm
    obtain ⟨l, z, j, e1, rfl, e4, rfl⟩ := stI_eq e
    obtain ⟨a, q1, qA, qn, _⟩ := R.rel.own i _ _ (by decide) e1
    refine ⟨_, q1, A, S, tp, R.rel, ?_⟩
    rw [hm]
    intro iv H2 r2
    have R2 := R.after r2.1 (r2.rel R.rel)
    have ez : iv = V.int z := (r2.vw R.rel).int
    obtain ⟨b, q1', _, _, xs, q2, q3⟩ := R2.rel.own i _ _ (by decide) e1
    rw [q1] at q1'; cases q1'
    have hz2 : Fz G H2 A d v := hz.kp R.rel r2.1
    have up : ∀ b o, H2 b = some o → ¬ A b → upd H2 a (.lst (xs.set j v)) b = some o := fun b o w n => by
      rw [upd_ne fun z => n (by rw [z]; exact qA)]; exact w
    exact ⟨a, xs, z, j, rfl, ez, q2, by rw [← q3.length]; exact e4, q _ _ (R2.write i e1 q1 ⟨xs.set j v, upd_same, (FzL.set hz2 j q3).ext' up fun _ w => .inl w⟩) fun b o w n => up b o (R.rel.stay r2.1 b o w n) n⟩
  | ex c f tq => rw [em] at e; cases e
  | bad => rw [em] at e; cases e
theorem r_nil : EvRs G X [] pNil := fun F => ⟨fun pins s σ H vs us Q I r ⟨A, S, tp, ds, S', R, h, e, q⟩ => by
  unfold pNil at e
  split at e
  · cases e
    cases h
    exact pgs_nil.run pins s σ H [] us Q I r ⟨rfl, q σ H R fun _ _ z _ => z⟩
  · cases e⟩
theorem r_cons {t : Expr} {ts : List Expr} {p : D → Slots → Option Slots} {ps : List D → Slots → Option Slots} (h1 : EvR G X t p) (h2 : EvRs G X ts ps)
    (hs : (assignEach (t :: ts) X.env).map (·.2) = assign t X.env :: (assignEach ts X.env).map (·.2) := by rfl) : EvRs G X (t :: ts) (pCons p ps) := fun F => ⟨fun pins s σ H vs us Q I r ⟨A, S, tp, ds, S', R, h, e, q⟩ => by
  unfold pCons at e
  cases h with
  | nil => cases e
  | @cons d ds v vs h t =>
    have e : (p d S).bind (ps ds) = some S' := e
    cases e1 : p d S with
    | none => rw [e1] at e; cases e
    | some S1 =>
      rw [e1] at e
      exact (pgs_cons (h1 F) (h2 F) hs).run pins s σ H _ us Q I r ⟨v, vs, rfl, A, S, tp, d, S1, R, h, e1, fun σ1 H1 R1 k1 => ⟨A, S1, tp, ds, S', R1, t.ext' k1 (fun _ z => .inl z), e, fun σ2 H2 R2 k2 => q σ2 H2 R2 fun b o z n => k2 b o (k1 b o z n) n⟩⟩⟩
theorem r_tup {ts : List Expr} {k : Nat} {pos : Pos} {ps : List D → Slots → Option Slots} {n : Nat} (hK : X.K = G.K) (hc : X.calm = true) (h : EvRs G X ts ps) (hl : ∀ ds S S', ps ds S = some S' → ds.length = n)
    (hn : (assignEach ts X.env).length = n := by rfl) (hst : (assignEach ts X.env).findIdx? (·.1) = none := by rfl) : EvR G X (.Tuple ts k pos) (pTup ps) := by
  refine fun F => (pg_tup hc (h F) hn hst).imp fun v σ H Q ⟨A, S, tp, d, S', R, hz, e, q⟩ => ?_
  unfold pTup at e
  split at e
  · rename_i ds
    cases hz with
    | @tup a xs _ ha r => exact ⟨a, xs, rfl, by rw [hK]; exact ha.sq, by rw [← r.length]; exact hl _ _ _ e, A, S, tp, ds, S', R, r, e, q⟩
  · cases e
theorem s_asgR {t e : Expr} {m : ME} {p : D → Slots → Option Slots} {pos : Pos} (he : EvE G X e m) (hp : EvR G X t p) (hs : swapsWithSole [t] e pos.line X.env = pure false := by rfl) (hw : swappedStores [t] e X.env = pure none := by rfl) (h1 : (assignEach [t] X.env).map (·.2) = [assign t X.env] := by rfl) : EvS G X (.Assign [t] e pos) (mAsgP m p) := by
  refine fun F W tk => (ps_asg (he W tk) (hp F) hs hw h1).imp fun De σ H ⟨A, S, tp, R, h⟩ => ⟨A, S, tp, R.rel, ?_⟩
  unfold mAsgP at h
  revert h
  cases m S tp with
  | ok d k tp' =>
    intro h v H' r
    have hk : k ≠ .pk := fun z => by subst z; exact h.elim
    have hz := r.fz R.rel hk
    have R1 := R.after r.1 (r.rel R.rel)
    have h : OutS G F W De (match p d S with | some S' => .nx S' tp' | none => .bad) := by
      cases k with
      | pk => exact absurd rfl hk
      | frz => exact h
      | fr => exact h
    split at h
    · rename_i S' e
      exact ⟨A, S, tp', d, S', R1, hz, e, fun σ' H2 R' _ => h A σ' H2 R'⟩
    · exact h.elim
  | ex c f tp' => exact fun h cv dd H' r kp x => h A cv dd σ H' (R.after kp r) x
  | bad => exact fun h => h
end
end PV

/-! PWb: {k: v}, {}. -/
namespace PV
open PySem L2
def keyOf : D → Option Key
  | .int i => some (.inl i)
  | .str x => some (.inr x)
  | _ => none
/-- {k: v} -/
def mDct1 (mk mv : ME) : ME := fun S tp => (mk S tp).bind fun d _ tp1 => match keyOf d with
  | none => .bad
  | some _ => (mv S tp1).bind fun e k' tp2 => if k'.isPk then .bad else .ok (.dct [d] [e]) .fr tp2
section
variable {G : Gx} {X : Cx} {A A' : Addr → Prop} {S : Slots} {tp tp' : Tp} {σ : L2.St} {H H' H1 : Hp} {W : WX} {d : D} {v : V}
theorem RelS.updA (R : RelS G A S tp σ H) {p : Addr} {o : HO} [hN : Nco o] (hp : A p) (hu : Unu S σ p) (ht : ¬ G.gm p) : RelS G A S tp σ (upd H p o) := by
  have ke : ∀ b u, H b = some u → ¬ A b → upd H p o b = some u := fun b u q n => by
    rw [upd_ne fun z => n (by rw [z]; exact hp)]; exact q
  have nn : ∀ c, A c → A c ∨ H c = none := fun c q => .inl q
  refine ⟨R.len, fun i d q => ?_, fun i d fl n q => ?_, R.dis, fun a q => ?_, fun a q => ?_⟩
  · obtain ⟨w, h1, h2⟩ := R.frz i d q
    exact ⟨w, h1, h2.ext' ke nn⟩
  · obtain ⟨a, h1, h2, h3, h4⟩ := R.own i d fl n q
    exact ⟨a, h1, h2, h3, h4.ext' (upd_ne fun z => hu i d fl n q (by rw [h1, z])) ke nn⟩
  · by_cases z : a = p
    · rw [z]; exact ⟨_, upd_same, hN⟩
    · rw [upd_ne z]; exact R.avd a q
  · obtain ⟨h1, xs, h2, h3⟩ := R.tap a q
    exact ⟨h1, xs, by rw [upd_ne fun z => ht (by rw [← z]; exact q)]; exact h2, h3.ext' ke nn⟩
theorem keyOf_kV {H : Hp} {A : Addr → Prop} {k : Key} (h : keyOf d = some k) (hv : Vw G H A d v) : v = kV k ∧ keyD k = d := by
  cases d with
  | int i => cases h; exact ⟨hv.int, rfl⟩
  | str x => cases h; exact ⟨hv.str, rfl⟩
  | _ => cases h
theorem x_dct1 {ek ev : Expr} {mk mv : ME} {pos : Pos} (hk : EvE G X ek mk) (hv : EvE G X ev mv) : EvE G X (.Dict [some ek] [ev] pos) (mDct1 mk mv) := by
  refine fun W tk => (pe_disp (pps_cons (hk W tk) (hv W tk) pps_nil) rfl rfl (fun z => nomatch z) (Nat.le_add_left 1 14)).imp fun σ H Q ⟨A, S, tp, R, h⟩ => fun p hp => ?_
  have R0 := R.add (p := p) (H' := upd H p (.dK [])) (fun b u q => by rw [upd_ne (ne_of_none q hp)]; exact q) hp ⟨_, upd_same, inferInstance⟩
  have hnt : ¬ G.gm p := fun z => by
    obtain ⟨_, xs, h1, _⟩ := R.tap p z
    rw [hp] at h1; cases h1
  have hu := R.unu hp
  have hk0 : Kp G H (upd H p (.dK [])) := Kp.alloc hp
  unfold mDct1 at h
  refine ⟨adA A p, S, tp, R0, ?_⟩
  revert h
  cases mk S tp with
  | ok d k tp1 =>
    intro h x H1 r1
    have h : OutE G W A S σ H Q (match keyOf d with
      | none => .bad
      | some _ => (mv S tp1).bind fun e k' tp2 => if k'.isPk then .bad else .ok (.dct [d] [e]) .fr tp2) := h
    cases ek : keyOf d with
    | none => rw [ek] at h; exact h.elim
    | some key =>
      rw [ek] at h
      obtain ⟨ex, ed⟩ := keyOf_kV ek (r1.vw R0)
      have R1 := r1.rel R0
      refine ⟨adA A p, S, tp1, R1, ?_⟩
      have h : OutE G W A S σ H Q ((mv S tp1).bind fun e k' tp2 => if k'.isPk then .bad else .ok (.dct [d] [e]) .fr tp2) := h
      revert h
      cases mv S tp1 with
      | ok e k' tp2 =>
        intro h y H2 r2
        have h : OutE G W A S σ H Q (if k'.isPk then .bad else .ok (.dct [d] [e]) .fr tp2) := h
        split at h
        · exact h.elim
        · rename_i hpk
          have hk' : k' ≠ .pk := fun z => hpk (by rw [z]; rfl)
          have R2 := r2.rel R1
          have kp2 := r1.1.trans r2.1
          have hp2 : H2 p = some (.dK []) := kp2 _ _ upd_same hnt
          have hz := r2.fz R1 hk'
          refine ⟨hp2, [(key, y)], by rw [ex]; rfl, Nat.le_add_left 1 14, ?_⟩
          have R3 := R2.updA (o := .dK (mergeK [] [(key, y)])) (.inr rfl) hu hnt
          refine h _ _ ⟨fun b o q n => ?_, p, rfl, hp, R3, [(key, y)], upd_same, by rw [← ed]; rfl, .cons ?_ .nil⟩
          · have hb := ne_of_none q hp
            rw [upd_ne hb]
            exact kp2 b o (by rw [upd_ne hb]; exact q) n
          · exact hz.ext' (fun b u q n => by rw [upd_ne fun z => n (.inr z)]; exact q) fun _ z => .inl z
      | ex c f tp2 =>
        intro h cv dd H' r kp x
        have kk := hk0.trans (r1.1.trans kp)
        exact h cv dd H' (R.kp kk fun a q => (adA_tap (A' := adA A p) R r.tap (fun _ z => .inl z) a q).2) kk (x.mono fun _ z => .inl z)
      | bad => exact fun h => h
  | ex c f tp1 =>
    intro h cv dd H' r kp x
    have kk := hk0.trans kp
    exact h cv dd H' (R.kp kk fun a q => (adA_tap (A' := adA A p) R r.tap (fun _ z => .inl z) a q).2) kk (x.mono fun _ z => .inl z)
  | bad => exact fun h => h
def mDct0 : ME := fun _ tp => .ok (.dct [] []) .fr tp
theorem x_dct0 {pos : Pos} : EvE G X (.Dict [] [] pos) mDct0 := by
  refine fun W tk => pe_dnewK.imp fun σ H Q ⟨A, S, tp, R, h⟩ => fun p hp => h _ _ ⟨Kp.alloc hp, p, rfl, hp, R.add (fun b u q => by rw [upd_ne (ne_of_none q hp)]; exact q) hp ⟨_, upd_same, inferInstance⟩, [], upd_same, rfl, .nil⟩
end
end PV

/-! PWc: super().__init__(text) in an error's __init__, by the model's own words. -/
namespace PV
open PySem PySem.W PySem.Calls PyProof.Rows PySem.HandSPX
/-- what the written part says of the error class C: its __init__ at f (its closure's one cell at cc), the code at cda -/
structure XcF (prog : Program) (K : Frag) (C f cc cda : Addr) (qual : Str) (params : Arguments) (body : List Stmt) (scope : Scope) : Prop where
  cls : ∃ nm q N bs bm sn sub ab col dd k0 k1 k2 k3 k5, K.lookup C = some (excClassObj nm q C N bs bm true sn sub ab col dd k0 k1 k2 k3 k5 "ValueError.__new__") ∧ refsVE bm = true ∧ alongIn K "__init__" bm = some (some (.builtin "ValueError.__init__"))
  iC : findIn K (.ref C) "__init__" = some (some (.ref f))
  tC : typeIn K (.ref f) = some (.type "function")
  fn : ∃ (oc : Value) (od : Option Addr) (doc pm : Value) (an : Option Addr) (ct : Value) (osl : Array (Option Value)), K.lookup f = some ⟨oc, od, .func (ksFn "__init__" qual params body scope .none .none doc pm an (.ref cda) ct cc), osl⟩
  code : codeIn K (.ref cda) qual = true
  file : ∃ (ccl : Value) (cdd : Option Addr) (vs : Array Value) (ccs : Array (Option Value)) (fl : Str) (tf : Tok), K.lookup cda = some ⟨ccl, cdd, .fields vs, ccs⟩ ∧ vs[2]? = some (.str fl tf) ∧ ((prog.main.file : Str) == fl) = true
  cell : ∃ (cl : Value) (cld : Option Addr) (csl : Array (Option Value)), K.lookup cc = some ⟨cl, cld, .cell (some (.ref C)), csl⟩
  sup : nsIn K mainGlobals "super" = some none
  opq : nsIn K cStatics "thirdparty.any" = some none
  sve : subIn K (.ref C) (.type "ValueError") = some true
  self : mroIn K C (.ref C) = some true
  top : (prog.main.scope.names.lookup ("super" : Str)).isSome = false
section
variable {prog : Program} {w : World} {A : Around} {E : Value → Shared → Prop} {s : Shared} {K : Frag} {C f cc cda L x t0 : Addr} {qual msg : Str} {params : Arguments} {body : List Stmt} {scope : Scope} {mg mb m : Str → Option Value} {ar : Arg}
theorem mw_call {u : Addr} {rest : List Value} {Q : Value → Shared → Prop} {nm q : Str} {N : Addr} {bs bm : List Value} {hd : Bool} {sn : List Str} {sub : List Value} {ab : Bool} {col : Option Bool} {dd : Option Addr} {k0 k1 k2 k3 k5 : Option Value}
    (hC : s.heap.get? C = some (excClassObj nm q C N bs bm hd sn sub ab col dd k0 k1 k2 k3 k5 "ValueError.__new__")) (hx : s.heap.get? x = some (excO C t0)) (hu : s.heap.get? u = some (kxs_mw "ValueError.__init__" x)) (hz : rest.length ≤ sizeLine)
    (hq : ∀ h' t1, (∀ b o, b ≠ x → s.heap.get? b = some o → h'.get? b = some o) → h'.get? x = some (excO C t1) → Q .none { s with heap := h' }) : wpAny (model prog w) A (call (.ref u) rest) Q E s := by
  obtain ⟨hh, g, d, tk, os⟩ := s
  have yes : (Value.type "method-wrapper" == Value.type "method" || Value.type "method-wrapper" == Value.type "builtin_function_or_method" || Value.type "method-wrapper" == Value.type "method-wrapper") = true := by decide
  refine wpAny_call (codeAny_of_tree (show wpAny _ A.in1 (callAny (.ref u) ⟨rest, []⟩) _ _ _ from ?_))
  simp only [callAny]
  refine wpAny_bind (wpAny_load hu ?_)
  simp only [kxs_mw, yes, if_true]
  refine KFB.if_so (by decide) (wpAny_bind (check_bound_init F.excBase_ValueError.toExcCallFacts hC hx rfl (wpAny_bind (wpAny_pure (wpAny_pure ⟨plainId_quiet F.excBase_ValueError.init.plain _, codeAny_builtin F.excBase_ValueError.initEntry ?_⟩)))))
  exact exc_init_tree (cls := .ref C) (t0 := t0) (dv := none) (c2 := .none) (c3 := .none) (b4 := .bool false) hx hz fun h' k e _ => hq h' _ k e
theorem sup_call {body' : List Stmt} {j : Nat} {p0 p1 p2 p3 p4 p5 : Pos} {pl : Sem Bool} {Q : Flow → Shared → Prop}
    (he : eval (.Call (.Attribute (.Call (.Name "super" p0) [] [] p1) "__init__" p2) [.Constant (.str msg) j p3] [] p4) (ksEnv qual scope L f (.ref cda) cc) = (do let ov ← attributeBase (.Call (.Name "super" p0) [] [] p1) "__init__" (ksEnv qual scope L f (.ref cda) cc) (eval (.Call (.Name "super" p0) [] [] p1) (ksEnv qual scope L f (.ref cda) cc)); standAt p2.atName; let (g, first) ← holding [ov] (getMethod ov "__init__" pl); callWith p4 g first (backTo p4 (starEach [.Constant (.str msg) j p3] (ksEnv qual scope L f (.ref cda) cc))) []))
    (hi : interactive (ksEnv qual scope L f (.ref cda) cc) = false) (hsw : swapsWith (.Call (.Attribute (.Call (.Name "super" p0) [] [] p1) "__init__" p2) [.Constant (.str msg) j p3] [] p4) none p5.line (ksEnv qual scope L f (.ref cda) cc) = pure false)
    (hst : backTo p4 (starEach [.Constant (.str msg) j p3] (ksEnv qual scope L f (.ref cda) cc)) = [(false, eval (.Constant (.str msg) j p3) (ksEnv qual scope L f (.ref cda) cc))]) (T : XcF prog K C f cc cda qual params body scope) (X : K.In s.heap) (hg : s.heap.Ns mainGlobals mg) (hmg : mg "super" = none) (hb : s.heap.Ns builtinsNs mb) (hmb : mb "super" = some (.type "super"))
    (hp : (params.posonlyargs ++ params.args).head? = some ar) (hns : s.heap.Ns L m) (hv : m ar.arg = some (.ref x)) (hx : s.heap.get? x = some (excO C t0))
    (hks : scope.names.lookup ("super" : Str) = some .globalImplicit) (hkc : scope.names.lookup ("__class__" : Str) = some .free) (hka : scope.names.lookup ar.arg = some .local) (hk : scope.kind = .function)
    (hq : ∀ h' tk t1, (∀ b o, b ≠ x → s.heap.get? b = some o → h'.get? b = some o) → h'.get? x = some (excO C t1) → Q .next { s with heap := h', toks := tk }) :
    _root_.PySem.wpAt (model prog w) A (.func body' (ksEnv qual scope L f (.ref cda) cc)) (exec (.Expr (.Call (.Attribute (.Call (.Name "super" p0) [] [] p1) "__init__" p2) [.Constant (.str msg) j p3] [] p4) p5) (ksEnv qual scope L f (.ref cda) cc)) Q E s := by
  obtain ⟨nm, q, N, bs, bm, sn, sub, ab, col, dd, k0, k1, k2, k3, k5, hC, hbm, hal⟩ := T.cls
  obtain ⟨oc, od, doc, pm, an, ct, osl, lk⟩ := T.fn
  obtain ⟨ccl, cdd, vs, ccs, fl, tf, lc, hvs, hfile⟩ := T.file
  obtain ⟨cl, cld, csl, lcell⟩ := T.cell
  have hcl : clsIn K C = some { name := nm, bases := bs, mro := .ref C :: bm, ns := N, qualname := q, hasDict := true, slotNames := sn, subclasses := sub, abstract := ab, collection := col, hasDel := false } := by unfold clsIn; rw [hC] <;> rfl
  have I : InstAt s.heap x (excO C t0) C none := ⟨hx, rfl, rfl, trivial⟩
  refine ks_wpAt_Expr_any (ks_wpAt_MethodCall (pl := pl) ?_ he) hi hsw
  refine ks_wpAt_super_base (env := ksEnv qual scope L f (.ref cda) cc) hks hkc rfl rfl (X _ _ lk) rfl hp rfl (X _ _ lc) rfl hvs hfile T.top ?_
  refine ks_loadName_global hk hks (loadGlobal_builtin (env := ksEnv qual scope L f (.ref cda) cc) hg hmg hb hmb ⟨rfl, ?_⟩)
  refine wpAny_loadName_free hk hkc rfl ⟨_, X _ _ lcell, rfl⟩ (wpAny_loadName_local hk hka hns hv ?_)
  refine ks_wpAny_isType_cls (X _ _ hC) rfl ⟨rfl, ?_⟩
  obtain ⟨hh, g, d, tk, os⟩ := s
  refine ks_wpAny_call_super (X _ _ hC) rfl hx rfl (fun c z => nomatch z) (looks_mroIn X T.self) fun h1 e1 k1' => ?_
  have X1 := X.keeps k1'
  have hx1 := k1' _ _ hx
  have I1 : InstAt h1 x (excO C t0) C none := ⟨hx1, rfl, rfl, trivial⟩
  refine kxs_getMethod kxs_ValueError e1 (looks_opaque X1 T.opq) (l₀ := .ref C :: bm) (l := bm) (fun A Q E s k q => wpAny_bind ((looks_clsIn X1 hcl) A _ E s k (wpAny_pure q))) (by simp [List.dropWhile_cons]) X1 hal (I1.type.andThen (looks_subIn X1 T.sve)) (ks_ne X1 I1 hcl) rfl ?_
  show wpAny _ _ (callWith p4 (.ref h1.objs.size) [] (backTo p4 (starEach [.Constant (.str msg) j p3] (ksEnv qual scope L f (.ref cda) cc))) []) _ _ _
  rw [hst]
  have hu : (h1.push (kxs_mw "ValueError.__init__" x)).get? h1.objs.size = some (kxs_mw "ValueError.__init__" x) := Heap.get?_push_size _ rfl
  refine kxs_callWith (i := "ValueError.__init__") (x := x) rfl (evalArgs_plain ?_)
  refine spliced_cons (Constant_str (spliced_nil ⟨hu, ?_⟩))
  have up : ∀ b o, h1.get? b = some o → (h1.push (kxs_mw "ValueError.__init__" x)).get? b = some o := fun b o e => Heap.get?_push_of_some _ e
  refine mw_call (x := x) (t0 := t0) (up _ _ (X1 _ _ hC)) (up _ _ hx1) hu ?_ fun h' t1 k e => hq h' _ t1 (fun b o hb e' => k b o hb (up b o (k1' b o e'))) e
  show 1 ≤ sizeLine
  rw [sizeLine_eq]
  exact Nat.le_add_left 1 _
end
end PV

/-! PWd: errors whose __init__ says super().__init__(text), without and with a field, are made and raised. -/
namespace PV
open PySem PySem.W PySem.Calls PyProof.Rows PySem.HandSPX
/-- st says super().__init__(text), at whatever frame -/
def SupSt (qual : Str) (scope : Scope) (f cda cc : Addr) (st : Stmt) : Prop := ∃ (msg : Str) (j : Nat) (p0 p1 p2 p3 p4 p5 : Pos), st = .Expr (.Call (.Attribute (.Call (.Name "super" p0) [] [] p1) "__init__" p2) [.Constant (.str msg) j p3] [] p4) p5 ∧ ∀ L : Addr,
  (∃ pl : Sem Bool, eval (.Call (.Attribute (.Call (.Name "super" p0) [] [] p1) "__init__" p2) [.Constant (.str msg) j p3] [] p4) (ksEnv qual scope L f (.ref cda) cc) = (do let ov ← attributeBase (.Call (.Name "super" p0) [] [] p1) "__init__" (ksEnv qual scope L f (.ref cda) cc) (eval (.Call (.Name "super" p0) [] [] p1) (ksEnv qual scope L f (.ref cda) cc)); standAt p2.atName; let (g, first) ← holding [ov] (getMethod ov "__init__" pl); callWith p4 g first (backTo p4 (starEach [.Constant (.str msg) j p3] (ksEnv qual scope L f (.ref cda) cc))) [])) ∧
  interactive (ksEnv qual scope L f (.ref cda) cc) = false ∧ swapsWith (.Call (.Attribute (.Call (.Name "super" p0) [] [] p1) "__init__" p2) [.Constant (.str msg) j p3] [] p4) none p5.line (ksEnv qual scope L f (.ref cda) cc) = pure false ∧
  backTo p4 (starEach [.Constant (.str msg) j p3] (ksEnv qual scope L f (.ref cda) cc)) = [(false, eval (.Constant (.str msg) j p3) (ksEnv qual scope L f (.ref cda) cc))]
section
variable {prog : Program} {w : World} {A : Around} {E : Value → Shared → Prop} {s : Shared} {K : Frag} {C f cc cda x t0 : Addr} {qual : Str} {params : Arguments} {st : Stmt} {scope : Scope} {mg mb : Str → Option Value} {ar : Arg} {R : Result → Shared → Prop}
theorem xc_init0 (T : XcF prog K C f cc cda qual params [st] scope) (Z : SupSt qual scope f cda cc st) (X : K.In s.heap) (hlim : s.heap.NoLimit) (hg : s.heap.Ns mainGlobals mg) (hmg : mg "super" = none) (hb : s.heap.Ns builtinsNs mb) (hmb : mb "super" = some (.type "super"))
    (hp : (params.posonlyargs ++ params.args).head? = some ar) (hx : s.heap.get? x = some (excO C t0)) (hroom : A.depth < recursionLimit)
    (hbd : ∀ (doc pm : Value) (an : Option Addr) (ct : Value), BindsTo s (ksFn "__init__" qual params [st] scope .none .none doc pm an (.ref cda) ct cc) ⟨[.ref x], []⟩ [(ar.arg, .ref x)])
    (hks : scope.names.lookup ("super" : Str) = some .globalImplicit) (hkc : scope.names.lookup ("__class__" : Str) = some .free) (hka : scope.names.lookup ar.arg = some .local) (hk : scope.kind = .function) (hco : scope.isCoroutine = false) (hgen : scope.isGenerator = false) (hcell : ∀ x ∈ scope.names, x.2 ≠ .cell)
    (hq : ∀ h' tk t1, (∀ b o, b ≠ x → s.heap.get? b = some o → h'.get? b = some o) → h'.get? x = some (excO C t1) → R (.ok (.ret .none)) { s with heap := h', toks := tk }) :
    codeAny (model prog w) A (.call (.ref f) ⟨[.ref x], []⟩) R s := by
  obtain ⟨oc, od, doc, pm, an, ct, osl, lk⟩ := T.fn
  obtain ⟨msg, j, p0, p1, p2, p3, p4, p5, rfl, hL⟩ := Z
  refine ks_codeAny_call_defAt (fd := ksFn "__init__" qual params _ scope .none .none doc pm an (.ref cda) ct cc) hroom (X _ _ lk) rfl hlim (codeRec_of X T.code) rfl (hbd doc pm an ct) hcell (fun y hy => by rw [List.mem_singleton.mp hy]; exact hka) (fun h0 hns k => ?_) hco hgen hk
  obtain ⟨⟨pl, z1⟩, z2, z3, z4⟩ := hL s.heap.objs.size
  refine ks_wpAt_execs_cons (sup_call z1 z2 z3 z4 T (X.keeps k) (hg.keeps k) hmg (hb.keeps k) hmb hp hns (by simp [List.lookup]) (k _ _ hx) hks hkc hka hk fun h' tk t1 k' e => ?_)
  exact wpAt_of_wpAny (wpAny_execs_nil (hq h' tk t1 (fun b o hb' e' => k' b o hb' (k b o e')) e))
theorem xc_made0 (T : XcF prog K C f cc cda qual params [st] scope) (Z : SupSt qual scope f cda cc st) (X : K.In s.heap) (hlim : s.heap.NoLimit) (hg : s.heap.Ns mainGlobals mg) (hmg : mg "super" = none) (hb : s.heap.Ns builtinsNs mb) (hmb : mb "super" = some (.type "super"))
    (hp : (params.posonlyargs ++ params.args).head? = some ar) (hroom : A.depth + 1 < recursionLimit)
    (hbd : ∀ (s : Shared) (x : Addr) (doc pm : Value) (an : Option Addr) (ct : Value), BindsTo s (ksFn "__init__" qual params [st] scope .none .none doc pm an (.ref cda) ct cc) ⟨[.ref x], []⟩ [(ar.arg, .ref x)])
    (hks : scope.names.lookup ("super" : Str) = some .globalImplicit) (hkc : scope.names.lookup ("__class__" : Str) = some .free) (hka : scope.names.lookup ar.arg = some .local) (hk : scope.kind = .function) (hco : scope.isCoroutine = false) (hgen : scope.isGenerator = false) (hcell : ∀ x ∈ scope.names, x.2 ≠ .cell)
    (hq : ∀ h' tk e t1, (∀ b o, s.heap.get? b = some o → h'.get? b = some o) → s.heap.objs.size ≤ e → h'.get? e = some (excO C t1) → R (.ok (.ret (.ref e))) { s with heap := h', toks := tk }) :
    codeAny (model prog w) A (.call (.ref C) ⟨[], []⟩) R s := by
  obtain ⟨nm, q, N, bs, bm, sn, sub, ab, col, dd, k0, k1, k2, k3, k5, hC, hbm, hal⟩ := T.cls
  obtain ⟨hp', g, dr, tk, os⟩ := s
  have k : ∀ b o, hp'.get? b = some o → ((hp'.push (kdv_tup [])).push (excO C hp'.objs.size)).get? b = some o := fun b o e => Heap.get?_push_of_some _ (Heap.get?_push_of_some _ e)
  have hget : ((hp'.push (kdv_tup [])).push (excO C hp'.objs.size)).get? (hp'.objs.size + 1) = some (excO C hp'.objs.size) := by heap_get
  refine call_own F.excBase_ValueError (fun X => refsVE_contains X bm hbm) (X _ _ hC) (looks_findIn X T.iC) (fun self => bind_fn X self T.tC) (Nat.zero_le _) ?_
  refine xc_init0 (s := ⟨(hp'.push (kdv_tup [])).push (excO C hp'.objs.size), g, dr, tk, os⟩) T Z (X.keeps k) (hlim.keeps k) (hg.keeps k) hmg (hb.keeps k) hmb hp hget hroom (hbd _ _) hks hkc hka hk hco hgen hcell fun h' tk' t1 k' e => ?_
  exact ⟨rfl, hq h' tk' (hp'.objs.size + 1) t1 (fun b o e' => k' b o (Nat.ne_of_lt (Nat.lt_succ_of_lt (Heap.lt_size e'))) (k b o e')) (Nat.le_succ _) e⟩
end
end PV

/-! PWe: raise C(), C an error class without a field. -/
namespace PV
open PySem L2 PyProof.Rows
/-- what is known of the error class c, named x, whose __init__ takes nothing -/
def Xc0 (G : Gx) (c : Nat) (x : Str) : Prop := ∃ (f cc cda : Addr) (qual : Str) (params : Arguments) (st : Stmt) (scope : Scope) (ar : Arg), XcF G.P G.K (G.ca c) f cc cda qual params [st] scope ∧ SupSt qual scope f cda cc st ∧ G.mg "super" = none ∧ G.mg x = some (.ref (G.ca c)) ∧
  (params.posonlyargs ++ params.args).head? = some ar ∧ (∀ (s : Shared) (x : Addr) (doc pm : Value) (an : Option Addr) (ct : Value), BindsTo s (PySem.W.ksFn "__init__" qual params [st] scope .none .none doc pm an (.ref cda) ct cc) ⟨[.ref x], []⟩ [(ar.arg, .ref x)]) ∧
  scope.names.lookup ("super" : Str) = some .globalImplicit ∧ scope.names.lookup ("__class__" : Str) = some .free ∧ scope.names.lookup ar.arg = some .local ∧ scope.kind = .function ∧ scope.isCoroutine = false ∧ scope.isGenerator = false ∧ (∀ x ∈ scope.names, x.2 ≠ .cell) ∧
  PySem.W.keepIn G.K (.ref (G.ca c)) = true ∧ PySem.W.subIn G.K (.ref (G.ca c)) (.type "BaseException") = some true ∧ PySem.W.typeIn G.K (.ref (G.ca c)) = some (.type "type")
theorem bt_super : bootBuiltins "super" = some (.type "super") := by decide +kernel
section
variable {G : Gx} {X : Cx} {F : Fm} {k c : Nat} {A : Addr → Prop} {S : Slots} {tp : Tp} {σ : L2.St} {H : Hp} {W : WX}
theorem pmk_x0 {x : Str} {p pos : Pos} (C : Cw G k X) (hk : 1 ≤ k) (T : Xc0 G c x) (hg : Gl X x) (hdb : (x == ("__debug__" : Str)) = false := by decide) : PMk X (.Call (.Name x p) [] [] pos) (fun σ H Q => Q (.ref (G.ca c)) none H) := by
  obtain ⟨f, cc, cda, qual, params, st, scope, ar, T, Z, hs, hx, hp, hbd, a1, a2, a3, a4, a5, a6, a7, kp, sub, ty⟩ := T
  rw [← C.eP, ← C.eK] at T
  rw [← C.em] at hs hx
  rw [← C.eK] at kp sub ty
  intro pins s σ H Q I q
  obtain ⟨mb, b1, b2⟩ := I.ok.mod.blt
  have bk := I.bk
  refine wpAny_Call_Name_kw (ld_glob I hg hx (PySem.W.callWith_K0 I.kIn kp ?_) hdb)
  have lim := I.nolimit
  have kin := I.kIn
  have hgl : s.heap.Ns mainGlobals X.mg := I.ok.mod.glob.keeps bk
  have hbl : s.heap.Ns builtinsNs mb := b1.keeps bk
  have hsz := I.hok
  obtain ⟨hh, g, dr, tk, os⟩ := s
  refine wpAny_call (xc_made0 T Z kin lim hgl hs hbl ((b2 _ (by decide)).trans bt_super) hp (by have := (C.room.mono hk).dp; omega) hbd a1 a2 a3 a4 a5 a6 a7 fun h' tk' e t1 k1 hle he => ?_)
  obtain ⟨G', g1, g2⟩ := restrict h' fun b => decide (b ≠ e)
  have gk : ∀ b, b ≠ e → G'.get? b = h'.get? b := fun b hb => g1 b (decide_eq_true hb)
  have ge : G'.get? e = none := g2 e (by simp)
  have J : Inv X pins σ H ⟨G', g, dr, tk', os⟩ := I.kept (t' := tk') fun b o q => (gk b (Nat.ne_of_lt (Nat.lt_of_lt_of_le (Heap.lt_size q) hle))).trans (k1 b o q)
  refine ⟨e, _, _, ⟨G', g, dr, tk', os⟩, H, .ref (G.ca c), none, rfl, J, fun b o q => ?_, ge, he, ⟨rfl, rfl⟩, rfl, rfl, hsz.fresh hle, rfl, I.bare, raises_own sub ty, q⟩
  by_cases hb : b = e
  · have q' : G'.get? b = some o := q
    rw [hb, ge] at q'; cases q'
  · exact (gk b hb).symm.trans q
def mRaise0 (c : Nat) : MS := fun S tp => .ex c [] S tp
theorem s_raise0 {x : Str} {p pos pos2 : Pos} (C : Cw G k X) (hk : 1 ≤ k) (hc : X.calm = true) (T : Xc0 G c x) (hg : Gl X x) (hdb : (x == ("__debug__" : Str)) = false := by decide) : EvS G X (.Raise (some (.Call (.Name x p) [] [] pos)) none pos2) (mRaise0 c) :=
  fun F W tk => (ps_raise hc tk (pmk_x0 C hk T hg hdb)).imp fun De σ H ⟨A, S, tp, R, h⟩ => h A _ _ σ H R ⟨rfl, .inl ⟨rfl, rfl⟩⟩
end
end PV

/-! PWf: errors with one field. -/
namespace PV
open PySem PySem.W PySem.Calls PyProof.Rows PySem.HandSPX
section
variable {prog : Program} {w : World} {A : Around} {E : Value → Shared → Prop} {s : Shared} {K : Frag} {C f cc cda x t0 : Addr} {qual fld : Str} {params : Arguments} {st : Stmt} {scope : Scope} {mg mb : Str → Option Value} {ar ar2 : Arg} {R : Result → Shared → Prop} {q1 q2 q3 q4 : Pos} {v : Value}
theorem xc_init1 (T : XcF prog K C f cc cda qual params [st, .Assign [.Attribute (.Name ar.arg q1) fld q2] (.Name ar2.arg q3) q4] scope) (Z : SupSt qual scope f cda cc st) (X : K.In s.heap) (hlim : s.heap.NoLimit) (hg : s.heap.Ns mainGlobals mg) (hmg : mg "super" = none) (hb : s.heap.Ns builtinsNs mb) (hmb : mb "super" = some (.type "super"))
    (hp : (params.posonlyargs ++ params.args).head? = some ar) (hx : s.heap.get? x = some (excO C t0)) (hnx : K.lookup x = none) (hroom : A.depth < recursionLimit)
    (hbd : ∀ (doc pm : Value) (an : Option Addr) (ct : Value), BindsTo s (ksFn "__init__" qual params [st, .Assign [.Attribute (.Name ar.arg q1) fld q2] (.Name ar2.arg q3) q4] scope .none .none doc pm an (.ref cda) ct cc) ⟨[.ref x, v], []⟩ [(ar.arg, .ref x), (ar2.arg, v)])
    (hks : scope.names.lookup ("super" : Str) = some .globalImplicit) (hkc : scope.names.lookup ("__class__" : Str) = some .free) (hka : scope.names.lookup ar.arg = some .local) (hka2 : scope.names.lookup ar2.arg = some .local) (hne : (ar2.arg == ar.arg) = false) (hk : scope.kind = .function) (hco : scope.isCoroutine = false) (hgen : scope.isGenerator = false) (hcell : ∀ x ∈ scope.names, x.2 ≠ .cell)
    (sa : findIn K (.ref C) "__setattr__" = some (some (.builtin "object.__setattr__"))) (noN : findIn K (.ref C) fld = some none) (hd1 : (ar.arg == ("__debug__" : Str)) = false) (hd2 : (ar2.arg == ("__debug__" : Str)) = false)
    (hsw : ∀ L : Addr, swapsWith (.Name ar2.arg q3) (some (.Attribute (.Name ar.arg q1) fld q2)) q4.line (ksEnv qual scope L f (.ref cda) cc) = pure false)
    (hq : ∀ h' tk t1 dx, (∀ b o, b ≠ x → s.heap.get? b = some o → h'.get? b = some o) → h'.get? x = some { cls := .ref C, dict := some dx, data := .fields #[.ref t1, .none, .none, .none, .bool false, .none] } → s.heap.objs.size ≤ dx → dx ≠ x → h'.Ns1 dx (fun y => if y = fld then some v else none) → R (.ok (.ret .none)) { s with heap := h', toks := tk }) :
    codeAny (model prog w) A (.call (.ref f) ⟨[.ref x, v], []⟩) R s := by
  obtain ⟨oc, od, doc, pm, an, ct, osl, lk⟩ := T.fn
  obtain ⟨nm, q, N, bs, bm, sn, sub, ab, col, dd, k0, k1, k2, k3, k5, hC, hbm, hal⟩ := T.cls
  have hcl : clsIn K C = some { name := nm, bases := bs, mro := .ref C :: bm, ns := N, qualname := q, hasDict := true, slotNames := sn, subclasses := sub, abstract := ab, collection := col, hasDel := false } := by unfold clsIn; rw [hC] <;> rfl
  obtain ⟨msg, j, p0, p1, p2, p3, p4, p5, rfl, hL⟩ := Z
  refine ks_codeAny_call_defAt (fd := ksFn "__init__" qual params _ scope .none .none doc pm an (.ref cda) ct cc) hroom (X _ _ lk) rfl hlim (codeRec_of X T.code) rfl (hbd doc pm an ct) hcell (fun y hy => ?_) (fun h0 hns k => ?_) hco hgen hk
  · simp only [List.mem_cons, List.not_mem_nil, or_false] at hy
    rcases hy with rfl | rfl
    · exact hka
    · exact hka2
  obtain ⟨⟨pl, z1⟩, z2, z3, z4⟩ := hL s.heap.objs.size
  have n1 : (([(ar.arg, Value.ref x), (ar2.arg, v)] : List (Str × Value)).reverse.lookup ar.arg) = some (.ref x) := by
    have : (ar.arg == ar2.arg) = false := by
      have : ¬ ar2.arg = ar.arg := by simpa using hne
      simpa using fun e => this (Eq.symm e)
    simp [List.lookup, this]
  have n2 : (([(ar.arg, Value.ref x), (ar2.arg, v)] : List (Str × Value)).reverse.lookup ar2.arg) = some v := by simp [List.lookup]
  have hLx : s.heap.objs.size ≠ x := Nat.ne_of_gt (Heap.lt_size hx)
  refine ks_wpAt_execs_cons (sup_call z1 z2 z3 z4 T (X.keeps k) (hg.keeps k) hmg (hb.keeps k) hmb hp hns n1 (k _ _ hx) hks hkc hka hk fun h' tk t1 k' e => ?_)
  have all : ∀ b o, b ≠ x → s.heap.get? b = some o → h'.get? b = some o := fun b o hb' e' => k' b o hb' (k b o e')
  have X' : K.In h' := fun a o e' => k' a o (fun z => by rw [z, hnx] at e'; cases e') (k a o (X a o e'))
  have hns' : h'.Ns s.heap.objs.size (fun y => ([(ar.arg, Value.ref x), (ar2.arg, v)] : List (Str × Value)).reverse.lookup y) := hns.at fun o e' => k' _ o hLx e'
  refine wpAt_of_wpAny (wpAny_execs_cons (plainObj_wpAny_Assign_Attribute (wpAny_Name (wpAny_loadName_local hk hka2 hns' n2 (wpAny_Name (wpAny_loadName_local hk hka hns' n1 ?_) hd1)) hd2) (hsw _)))
  refine set_plain X' (ox := excO C t1) (od := none) ⟨e, rfl, rfl, trivial⟩ sa ?_
  refine exc_osa X' e hcl (show refsVE (.ref C :: bm) = true from hbm) rfl noN fun h3 tk3 dx k3 dn dne hx3 hn3 => ?_
  have z : s.heap.objs.size < h'.objs.size := hns'.lt
  exact wpAny_execs_nil (hq h3 tk3 t1 dx (fun b o hb' e' => k3 b o hb' (all b o hb' e')) hx3 (Nat.le_of_lt (Nat.lt_of_lt_of_le z dn)) dne hn3)
theorem xc_made1 (T : XcF prog K C f cc cda qual params [st, .Assign [.Attribute (.Name ar.arg q1) fld q2] (.Name ar2.arg q3) q4] scope) (Z : SupSt qual scope f cda cc st) (X : K.In s.heap) (hlim : s.heap.NoLimit) (hg : s.heap.Ns mainGlobals mg) (hmg : mg "super" = none) (hb : s.heap.Ns builtinsNs mb) (hmb : mb "super" = some (.type "super"))
    (hp : (params.posonlyargs ++ params.args).head? = some ar) (hroom : A.depth + 1 < recursionLimit)
    (hbd : ∀ (s : Shared) (x : Addr) (v doc pm : Value) (an : Option Addr) (ct : Value), BindsTo s (ksFn "__init__" qual params [st, .Assign [.Attribute (.Name ar.arg q1) fld q2] (.Name ar2.arg q3) q4] scope .none .none doc pm an (.ref cda) ct cc) ⟨[.ref x, v], []⟩ [(ar.arg, .ref x), (ar2.arg, v)])
    (hks : scope.names.lookup ("super" : Str) = some .globalImplicit) (hkc : scope.names.lookup ("__class__" : Str) = some .free) (hka : scope.names.lookup ar.arg = some .local) (hka2 : scope.names.lookup ar2.arg = some .local) (hne : (ar2.arg == ar.arg) = false) (hk : scope.kind = .function) (hco : scope.isCoroutine = false) (hgen : scope.isGenerator = false) (hcell : ∀ x ∈ scope.names, x.2 ≠ .cell)
    (sa : findIn K (.ref C) "__setattr__" = some (some (.builtin "object.__setattr__"))) (noN : findIn K (.ref C) fld = some none) (hd1 : (ar.arg == ("__debug__" : Str)) = false) (hd2 : (ar2.arg == ("__debug__" : Str)) = false)
    (hsw : ∀ L : Addr, swapsWith (.Name ar2.arg q3) (some (.Attribute (.Name ar.arg q1) fld q2)) q4.line (ksEnv qual scope L f (.ref cda) cc) = pure false)
    (hq : ∀ h' tk e t1 dx, (∀ b o, s.heap.get? b = some o → h'.get? b = some o) → s.heap.objs.size ≤ e → h'.get? e = some { cls := .ref C, dict := some dx, data := .fields #[.ref t1, .none, .none, .none, .bool false, .none] } → s.heap.objs.size ≤ dx → dx ≠ e → h'.Ns1 dx (fun y => if y = fld then some v else none) → R (.ok (.ret (.ref e))) { s with heap := h', toks := tk }) :
    codeAny (model prog w) A (.call (.ref C) ⟨[v], []⟩) R s := by
  obtain ⟨nm, q, N, bs, bm, sn, sub, ab, col, dd, k0, k1, k2, k3, k5, hC, hbm, hal⟩ := T.cls
  obtain ⟨hp', g, dr, tk, os⟩ := s
  have k : ∀ b o, hp'.get? b = some o → ((hp'.push (kdv_tup [v])).push (excO C hp'.objs.size)).get? b = some o := fun b o e => Heap.get?_push_of_some _ (Heap.get?_push_of_some _ e)
  have hget : ((hp'.push (kdv_tup [v])).push (excO C hp'.objs.size)).get? (hp'.objs.size + 1) = some (excO C hp'.objs.size) := by heap_get
  have hsz : ((hp'.push (kdv_tup [v])).push (excO C hp'.objs.size)).objs.size = hp'.objs.size + 2 := by rw [Heap.size_push, Heap.size_push]
  have hnx : K.lookup (hp'.objs.size + 1) = none := by
    cases e : K.lookup (hp'.objs.size + 1) with
    | none => rfl
    | some o => exact absurd (Nat.lt_of_succ_lt (Heap.lt_size (X _ _ e))) (Nat.lt_irrefl _)
  have one : [v].length ≤ sizeLine := by
    rw [sizeLine_eq]
    exact Nat.le_add_left 1 _
  refine call_own F.excBase_ValueError (fun X => refsVE_contains X bm hbm) (X _ _ hC) (looks_findIn X T.iC) (fun self => bind_fn X self T.tC) one ?_
  refine xc_init1 (s := ⟨(hp'.push (kdv_tup [v])).push (excO C hp'.objs.size), g, dr, tk, os⟩) T Z (X.keeps k) (hlim.keeps k) (hg.keeps k) hmg (hb.keeps k) hmb hp hget hnx hroom (hbd _ _ _) hks hkc hka hka2 hne hk hco hgen hcell sa noN hd1 hd2 hsw fun h' tk' t1 dx k' e dn dne hn => ?_
  have dn : hp'.objs.size + 2 ≤ dx := by rw [← hsz]; exact dn
  exact ⟨rfl, hq h' tk' (hp'.objs.size + 1) t1 dx (fun b o e' => k' b o (Nat.ne_of_lt (Nat.lt_succ_of_lt (Heap.lt_size e'))) (k b o e')) (Nat.le_succ _) e (Nat.le_trans (Nat.le_add_right _ _) dn) dne hn⟩
end
end PV

/-! PWg: raise C(e), C an error class with one field. -/
namespace PV
open PySem L2 PyProof.Rows
/-- what is known of the error class c, named x, with the one field fld -/
def Xc1 (G : Gx) (c : Nat) (x fld : Str) : Prop := ∃ (f cc cda : Addr) (qual : Str) (params : Arguments) (st : Stmt) (scope : Scope) (ar ar2 : Arg) (q1 q2 q3 q4 : Pos),
  XcF G.P G.K (G.ca c) f cc cda qual params [st, .Assign [.Attribute (.Name ar.arg q1) fld q2] (.Name ar2.arg q3) q4] scope ∧ SupSt qual scope f cda cc st ∧ G.mg "super" = none ∧ G.mg x = some (.ref (G.ca c)) ∧ (params.posonlyargs ++ params.args).head? = some ar ∧
  (∀ (s : Shared) (x : Addr) (v doc pm : Value) (an : Option Addr) (ct : Value), BindsTo s (PySem.W.ksFn "__init__" qual params [st, .Assign [.Attribute (.Name ar.arg q1) fld q2] (.Name ar2.arg q3) q4] scope .none .none doc pm an (.ref cda) ct cc) ⟨[.ref x, v], []⟩ [(ar.arg, .ref x), (ar2.arg, v)]) ∧
  scope.names.lookup ("super" : Str) = some .globalImplicit ∧ scope.names.lookup ("__class__" : Str) = some .free ∧ scope.names.lookup ar.arg = some .local ∧ scope.names.lookup ar2.arg = some .local ∧ (ar2.arg == ar.arg) = false ∧ scope.kind = .function ∧ scope.isCoroutine = false ∧ scope.isGenerator = false ∧ (∀ x ∈ scope.names, x.2 ≠ .cell) ∧
  PySem.W.findIn G.K (.ref (G.ca c)) "__setattr__" = some (some (.builtin "object.__setattr__")) ∧ PySem.W.findIn G.K (.ref (G.ca c)) fld = some none ∧ (ar.arg == ("__debug__" : Str)) = false ∧ (ar2.arg == ("__debug__" : Str)) = false ∧
  (∀ L : Addr, swapsWith (.Name ar2.arg q3) (some (.Attribute (.Name ar.arg q1) fld q2)) q4.line (PySem.W.ksEnv qual scope L f (.ref cda) cc) = pure false) ∧ G.cf c = [fld] ∧
  PySem.W.keepIn G.K (.ref (G.ca c)) = true ∧ PySem.W.subIn G.K (.ref (G.ca c)) (.type "BaseException") = some true ∧ PySem.W.typeIn G.K (.ref (G.ca c)) = some (.type "type")
section
variable {G : Gx} {X : Cx} {F : Fm} {k c : Nat} {A : Addr → Prop} {S : Slots} {tp : Tp} {σ : L2.St} {H : Hp} {W : WX}
theorem relO_one {fld : Str} {v : V} {u : Value} (r : RelV v u) (g : Str) : RelO (List.lookup g [(fld, v)]) (if g = fld then some u else none) := by
  by_cases h : g = fld
  · subst h
    rw [if_pos rfl]
    have e : List.lookup g [(g, v)] = some v := by simp [List.lookup]
    rw [e]
    exact r
  · rw [if_neg h]
    have e : (g == fld) = false := by simpa using h
    have e2 : List.lookup g [(fld, v)] = none := by simp [List.lookup, e]
    rw [e2]
    trivial
theorem pmk_x1 {x fld : Str} {a : Expr} {ta : TA} {p pos : Pos} (C : Cw G k X) (hk : 1 ≤ k) (T : Xc1 G c x fld) (ha : PA X [a] ta) (hg : Gl X x) (hdb : (x == ("__debug__" : Str)) = false := by decide)
    (hs : starEach (a :: []) X.env = (false, eval a X.env) :: starEach [] X.env := by rfl) (hpl : (backTo pos (starEach [] X.env)).any (·.1) = false := by rfl) :
    PMk X (.Call (.Name x p) [a] [] pos) (fun σ H Q => ta σ H fun vs H1 => ∃ v, vs = [v] ∧ ∀ d, H1 d = none → Q (.ref (G.ca c)) (some d) (upd H1 d (.xd [(fld, v)]))) := by
  obtain ⟨f, cc, cda, qual, params, st, scope, ar, ar2, q1, q2, q3, q4, T, Z, hsu, hx, hp, hbd, a1, a2, a3, a3', a3'', a4, a5, a6, a7, sa, noN, d1, d2, hsw, hcf, kp, sub, ty⟩ := T
  rw [← C.eP, ← C.eK] at T
  rw [← C.em] at hsu hx
  rw [← C.eK] at kp sub ty sa noN
  intro pins s σ H Q I q
  refine wpAny_Call_Name_kw (ld_glob I hg hx (PySem.W.callWith_K (h₀ := X.base) I.ok.mod.kin kp (thn (ha.run pos pins s σ H _ I q) fun us s1 ⟨vs, H1, I1, r1, v, ev, q1'⟩ => ⟨I1.kIn, ?_⟩) hs hpl) hdb)
  subst ev
  obtain ⟨mb, b1, b2⟩ := I1.ok.mod.blt
  have bk := I1.bk
  have lim := I1.nolimit
  have kin := I1.kIn
  have hgl : s1.heap.Ns mainGlobals X.mg := I1.ok.mod.glob.keeps bk
  have hbl : s1.heap.Ns builtinsNs mb := b1.keeps bk
  have hok := I1.hok
  cases r1 with
  | @cons _ u _ _ rv rn =>
    cases rn
    obtain ⟨hh, g, dr, tk, os⟩ := s1
    refine wpAny_call (xc_made1 T Z kin lim hgl hsu hbl ((b2 _ (by decide)).trans bt_super) hp (by have := (C.room.mono hk).dp; omega) hbd a1 a2 a3 a3' a3'' a4 a5 a6 a7 sa noN d1 d2 hsw fun h' tk' e t1 dx k1 hle he dle dne hn => ?_)
    obtain ⟨G', g1, g2⟩ := restrict h' fun b => decide (b ≠ e)
    have gk : ∀ b, b ≠ e → G'.get? b = h'.get? b := fun b hb => g1 b (decide_eq_true hb)
    have ge : G'.get? e = none := g2 e (by simp)
    have ob : ObjOk X.prog X.w (upd H1 dx (.xd [(fld, v)])) G' dx (.xd [(fld, v)]) := ⟨_, hn.at (fun o q => (gk dx dne).trans q), fun y => relO_one rv y⟩
    have J : Inv X pins σ (upd H1 dx (.xd [(fld, v)])) ⟨G', g, dr, tk', os⟩ := I1.laid (t' := tk') (fun b o q => (gk b (Nat.ne_of_lt (Nat.lt_of_lt_of_le (Heap.lt_size q) hle))).trans (k1 b o q)) dle ob
    refine ⟨e, _, _, ⟨G', g, dr, tk', os⟩, _, .ref (G.ca c), some dx, rfl, J, fun b o q => ?_, ge, he, ⟨rfl, rfl⟩, rfl, rfl, ?_, rfl, I1.bare, raises_own sub ty, q1' dx (hok.fresh dle)⟩
    · by_cases hb : b = e
      · have q' : G'.get? b = some o := q
        rw [hb, ge] at q'; cases q'
      · exact (gk b hb).symm.trans q
    · rw [upd_ne (Ne.symm dne)]
      exact hok.fresh hle
/-- raise C(e) -/
def mRaise1 (c : Nat) (m : ME) : MS := fun S tp => match m S tp with
  | .ok _ .pk _ => .bad
  | .ok d _ tp1 => .ex c [d] S tp1
  | .ex e f tp1 => .ex e f S tp1
  | .bad => .bad
theorem s_raise1 {x fld : Str} {a : Expr} {m : ME} {p pos pos2 : Pos} (C : Cw G k X) (hk : 1 ≤ k) (hc : X.calm = true) (T : Xc1 G c x fld) (ha : EvE G X a m) (hg : Gl X x) (hdb : (x == ("__debug__" : Str)) = false := by decide)
    (hs : starEach (a :: []) X.env = (false, eval a X.env) :: starEach [] X.env := by rfl) (hpl : (backTo pos (starEach [] X.env)).any (·.1) = false := by rfl) : EvS G X (.Raise (some (.Call (.Name x p) [a] [] pos)) none pos2) (mRaise1 c m) := by
  have hcf : G.cf c = [fld] := by
    obtain ⟨_, _, _, _, _, _, _, _, _, _, _, _, _, _, _, _, _, _, _, _, _, _, _, _, _, _, _, _, _, _, _, _, _, h, _⟩ := T
    exact h
  refine fun F W tk => (ps_raise hc tk (pmk_x1 C hk T (pa_cons (ha W tk) pa_nil hs) hg hdb hs hpl)).imp fun De σ H ⟨A, S, tp, R, h⟩ => ⟨A, S, tp, R.rel, ?_⟩
  unfold mRaise1 at h
  revert h
  cases m S tp with
  | ok d k' tp1 =>
    intro h v H1 r
    have hk' : k' ≠ .pk := fun z => by subst z; exact h.elim
    have hz := r.fz R.rel hk'
    have R1 := R.after r.1 (r.rel R.rel)
    have h : OutS G F W De (.ex c [d] S tp1) := by
      cases k' with
      | pk => exact absurd rfl hk'
      | frz => exact h
      | fr => exact h
    refine ⟨v, rfl, fun dx hdx => ?_⟩
    have k2 : Kp G H1 (upd H1 dx (.xd [(fld, v)])) := Kp.alloc hdx
    have R2 := R1.after k2 (R1.rel.alloc hdx)
    exact h A _ _ σ _ R2 ⟨rfl, .inr ⟨dx, [v], rfl, by rw [hcf]; exact upd_same, R1.rel.free hdx, by rw [hcf]; rfl, .cons (hz.kp R1.rel k2) .nil⟩⟩
  | ex e f tp1 => exact fun h cv dd H' r kp x => h A cv dd σ H' (R.after kp r) x
  | bad => exact fun h => h
end
end PV

/-! PWh: what the head tells of the written part: data classes, errors, their methods, by looks that the kernel runs. -/
namespace PV
open PySem PySem.W PySem.HandSPX
/-! ### data classes -/
def tys : List Ty := [.non, .bl, .int, .str, .tup, .lst, .dct]
theorem mem_tys (T : Ty) : T ∈ tys := by cases T <;> decide
def clsTB (K : Frag) (C : Addr) : Bool := decide (findIn K (.ref C) "__class__" = some (some (.builtin "object.__class__"))) && decide (specialIn K (.builtin "object.__class__") "__get__" = some (some (.builtin "getset_descriptor.__get__"))) && decide (takesIn K (.builtin "object.__class__") = some true) && decide (mroIn K C (.type "object") = some true) &&
  tys.all fun T => decide (kitOne K (.type T.nm) (.ref C) = some false) && decide (kitOne K (.ref C) (.type T.nm) = some false)
def dcB (K : Frag) (cs : List (Str × List Str)) : Bool := (cs.all fun p => (He.Fa.cls p.1).ok K && (p.2.all fun f => (He.Fa.noat p.1 f).ok K) && decide p.2.Nodup && clsTB K (He.ga K p.1)) &&
  (List.range cs.length).all fun i => (List.range cs.length).all fun j => match cs[i]?, cs[j]? with
    | some p, some q => decide (kitOne K (.ref (He.ga K p.1)) (.ref (He.ga K q.1)) = some (decide (i = j)))
    | _, _ => false
theorem isiF_of {G : Gx} {cs : List (Str × List Str)} (h : dcB G.K cs = true) (hG : ∀ c p, cs[c]? = some p → G.ca c = He.ga G.K p.1 ∧ G.cf c = p.2) : IsiF G cs.length := by
  unfold dcB at h
  rw [Bool.and_eq_true, List.all_eq_true, List.all_eq_true] at h
  obtain ⟨h1, h2⟩ := h
  have at_ : ∀ c, c < cs.length → ∃ p, cs[c]? = some p ∧ p ∈ cs := fun c hc => ⟨cs[c], List.getElem?_eq_getElem hc, List.getElem_mem hc⟩
  have key : ∀ c, c < cs.length → ∃ p, cs[c]? = some p ∧ G.ca c = He.ga G.K p.1 ∧ G.cf c = p.2 ∧ (He.Fa.cls p.1).ok G.K = true ∧ (∀ f ∈ p.2, (He.Fa.noat p.1 f).ok G.K = true) ∧ p.2.Nodup ∧ clsTB G.K (He.ga G.K p.1) = true := fun c hc => by
    obtain ⟨p, e, hm⟩ := at_ c hc
    have z := h1 p hm
    simp only [Bool.and_eq_true, List.all_eq_true, decide_eq_true_eq] at z
    obtain ⟨⟨⟨z1, z2⟩, z3⟩, z4⟩ := z
    obtain ⟨g1, g2⟩ := hG c p e
    exact ⟨p, e, g1, g2, z1, z2, z3, z4⟩
  have tb : ∀ C, clsTB G.K C = true → (findIn G.K (.ref C) "__class__" = some (some (.builtin "object.__class__")) ∧ specialIn G.K (.builtin "object.__class__") "__get__" = some (some (.builtin "getset_descriptor.__get__")) ∧ takesIn G.K (.builtin "object.__class__") = some true ∧ mroIn G.K C (.type "object") = some true) ∧
      ∀ T : Ty, kitOne G.K (.type T.nm) (.ref C) = some false ∧ kitOne G.K (.ref C) (.type T.nm) = some false := fun C z => by
    unfold clsTB at z
    simp only [Bool.and_eq_true, List.all_eq_true, decide_eq_true_eq] at z
    obtain ⟨⟨⟨⟨z1, z2⟩, z3⟩, z4⟩, z5⟩ := z
    exact ⟨⟨z1, z2, z3, z4⟩, fun T => z5 T (mem_tys T)⟩
  refine ⟨fun c hc => ?_, fun c hc T => ?_, fun c hc T => ?_, fun c e hc he => ?_⟩
  · obtain ⟨p, _, g1, g2, z1, z2, z3, z4⟩ := key c hc
    obtain ⟨⟨t1, t2, t3, t4⟩, _⟩ := tb _ z4
    refine ⟨?_, ?_, t2, t3, ?_, ?_, ?_⟩
    · rw [g1]; exact He.cls_ok z1
    · rw [g1]; exact t1
    · rw [g1]; exact t4
    · rw [g1, g2]; exact fun f hf => He.noat_ok (z2 f hf)
    · rw [g2]; exact z3
  · obtain ⟨p, _, g1, _, _, _, _, z4⟩ := key c hc
    rw [g1]; exact ((tb _ z4).2 T).1
  · obtain ⟨p, _, g1, _, _, _, _, z4⟩ := key c hc
    rw [g1]; exact ((tb _ z4).2 T).2
  · obtain ⟨p, e1, g1, _⟩ := key c hc
    obtain ⟨q, e2, g2, _⟩ := key e he
    have z := List.all_eq_true.mp (h2 c (List.mem_range.mpr hc)) e (List.mem_range.mpr he)
    rw [e1, e2] at z
    rw [g1, g2]
    exact of_decide_eq_true z
/-! ### own == -/
def strKey (e : DictEntry) : Bool := match e.key with
  | .str _ _ => true
  | _ => false
def eqTB (K : Frag) (C f : Addr) : Bool := (match K.lookup C with
  | some ⟨.type T, _, .cls cd, sl⟩ => decide (T = "type") && (match cd.mro with
      | [.ref C', .type o] => decide (C' = C) && decide (o = "object")
      | _ => false) && !cd.hasDel && (match sl.toList with
      | [_, _, _, _, some (.builtin _), _] => true
      | _ => false) && (match K.lookup cd.ns with
      | some ⟨_, _, .dict es _, _⟩ => es.toList.all strKey && decide (nsFind es "__eq__" = some (.ref f)) && decide (nsFind es "__ne__" = none)
      | _ => false)
  | _ => false) && (match K.lookup f with
  | some o => decide (o.cls = .type "function")
  | none => false) && decide (findIn K (.ref C) "__eq__" = some (some (.ref f))) && isFn K (.ref f)
theorem eqF_of {G : Gx} {c : Nat} {f : Addr} (h : eqTB G.K (G.ca c) f = true) : EqF G c f := by
  unfold eqTB at h
  simp only [Bool.and_eq_true] at h
  obtain ⟨⟨⟨h1, h2⟩, h3⟩, h4⟩ := h
  refine ⟨?_, ?_, of_decide_eq_true h3, h4⟩
  · split at h1
    · rename_i T dd cd sl e
      simp only [Bool.and_eq_true] at h1
      obtain ⟨⟨⟨⟨a1, a2⟩, a3⟩, a4⟩, a5⟩ := h1
      have a1 := of_decide_eq_true a1
      subst a1
      obtain ⟨n1, n2, n3, n4, n5, n6, n7, n8, n9, n10, n11⟩ := cd
      split at a2
      · rename_i C' o em
        have em : n3 = [.ref C', .type o] := em
        subst em
        rw [Bool.and_eq_true] at a2
        have b1 := of_decide_eq_true a2.1
        have b2 := of_decide_eq_true a2.2
        subst b1 b2
        have a3 : (!n11) = true := a3
        have a3 : n11 = false := by cases n11 <;> simp_all
        subst a3
        split at a4
        · rename_i k0 k1 k2 k3 ni k5 es
          split at a5
          · rename_i oc od es' ep osl en
            simp only [Bool.and_eq_true, List.all_eq_true] at a5
            obtain ⟨⟨c1, c2⟩, c3⟩ := a5
            have esl : sl = #[k0, k1, k2, k3, some (.builtin ni), k5] := by
              apply Array.ext'
              simpa using es
            subst esl
            refine ⟨n1, n5, n4, n2, n6, n7, n8, n9, n10, dd, k0, k1, k2, k3, k5, ni, _, es', ep, e, en, rfl, fun x hx => ?_, of_decide_eq_true c2, of_decide_eq_true c3⟩
            have z := c1 x (by simpa using hx)
            unfold strKey at z
            split at z
            · rename_i n t ek
              exact ⟨n, t, ek⟩
            · cases z
          · cases a5
        · cases a4
      · cases a2
    · cases h1
  · split at h2
    · rename_i o e
      exact ⟨o, e, of_decide_eq_true h2⟩
    · cases h2
end PV

/-! PWi: the errors' __init__ as the head tells it; the Hook. -/
namespace PV
open PySem PySem.W PySem.HandSPX
/-- a def whose closure has the one cell __class__ -/
abbrev FnC : Type := Option (Str × Str × Arguments × FuncBody × Scope × Addr × List Str × Addr)
def fnC (K : Frag) (p : Str × Option Str) : FnC := match K.lookup (He.fAd K p) with
  | some ⟨_, _, .func fd, _⟩ => some (fd.name, fd.qualname, fd.params, fd.body, fd.scope, fd.globals, fd.closure.map (·.1), fd.builtins)
  | _ => none
structure FxD where
  cls : Str
  qual : Str
  params : Arguments
  body : List Stmt
  scope : Scope
def FxD.at_ (d : FxD) : Str × Option Str := (d.cls, some "__init__")
def FxD.val (d : FxD) : FnC := some ("__init__", d.qual, d.params, .stmts d.body, d.scope, mainGlobals, ["__class__"], builtinsNs)
def isNone' : Value → Bool
  | .none => true
  | _ => false
def fileB (prog : Program) (K : Frag) (cda : Addr) : Bool := match K.lookup cda with
  | some ⟨_, _, .fields vs, _⟩ => (match vs[(2 : Nat)]? with
    | some (.str fl _) => (prog.main.file : Str) == fl
    | _ => false)
  | _ => false
def cellB (K : Frag) (cc C : Addr) : Bool := match K.lookup cc with
  | some ⟨_, _, .cell (some (.ref D)), _⟩ => decide (D = C)
  | _ => false
def xclsB (K : Frag) (C : Addr) : Bool := match K.lookup C with
  | some ⟨.type T, _, .cls cd, sl⟩ => decide (T = "type") && cd.hasDict && !cd.hasDel && (match cd.mro with
      | .ref C' :: bm => decide (C' = C) && refsVE bm && decide (alongIn K "__init__" bm = some (some (.builtin "ValueError.__init__")))
      | _ => false) && (match sl.toList with
      | [_, _, _, _, some (.builtin n), _] => decide (n = "ValueError.__new__")
      | _ => false)
  | _ => false
def FxD.ok (prog : Program) (K : Frag) (d : FxD) : Bool := (match K.lookup (He.fAd K d.at_) with
  | some ⟨_, _, .func fd, _⟩ => isNone' fd.defaults && isNone' fd.kwdefaults && (match fd.code with
      | .ref cda => codeIn K (.ref cda) d.qual && fileB prog K cda
      | _ => false) && (match fd.closure with
      | [(_, cc)] => cellB K cc (He.ga K d.cls)
      | _ => false)
  | _ => false) && (xclsB K (He.ga K d.cls) && (decide (findIn K (.ref (He.ga K d.cls)) "__init__" = some (some (.ref (He.fAd K d.at_)))) && (decide (typeIn K (.ref (He.fAd K d.at_)) = some (.type "function")) && (decide (nsIn K mainGlobals "super" = some none) &&
  (decide (nsIn K cStatics "thirdparty.any" = some none) && (decide (subIn K (.ref (He.ga K d.cls)) (.type "ValueError") = some true) && (decide (mroIn K (He.ga K d.cls) (.ref (He.ga K d.cls)) = some true) && (!(prog.main.scope.names.lookup ("super" : Str)).isSome &&
  (keepIn K (.ref (He.ga K d.cls)) && (decide (subIn K (.ref (He.ga K d.cls)) (.type "BaseException") = some true) && (decide (typeIn K (.ref (He.ga K d.cls)) = some (.type "type")) && decide (nsIn K mainGlobals d.cls = some (some (.ref (He.ga K d.cls)))))))))))))))
theorem ba {a b : Bool} (h : (a && b) = true) : a = true ∧ b = true := Bool.and_eq_true_iff.mp h
theorem xcF_of {prog : Program} {K : Frag} {d : FxD} (e : fnC K d.at_ = d.val) (h : d.ok prog K = true) : ∃ f cc cda, XcF prog K (He.ga K d.cls) f cc cda d.qual d.params d.body d.scope ∧ keepIn K (.ref (He.ga K d.cls)) = true ∧ subIn K (.ref (He.ga K d.cls)) (.type "BaseException") = some true ∧ typeIn K (.ref (He.ga K d.cls)) = some (.type "type") ∧
    nsIn K mainGlobals d.cls = some (some (.ref (He.ga K d.cls))) ∧ nsIn K mainGlobals "super" = some none := by
  unfold FxD.ok at h
  obtain ⟨h1, h⟩ := ba h
  obtain ⟨h2, h⟩ := ba h
  obtain ⟨h3, h⟩ := ba h
  obtain ⟨h4, h⟩ := ba h
  obtain ⟨h5, h⟩ := ba h
  obtain ⟨h6, h⟩ := ba h
  obtain ⟨h7, h⟩ := ba h
  obtain ⟨h8, h⟩ := ba h
  obtain ⟨h9, h⟩ := ba h
  obtain ⟨h10, h⟩ := ba h
  obtain ⟨h11, h⟩ := ba h
  obtain ⟨h12, h13⟩ := ba h
  unfold fnC at e
  cases q : K.lookup (He.fAd K d.at_) with
  | none => rw [q] at e; cases e
  | some o =>
    obtain ⟨oc, od, dt, osl⟩ := o
    rw [q] at e h1
    cases dt with
    | func fd =>
      obtain ⟨n1, n2, n3, n4, n5, n6, n7, n8, n9, n10, n11, n12, n13, n14, n15⟩ := fd
      have e2 : (some (n1, n2, n3, n4, n5, n6, n7.map (·.1), n15) : FnC) = some (("__init__" : Str), d.qual, d.params, FuncBody.stmts d.body, d.scope, mainGlobals, [("__class__" : Str)], builtinsNs) := e
      simp only [Option.some.injEq, Prod.mk.injEq] at e2
      obtain ⟨g1, g2, g3, g4, g5, g6, g7, g8⟩ := e2
      subst g1 g2 g3 g4 g5 g6 g8
      dsimp only at h1
      obtain ⟨a, a4⟩ := ba h1
      obtain ⟨a, a3⟩ := ba a
      obtain ⟨a1, a2⟩ := ba a
      have b1 : n8 = .none := by cases n8 <;> first | rfl | cases a1
      have b2 : n9 = .none := by cases n9 <;> first | rfl | cases a2
      subst b1 b2
      split at a3
      · rename_i cda
        obtain ⟨c1, c2⟩ := ba a3
        split at a4
        · rename_i nn cc
          have g7 : nn = ("__class__" : Str) := by simpa using g7
          subst g7
          refine ⟨_, cc, cda, ⟨?_, of_decide_eq_true h3, of_decide_eq_true h4, ⟨oc, od, n10, n11, n12, n14, osl, q⟩, c1, ?_, ?_, of_decide_eq_true h5, of_decide_eq_true h6, of_decide_eq_true h7, of_decide_eq_true h8, by simpa using h9⟩, h10, of_decide_eq_true h11, of_decide_eq_true h12, of_decide_eq_true h13, of_decide_eq_true h5⟩
          · unfold xclsB at h2
            split at h2
            · rename_i T dd cd sl eC
              obtain ⟨h2, z5⟩ := ba h2
              obtain ⟨h2, z4⟩ := ba h2
              obtain ⟨h2, z3⟩ := ba h2
              obtain ⟨z1, z2⟩ := ba h2
              have z1 := of_decide_eq_true z1
              subst z1
              obtain ⟨m1, m2, m3, m4, m5, m6, m7, m8, m9, m10, m11⟩ := cd
              have w2 : m6 = true := z2
              have w3 : m11 = false := by
                have w : (!m11) = true := z3
                cases m11 with
                | false => rfl
                | true => cases w
              clear z2 z3
              subst w2
              subst w3
              split at z4
              · rename_i C' bm em
                have em : m3 = .ref C' :: bm := em
                subst em
                obtain ⟨y, y3⟩ := ba z4
                obtain ⟨y1, y2⟩ := ba y
                have y1 := of_decide_eq_true y1
                subst y1
                split at z5
                · rename_i k0 k1 k2 k3 ni k5 es
                  have z5 := of_decide_eq_true z5
                  subst z5
                  have esl : sl = #[k0, k1, k2, k3, some (.builtin "ValueError.__new__"), k5] := by
                    apply Array.ext'
                    simpa using es
                  subst esl
                  exact ⟨m1, m5, m4, m2, bm, m7, m8, m9, m10, dd, k0, k1, k2, k3, k5, eC, y2, of_decide_eq_true y3⟩
                · cases z5
              · cases z4
            · cases h2
          · unfold fileB at c2
            split at c2
            · rename_i ccl cdd vs ccs ec
              split at c2
              · rename_i fl tf ev
                exact ⟨ccl, cdd, vs, ccs, fl, tf, ec, ev, c2⟩
              · cases c2
            · cases c2
          · unfold cellB at a4
            split at a4
            · rename_i cl cld D csl ec
              have z := of_decide_eq_true a4
              subst z
              exact ⟨cl, cld, csl, ec⟩
            · cases a4
        · cases a4
      · cases a3
    | _ => cases e
/-! ### the Hook -/
abbrev AlP : Type := Bool × List He.FnW × List FnC
def obsP (prog : Program) (fa : List He.Fa) (fn : List He.DefD) (fx : List FxD) (xt : Frag → Bool) (K : Frag) : AlP := ((fa.all fun f => f.ok K) && (fn.all fun d => d.ok K) && (fx.all fun d => d.ok prog K) && xt K, fn.map fun d => He.fnW K d.at_, fx.map fun d => fnC K d.at_)
def valP (fn : List He.DefD) (fx : List FxD) : AlP := (true, fn.map He.DefD.val, fx.map FxD.val)
def SaysP (prog : Program) (fa : List He.Fa) (fn : List He.DefD) (fx : List FxD) (xt : Frag → Bool) (K : Frag) : Prop := obsP prog fa fn fx xt K = valP fn fx
def obsPG (prog : Program) (n : Nat) (fa : List He.Fa) (fn : List He.DefD) (fx : List FxD) (xt : Frag → Bool) (g : Addr → Option Obj) : AlP := obsP prog fa fn fx xt (He.frG g (He.asD g n))
def hookP (prog : Program) (n : Nat) (fa : List He.Fa) (fn : List He.DefD) (fx : List FxD) (xt : Frag → Bool) : Hook where
  α := AlP
  obs := fun s => obsPG prog n fa fn fx xt s.heap.get?
  val := fun _ => valP fn fx
  says := fun _ h => ∃ K : Frag, K.In h ∧ SaysP prog fa fn fx xt K
  of := fun _ _ e => ⟨_, He.frG_in, e⟩
  keeps := fun _ _ _ ⟨K, hK, c⟩ k => ⟨K, Frag.In.keeps hK k, c⟩
theorem obsPG_eq {prog : Program} {n : Nat} {fa : List He.Fa} {fn : List He.DefD} {fx : List FxD} {xt : Frag → Bool} {g : Addr → Option Obj} {s : Shared} (h : ∀ a, g a = s.heap.get? a) : obsPG prog n fa fn fx xt g = (hookP prog n fa fn fx xt).obs s := by
  have e : g = s.heap.get? := funext h
  rw [e] <;> rfl
section
variable {prog : Program} {fa : List He.Fa} {fn : List He.DefD} {fx : List FxD} {xt : Frag → Bool} {K : Frag}
theorem SaysP.all (c : SaysP prog fa fn fx xt K) : (fa.all fun f => f.ok K) = true ∧ (fn.all fun d => d.ok K) = true ∧ (fx.all fun d => d.ok prog K) = true ∧ xt K = true := by
  have z : ((fa.all fun f => f.ok K) && (fn.all fun d => d.ok K) && (fx.all fun d => d.ok prog K) && xt K) = true := congrArg (fun z : AlP => z.1) c
  obtain ⟨z, z4⟩ := ba z
  obtain ⟨z, z3⟩ := ba z
  obtain ⟨z1, z2⟩ := ba z
  exact ⟨z1, z2, z3, z4⟩
theorem SaysP.fact (c : SaysP prog fa fn fx xt K) (i : Nat) {f : He.Fa} (h : fa[i]? = some f := by rfl) : f.ok K = true := List.all_eq_true.mp c.all.1 f (List.mem_of_getElem? h)
theorem SaysP.def_ (c : SaysP prog fa fn fx xt K) (i : Nat) {d : He.DefD} (h : fn[i]? = some d := by rfl) : ∃ fd, L2.FunD K d.name d.qual d.params d.body d.scope (d.dvs K) (d.kws K) (He.fAd K d.at_) fd := by
  have e : fn.map (fun d => He.fnW K d.at_) = fn.map He.DefD.val := congrArg (fun z : AlP => z.2.1) c
  have e2 : (fn.map fun d => He.fnW K d.at_)[i]? = (fn.map He.DefD.val)[i]? := by rw [e]
  rw [List.getElem?_map, List.getElem?_map, h] at e2
  exact He.DefD.funD (Option.some.inj e2) (List.all_eq_true.mp c.all.2.1 d (List.mem_of_getElem? h))
theorem SaysP.err (c : SaysP prog fa fn fx xt K) (i : Nat) {d : FxD} (h : fx[i]? = some d := by rfl) : fnC K d.at_ = d.val ∧ d.ok prog K = true := by
  have e : fx.map (fun d => fnC K d.at_) = fx.map FxD.val := congrArg (fun z : AlP => z.2.2) c
  have e2 : (fx.map fun d => fnC K d.at_)[i]? = (fx.map FxD.val)[i]? := by rw [e]
  rw [List.getElem?_map, List.getElem?_map, h] at e2
  exact ⟨Option.some.inj e2, List.all_eq_true.mp c.all.2.2.1 d (List.mem_of_getElem? h)⟩
end
end PV

/-! PWj: the making of a lambda, told finely. -/
namespace PV
open PySem L2

abbrev lamQ (X : Cx) : Str := X.env.qual ++ "<lambda>"
abbrev lamF (X : Cx) (params : Arguments) (body : Expr) (scope : Scope) (pm : Value) (c' : Addr) (ctv : Value) : Obj :=
  PySem.W.kla_obj "<lambda>" (lamQ X) params body scope (cloFrom X.env.cells scope.names []) pm c' ctv
/-- what the making of a lambda leaves: the table at P has grown by a new code object at most -/
structure Made (X : Cx) (P : Addr) (ps : Array Value) (H H1 : Hp) (c' : Addr) : Prop where
  kp : ∀ b o, H b = some o → b ≠ P → H1 b = some o
  co : H1 c' = some (LamX.CodeO c' (lamQ X))
  tb : ∃ ps', H1 P = some (.tbl ps') ∧ PySem.TriplesOk ps'.toList ∧ ∀ (pos : Pos) (cv : Value), PySem.codeAmong pos ps'.toList = some cv → PySem.codeAmong pos ps.toList = some cv ∨ ∃ c, cv = .ref c ∧ H c = none ∧ H1 c = some (LamX.CodeO c (lamQ X))
theorem lam_mk {X : Cx} {pins : List (Addr × Obj)} {σ : L2.St} {H : Hp} {s : Shared} {cc P : Addr} {ps : Array Value} {params : Arguments} {body : Expr} {scope : Scope} {pos : Pos} {E Q : Value → Shared → Prop} (I : Inv X pins σ H s)
    (TB : LamX.TabB X.base X.mg cc P) (hcode : X.env.code = .ref cc) (hP : H P = some (.tbl ps)) (ht : PySem.TriplesOk ps.toList) (ha : ∀ (pos : Pos) (cv : Value), PySem.codeAmong pos ps.toList = some cv → ∃ c, cv = .ref c ∧ H c = some (LamX.CodeO c (lamQ X)))
    (hdef : defaultsOf params X.env = ([], [])) (hfree : ∀ y ∈ scope.names, y.2 = .free → ∃ c, X.env.cells.lookup y.1 = some c)
    (h : ∀ (f c' : Addr) (pm ctv : Value) (H1 : Hp) (s' : Shared), Inv X pins σ H1 s' → Made X P ps H H1 c' → s'.heap.get? f = some (lamF X params body scope pm c' ctv) → H1 f = none → f ∉ frs X.stack → Q (.ref f) s') :
    wpAny (model X.prog X.w) X.A (eval (.Lambda params body scope pos) X.env) Q E s := by
  have bm := TB.bm.keeps I.bk
  have sP : s.heap.get? P = some { cls := .none, data := .fields ps } := I.hok P _ hP
  have nf : ∀ f, s.heap.objs.size ≤ f → f ∉ frs X.stack := by
    intro f hf z
    have z := I.stkSub _ z
    rw [List.mem_cons] at z
    rcases z with e | e
    · exact absurd (Nat.lt_of_lt_of_le (e ▸ I.lt : f < s.heap.objs.size) hf) (Nat.lt_irrefl _)
    · exact I.nofs hf e
  refine PySem.W.kla_eval hdef ?_
  cases q : PySem.codeAmong pos ps.toList with
  | some cv =>
    obtain ⟨c1, rfl, hco⟩ := ha pos cv q
    refine PySem.W.kla_makeFunctionHit (mg := X.mg) (c := cc) (P := P) (ps := ps) (closure_ok hfree) I.ok.glob
      (I.mod.glob.keeps I.bk) hcode (TB.code.keeps I.bk) sP ht q bm
      fun ctv h' tk kx hsz => ?_
    refine h h'.objs.size c1 ((X.mg "__name__").getD .none) ctv H _ (I.kept (t' := tk) fun b o e => Heap.get?_push_of_some _ (kx b o e)) ⟨fun b o e _ => e, hco, ps, hP, ht, fun _ _ z => .inl z⟩ (Heap.get?_push_size _ rfl) (I.hok.fresh hsz) (nf _ hsz)
  | none =>
    refine PySem.W.kla_makeFunction (mg := X.mg) (c := cc) (P := P) (ps := ps) (closure_ok hfree) I.ok.glob
      (I.mod.glob.keeps I.bk) hcode (TB.code.keeps I.bk) sP ht q TB.gP bm
      fun c1 ctv h' tk kx hge hlt hrec htb => ?_
    obtain ⟨c2, oc, vs, t, e2, hoc, hd, hv⟩ := hrec
    cases e2
    have sz : s.heap.objs.size ≤ h'.objs.size := by omega
    have n1 : H c1 = none := I.hok.fresh hge
    have n2 : P ≠ c1 := ne_of_none hP n1
    have J := LamX.inv_table (t' := tk) (q := lamQ X) (more := #[PySem.rawInt pos.line, PySem.rawInt pos.col, .ref c1]) (h' := h'.push (lamF X params body scope ((X.mg "__name__").getD .none) c1 ctv)) I hP
      (fun b o hb e => Heap.get?_push_of_some _ (kx b o hb e)) (Heap.get?_push_of_some _ htb) hge
      ⟨oc, vs, t, Heap.get?_push_of_some _ hoc, hd, hv⟩
    refine h h'.objs.size c1 ((X.mg "__name__").getD .none) ctv _ _ J ⟨fun b o e n => ?_, upd_same, _, (upd_ne n2).trans upd_same, ?_, fun pos' cv z => ?_⟩ (Heap.get?_push_size _ rfl) ?_ (nf _ sz)
    · rw [upd_ne (ne_of_none e n1), upd_ne n]; exact e
    · rw [Array.toList_append]
      exact PySem.TriplesOk_snoc _ _ _ _ ht
    · rw [Array.toList_append] at z
      rcases LamX.among_app _ ht z with z | z
      · exact .inl z
      · exact .inr ⟨c1, z, n1, upd_same⟩
    · have m1 : h'.objs.size ≠ c1 := by omega
      have m2 : h'.objs.size ≠ P := by
        have z : P < s.heap.objs.size := Heap.lt_size sP
        exact Nat.ne_of_gt (Nat.lt_of_lt_of_le z sz)
      rw [upd_ne m1, upd_ne m2]
      exact I.hok.fresh sz
end PV

/-! PWk: call(), where call is a lambda of the caller's. -/
namespace PV
open PySem L2

section
variable {X : Cx} {pins : List (Addr × Obj)} {σ : L2.St} {H : Hp} {s : Shared} {CXg : CXT} {Eg : XK} {Ng : List Str} {qg a : Str} {sg scope : Scope} {g f c' : Addr} {cdg pm ctv : Value} {params : Arguments} {body : Expr} {k i : Nat} {pn : List (Addr × Obj)} {xe : Value → Shared → Prop} {p1 p2 : Pos}
/-- the context of the def that got it -/
abbrev gCx (CXg : CXT) (X : Cx) (Ng : List Str) (qg : Str) (sg : Scope) (g : Addr) (cdg : Value) (s : Shared) (H : Hp) (Eg : XK) : Cx := cxOf CXg X.prog X.w X.K X.mg X.base Ng qg sg g cdg X.A X.stack s H Eg
theorem lam_act {E : L2.St → XK} {tb : XK → TE} (I : Inv X pins σ H s) (L : LamX.LamS X.env.scope scope) (hf : s.heap.get? f = some (lamF X params body scope pm c' ctv)) (hfn : H f = none) (hfr : f ∉ frs X.stack)
    (hb : bindArgs (PySem.W.kla_fn "<lambda>" (lamQ X) params body scope (cloFrom X.env.cells scope.names []) pm (.ref c') ctv) ⟨[], []⟩ = pure [])
    (hx : ∀ σ, PassesAt (L2.CX X.prog X.w) ((gCx CXg X Ng qg sg g cdg s H Eg).tr pn xe) σ (E σ)) (hr : RoomG (k + 1) (gCx CXg X Ng qg sg g cdg s H Eg).A)
    (body_ok : ∀ (A : Around) (outer : List Env) (s : Shared) (H : Hp) (E : XK), RoomG k (A.deeper (LamX.lamEnv X scope s.heap.objs.size f c')) → PE (LamX.lamCx X A outer s H E scope f c') body (tb E))
    (hN : Ng[i]? = some a) (hv : Vis sg a) (hd : (a == ("__debug__" : Str)) = false) (hcd : (a == ("__classdict__" : Str)) = false) :
    PE ((gCx CXg X Ng qg sg g cdg s H Eg).tr pn xe) (.Call (.Name a p1) [] [] p2) (fun σZ HZ Q => σZ[i]? = some (some (.ref f)) ∧ HZ c' = some (LamX.CodeO c' (lamQ X)) ∧ tb (E σZ) σ HZ Q) := by
  refine ⟨fun pZ sZ σZ HZ Q IZ h => ?_⟩
  obtain ⟨h1, h2, h3⟩ := h
  have rd := (pe_var (pos := p1) (i := i) hN hv hd hcd).run pZ sZ σZ HZ (fun v H1 => v = .ref f ∧ H1 = HZ) IZ ⟨_, h1, rfl, rfl⟩
  refine wpAny_Call_Name_kw (thn rd fun u s1 z => ?_)
  obtain ⟨v, H1, J, r, e1, e2⟩ := z
  subst e1
  rw [e2] at J
  have r : u = Value.ref f := r
  subst r
  have un : Un (frs X.stack) [] H HZ s.heap s1.heap := J.base
  have af := un.keep f _ hf hfn hfr (by simp)
  refine PySem.W.callWith_F0 ⟨_, _, _, _, af⟩ (wpAny_call (codeAny_mono (?_ : codeAny (model X.prog X.w) (gCx CXg X Ng qg sg g cdg s H Eg).A (.call (.ref f) ⟨[], []⟩) (CR (L2.CX X.prog X.w) (gCx CXg X Ng qg sg g cdg s H Eg).stack X.prog X.w HZ s1 Q (E σZ)) s1) fun r s' hq => ?_))
  · obtain ⟨⟨oc, vs, t, m1, m2, m3⟩, _, _⟩ := J.hok c' _ h2
    refine PySem.W.kla_callFunE hr.rm.depth af rfl L.co L.gen rfl ⟨c', oc, vs, t, rfl, m1, m2, m3⟩ ?_
    rw [hb]
    refine wpAny_pure (wpAny_newFunctionEnv (fun y hy => (L.own y hy).2)
      (fun y hy => absurd hy (by simp)) (fun hh hns hsb => ?_) L.kind)
    refine ⟨J.nolimit.fresh _ hsb, ?_⟩
    have kp : ∀ b o, s1.heap.get? b = some o → hh.get? b = some o := fun b o e =>
      hsb.extBut b o (Nat.ne_of_lt (Heap.lt_size e)) (Heap.get?_push_of_some _ e)
    have IL := LamX.lam_start2 (f := f) (c' := c') (outer := (gCx CXg X Ng qg sg g cdg s H Eg).stack) (E := E σZ) (tk := s1.toks) I L J.env0 hr.rm.hd un hns kp
    refine PySem.W.kla_codeExpr (wpAny_mono ((body_ok _ _ s1 HZ (E σZ) (hr.deeper _)).run [] _ _ HZ Q IL h3) (fun v s' hq => ?_) fun e s' hq => hq)
    obtain ⟨w, H', K', rv, q⟩ := hq
    exact ⟨w, H', K'.os, K'.bare, K'.base, K'.hok, rv, q⟩
  · cases r with
    | error e => exact hx σZ pZ HZ s1 e s' J hq
    | ok fl =>
      cases fl with
      | ret u => exact J.after hq
      | _ => exact hq.elim
end
end PV

/-! PWl: g(lambda: ..). -/
namespace PV
open PySem L2

def Ot.np : Ot → Ot
  | .ok _ .pk _ => .bad
  | o => o
open Classical in
/-- call(), call the first parameter -/
noncomputable def mThk (T : Hp → V → Prop) (th : Tp → Ot) : ME := fun S tp => match S[(0 : Nat)]? with
  | some (some (.thk T', .frz)) => if T' = T then (th tp).np else .bad
  | _ => .bad
/-- what is frozen -/
def frzS (S : Slots) : Slots := S.map fun x => match x with
  | some (d, .frz) => some (d, .frz)
  | _ => none
theorem frzS_at {S : Slots} {i : Nat} {d : D} {fl : Fl} (h : (frzS S)[i]? = some (some (d, fl))) : fl = .frz ∧ S[i]? = some (some (d, .frz)) := by
  unfold frzS at h
  rw [List.getElem?_map] at h
  cases e : S[i]? with
  | none => rw [e] at h; cases h
  | some x =>
    rw [e] at h
    cases x with
    | none => cases h
    | some p =>
      obtain ⟨d', fl'⟩ := p
      cases fl' with
      | frz => cases h; exact ⟨rfl, rfl⟩
      | own => cases h
      | lck => cases h
/-- g's body: what the answer is of what call() answers -/
structure FnTh (G : Gx) (k : Nat) (x : Str) (semg : (Tp → Ot) → Tp → Ot) : Prop where
  ex : ∃ (g : Addr) (fd : FuncData) (qual a : Str) (params : Arguments) (body : List Stmt) (scope : Scope) (N : List Str) (mb : (Hp → V → Prop) → (Tp → Ot) → MS),
    FunD G.K x qual params body scope [] [] g fd ∧ FnScope N [a] scope ∧ G.mg x = some (.ref g) ∧ Binds G.K fd [a] [] ∧ N[0]? = some a ∧ Vis scope a ∧ (a == ("__debug__" : Str)) = false ∧ (a == ("__classdict__" : Str)) = false ∧
    (∀ T th tp, semg th tp = .bad ∨ semD N.length (mb T th) [(.thk T, false)] tp = semg th tp) ∧
    ∀ (T : Hp → V → Prop) (th : Tp → Ot) (cdv : Value) (Ar : Around) (outer : List Env) (s : Shared) (H : Hp) (E : XK), Cw G k (cxG G N qual scope g cdv Ar outer s H E) →
      (∀ pn xe p1 p2, EvE G ((cxG G N qual scope g cdv Ar outer s H E).tr pn xe) (.Call (.Name a p1) [] [] p2) (mThk T th)) → EvSs G (cxG G N qual scope g cdv Ar outer s H E) body (mb T th)
def mLamC (semg : (Tp → Ot) → Tp → Ot) (m : ME) : ME := fun S tp => (semg (fun tp' => m (frzS S) tp') tp).np
section
variable {G : Gx} {X : Cx} {A : Addr → Prop} {S : Slots} {tp : Tp} {σ : L2.St} {H H1 : Hp}
theorem RelS.made (R : RelS G A S tp σ H) {P c' : Addr} {ps : Array Value} (hP : H P = some (.tbl ps)) (hm : (P, lamQ X) ∈ G.tb) (hu : ∀ p ∈ G.tb, p.1 = P → p.2 = lamQ X) (Md : Made X P ps H H1 c') : RelS G A S tp σ H1 ∧ Kp G H H1 ∧ ¬ A c' := by
  have gP : G.gm P := .inr ⟨_, hm⟩
  have AP := (R.tap P gP).1
  have ke : ∀ b o, H b = some o → ¬ A b → H1 b = some o := fun b o e n => Md.kp b o e fun z => n (z ▸ AP)
  have nn : ∀ a, A a → A a ∨ H a = none := fun a z => .inl z
  have kp : Kp G H H1 := fun b o e n => Md.kp b o e fun z => n (z ▸ gP)
  refine ⟨R.kp kp fun b z => ?_, kp, fun z => ?_⟩
  · obtain ⟨_, o, ho, g⟩ := R.tap b z
    by_cases hb : b = P
    · subst hb
      rw [hP] at ho
      cases ho
      obtain ⟨ps', h1, h2, h3⟩ := Md.tb
      refine ⟨_, h1, fun z => ?_, fun q hq => ⟨ps', rfl, h2, fun pos cv hc => ?_⟩⟩
      · obtain ⟨xs, e, _⟩ := g.tape z
        cases e
      · have eq : q = lamQ X := hu (b, q) hq rfl
        rcases h3 pos cv hc with w | ⟨c, e, e1, e2⟩
        · obtain ⟨ps2, e, _, h4⟩ := g.tab q hq
          cases e
          obtain ⟨c, e1, e2, e3⟩ := h4 pos cv w
          exact ⟨c, e1, ke _ _ e2 e3, e3⟩
        · exact ⟨c, e, by rw [eq]; exact e2, R.free e1⟩
    · exact ⟨o, Md.kp b o ho hb, g.ext' ke nn⟩
  · obtain ⟨o, ho, hn⟩ := R.avd c' z
    by_cases hb : c' = P
    · subst hb
      obtain ⟨ps', h1, _⟩ := Md.tb
      rw [Md.co] at h1
      have := (inferInstance : Nco (.tbl ps')).ne c' (lamQ X)
      exact this (Option.some.inj h1).symm
    · have h2 := Md.kp c' o ho hb
      rw [Md.co] at h2
      exact hn.ne _ _ (Option.some.inj h2).symm
/-- the thunk's meaning: the lambda f made at H1, A avoided -/
def Tlam (A : Addr → Prop) (H1 : Hp) (f : Addr) : Hp → V → Prop := fun H0 v => v = .ref f ∧ ∀ b, ¬ A b → H0 b = H1 b
end
end PV

/-! PWm: the rule for g(lambda: ..). -/
namespace PV
open PySem L2

section
variable {G : Gx} {X : Cx} {A : Addr → Prop} {S : Slots} {tp : Tp} {pins : List (Addr × Obj)} {σ : L2.St} {H : Hp} {s : Shared}
/-- call() in the def that got the lambda -/
theorem x_thk {CXg : CXT} {Eg : XK} {Ng : List Str} {qg a : Str} {sg scope : Scope} {g f c' : Addr} {cdg pm ctv : Value} {params : Arguments} {body : Expr} {k : Nat} {m : ME} {pn : List (Addr × Obj)} {xe : Value → Shared → Prop} {p1 p2 : Pos}
    (R : RelS G A S tp σ H) (nc : ¬ A c') (hc : H c' = some (LamX.CodeO c' (lamQ X))) (I : Inv X pins σ H s) (L : LamX.LamS X.env.scope scope) (hf : s.heap.get? f = some (lamF X params body scope pm c' ctv)) (hfn : H f = none) (hfr : f ∉ frs X.stack)
    (hb : bindArgs (PySem.W.kla_fn "<lambda>" (lamQ X) params body scope (cloFrom X.env.cells scope.names []) pm (.ref c') ctv) ⟨[], []⟩ = pure []) (hr : RoomG (k + 1) (gCx CXg X Ng qg sg g cdg s H Eg).A)
    (body_ok : ∀ (A : Around) (outer : List Env) (s : Shared) (H : Hp) (E : XK), RoomG k (A.deeper (LamX.lamEnv X scope s.heap.objs.size f c')) → EvE G (LamX.lamCx X A outer s H E scope f c') body m)
    (hN : Ng[(0 : Nat)]? = some a) (hv : Vis sg a) (hd : (a == ("__debug__" : Str)) = false) (hcd : (a == ("__classdict__" : Str)) = false) :
    EvE G ((gCx CXg X Ng qg sg g cdg s H Eg).tr pn xe) (.Call (.Name a p1) [] [] p2) (mThk (Tlam A H f) fun tp' => m (frzS S) tp') := by
  intro W tk
  have act := lam_act (p1 := p1) (p2 := p2) (E := fun σ cv dd H' => W cv dd σ H') (tb := fun E => tE G (fun cls d _ H' => E cls d H') m) I L hf hfn hfr hb (fun σ => passesAt tk σ) hr
    (fun A outer s H E hr => body_ok A outer s H E hr _ (takes_of rfl rfl rfl rfl)) hN hv hd hcd
  refine act.imp fun σZ HZ Q ⟨A', Sg, tp', Rg, h⟩ => ?_
  unfold mThk at h
  split at h
  case h_2 => exact h.elim
  rename_i T' e
  split at h
  case isFalse => exact h.elim
  rename_i eT
  subst eT
  obtain ⟨v, h1, h2⟩ := Rg.frz 0 _ e
  cases h2 with
  | thk w kk =>
    obtain ⟨rfl, hH0⟩ := w
    have ngm : ∀ {b}, ¬ A b → ¬ G.gm b := fun n z => n (R.tap _ z).1
    have ke : ∀ b o, H b = some o → ¬ A b → HZ b = some o := fun b o q n => (kk b o (by rw [hH0 b n]; exact q) (ngm n)).1
    have nn : ∀ b, A' b → A b ∨ H b = none := fun b q => by
      by_cases n : A b
      · exact .inl n
      · cases e : H b with
        | none => exact .inr rfl
        | some o => exact absurd q (kk b o (by rw [hH0 b n]; exact e) (ngm n)).2
    refine ⟨h1, ke _ _ hc nc, A', frzS S, tp', ⟨?_, fun i d e => ?_, fun i d fl n e => absurd (frzS_at e).1 n, fun i j a d e fl n h _ _ _ => ?_, Rg.avd, Rg.tap⟩, ?_⟩
    · rw [← R.len]
      exact List.length_map ..
    · obtain ⟨v, q1, q2⟩ := R.frz i d (frzS_at e).2
      exact ⟨v, q1, q2.ext' ke nn⟩
    · exact absurd (frzS_at h).1 (by decide)
    · have h : OutE G W A' Sg σZ HZ Q (m (frzS S) tp').np := h
      revert h
      cases m (frzS S) tp' with
      | ok d k tp2 =>
        cases k with
        | frz => exact fun h v H' r => h v H' ⟨r.1, Rg.after r.1 r.2.1.tap, r.2.2⟩
        | fr =>
          rintro h v H' ⟨kp, a, rfl, ha, R2, ow⟩
          exact h _ H' ⟨kp, a, rfl, ha, Rg.afterNew kp ha ow.objN R2.tap, ow⟩
        | pk => exact fun h => h.elim
      | ex c f tp2 => exact fun h cv dd H' r kp x => h cv dd H' (Rg.after kp r.tap) kp x
      | bad => exact fun h => h
open Classical in
theorem x_lamcall {cc P : Addr} {j k : Nat} {x : Str} {semg : (Tp → Ot) → Tp → Ot} {m : ME} {params : Arguments} {body : Expr} {scope : Scope} {p lpos pos : Pos} (C : Cw G k X) (F : FnTh G (j + 1) x semg) (hj : j + 2 ≤ k) (hg : Gl X x)
    (TB : LamX.TabB X.base X.mg cc P) (hcode : X.env.code = .ref cc) (hm : (P, lamQ X) ∈ G.tb) (hu : ∀ p ∈ G.tb, p.1 = P → p.2 = lamQ X) (L : LamX.LamS X.env.scope scope) (hdef : defaultsOf params X.env = ([], []))
    (hbind : ∀ (q : Str) (cl : List (Str × Addr)) (pm cv ctv : Value), bindArgs (PySem.W.kla_fn "<lambda>" q params body scope cl pm cv ctv) ⟨[], []⟩ = pure [])
    (hbody : ∀ (A : Around) (outer : List Env) (s : Shared) (H : Hp) (E : XK) (f c' : Addr), Cw G j (LamX.lamCx X A outer s H E scope f c') → EvE G (LamX.lamCx X A outer s H E scope f c') body m) (hdb : (x == ("__debug__" : Str)) = false := by decide) :
    EvE G X (.Call (.Name x p) [.Lambda params body scope lpos] [] pos) (mLamC semg m) := by
  obtain ⟨g, fd, qual, a, pg, bg, sg, Ng, mb, FD, Sg, gx, hb, hN, hva, hd, hcd, hsem, hbg⟩ := F.ex
  obtain ⟨oc, od, dV, kV, doc, pm0, an, cdv, ct, osl, efd, lk, hcg, _, _⟩ := FD.ex
  have hk := FD.kp
  subst efd
  have hcx : ∀ (cdv : Value) (Ar : Around) (outer : List Env) (s : Shared) (H : Hp) (E : XK), cxG G Ng qual sg g cdv Ar outer s H E = cxOf (L2.CX X.prog X.w) X.prog X.w X.K X.mg X.base Ng qual sg g cdv Ar outer s H E := by
    intro cdv Ar outer s H E
    rw [C.eP, C.ew, C.eK, C.em, C.eb]
  rw [← C.eK] at hk lk hcg hb
  rw [← C.em] at gx
  intro W tk
  refine ⟨fun pins s σ H Q I h => ?_⟩
  obtain ⟨A, S, tp, R, h⟩ := h
  obtain ⟨hA, o, ho, gP⟩ := R.tap P (.inr ⟨_, hm⟩)
  obtain ⟨ps, rfl, ht, hcs⟩ := gP.tab _ hm
  refine wpAny_Call_Name_kw (ld_glob I hg gx ?_ hdb)
  refine PySem.W.callWith_K (h₀ := X.base) I.ok.mod.kin hk ?_ (by rfl) (by rfl)
  refine (Calls.spliced_cons (lam_mk I TB hcode ho ht (fun pos cv hc => (hcs pos cv hc).imp fun c z => ⟨z.1, z.2.1⟩) hdef (L.has I.ok) fun f c' pm' ctv H1 s' I1 Md hf hfn hfr => ?_) :
    wpAny _ _ (spliced ((false, eval (.Lambda params body scope lpos) X.env) :: backTo pos (starEach [] X.env))) _ _ s)
  refine Calls.spliced_nil ⟨I1.kIn, ?_⟩
  obtain ⟨R1, kp1, nc⟩ := R.made ho hm hu Md
  have Ho := OutE.of R1 kp1 h
  have run : codeAny (model X.prog X.w) X.A (.call (.ref g) ⟨[.ref f], []⟩) (CR (L2.CX X.prog X.w) X.stack X.prog X.w H1 s' Q fun cv dd H' => W cv dd σ H') s' := by
    refine LamX.run_ofS (N := Ng) (ps := [a]) (us := [.ref f]) (vs := [.ref f]) (k := j + 1) lk hcg Sg (C.room.mono hj) I1.env0 (hb s' [.ref f] I1.kIn rfl) (.cons rfl .nil) rfl fun hr' => ?_
    have C1 : Cw G (j + 1) (cxG G Ng qual sg g cdv X.A X.stack s' H1 fun cv dd H' => W cv dd σ H') := ⟨rfl, rfl, rfl, rfl, rfl, Sg.nd, hr', C.gd⟩
    have B := hbg (Tlam A H1 f) (fun tp' => m (frzS S) tp') cdv X.A X.stack s' H1 (fun cv dd H' => W cv dd σ H') C1 fun pn xe p1 p2 => by
      rw [hcx]
      exact x_thk (k := j) R1 nc Md.co I1 L hf hfn hfr (hbind _ _ _ _ _) ⟨hr', C.gd⟩ (fun A outer s H E hr => hbody A outer s H E f c' ⟨C.eP, C.ew, C.eK, C.em, C.eb, C.nd, hr.rm, hr.gd⟩) hN hva hd hcd
    rw [hcx] at B
    have fz : Fz G H1 A (.thk (Tlam A H1 f)) (.ref f) := .thk (H0 := fun b => if A b then none else H1 b) ⟨rfl, fun b n => if_neg n⟩ fun b o q n => by
      by_cases z : A b
      · rw [if_pos z] at q; cases q
      · rw [if_neg z] at q; exact ⟨q, z⟩
    have Rs := parS_rel (N := Ng) (ds := [(.thk (Tlam A H1 f), false)]) R1.avd R1.tap (.fz fz .nil)
    refine ⟨tS G (bodyF A H1) (fun cls d _ H' => W cls d σ H') (mb (Tlam A H1 f) fun tp' => m (frzS S) tp'), B _ _ (takes_of rfl rfl rfl rfl), A, _, tp, Rs.body fun i d e => ?_, OutC.body ?_⟩
    · obtain ⟨b, _, h2⟩ := parS_at e
      cases b <;> cases h2
    · have q := OutE.call R1 Ho (fun d tp' e => by
        unfold mLamC Ot.np at e
        split at e
        · cases e
        · rename_i n
          exact n _ _ e)
      revert q
      unfold mLamC
      rcases hsem (Tlam A H1 f) (fun tp' => m (frzS S) tp') tp with z | z
      · rw [z]; exact fun q => q.elim
      rw [z]
      cases semg (fun tp' => m (frzS S) tp') tp with
      | ok d k tp' => cases k <;> exact fun q => q
      | ex c f tp' => exact fun q => q
      | bad => exact fun q => q
  refine wpAny_call (codeAny_mono run fun r s2 hq => ?_)
  cases r with
  | error e => exact passesAt tk σ _ _ _ e s2 I1 hq
  | ok fl =>
    cases fl with
    | ret u => exact I1.after hq
    | _ => exact hq.elim
end
end PV

/-! PWn: isinstance of a caught error, its fields. -/
namespace PV
open PySem L2

/-- what is known of the error class at C -/
structure ExK (K : PySem.W.Frag) (C : Addr) : Prop where
  cl : (PySem.W.clsIn K C).isSome = true
  ga : PySem.W.findIn K (.ref C) "__getattribute__" = some (some (.builtin "BaseException.__getattribute__"))
  gt : PySem.W.findIn K (.ref C) "__getattr__" = some none
  sb : PySem.W.subIn K (.ref C) (.type "BaseException") = some true
  hd : PySem.W.hasDictIn K C = true
  ac : PySem.W.findIn K (.ref C) "__class__" = some (some (.builtin "object.__class__"))
  sg : PySem.W.specialIn K (.builtin "object.__class__") "__get__" = some (some (.builtin "getset_descriptor.__get__"))
  tk : PySem.W.takesIn K (.builtin "object.__class__") = some true
  ob : PySem.W.mroIn K C (.type "object") = some true
def rIsX (K : PySem.W.Frag) (C a : Addr) (dd : Option Addr) : List V → Hp → VK → Prop := fun xs H Q =>
  ∃ (cl : V) (cv : Value) (b : Bool), xs = [.ref a, cl] ∧ ClsV cl cv ∧ PySem.W.kitOne K (.ref C) cv = some b ∧ (∀ d, dd = some d → ∃ fs, H d = some (.xd fs)) ∧ Q (.bl b) H
theorem call_isX {X : Cx} {a C : Addr} {oe : Obj} {dd : Option Addr} {pn : List (Addr × Obj)} (T : ExK X.K C) (hz : Zc (.ref C) dd oe) (hf : ∃ vs, oe.data = .fields vs) : CallR (X.suite a ((a, oe) :: pn)) (.builtin "isinstance") (rIsX X.K C a dd) := by
  intro pins s σ H xs us Q I r h
  obtain ⟨cl, cv, b, rfl, hcv, e, hdd, q⟩ := h
  obtain ⟨vs, hv⟩ := hf
  have hp := (I.pin (a, oe) (List.mem_append_left _ List.mem_cons_self)).1
  obtain ⟨h1, h2⟩ := hz
  have J : ∃ od, PySem.W.InstAt s.heap a oe C od := by
    cases dd with
    | none =>
      refine ⟨none, hp, h1, ?_, ?_⟩
      · unfold PySem.W.notCls
        rw [hv] <;> rfl
      · rw [h2]; trivial
    | some d =>
      obtain ⟨fs, hd⟩ := hdd d rfl
      obtain ⟨mA, hns, _⟩ := I.hok d _ hd
      obtain ⟨od, ho, _⟩ := lookIn_ns hns
      refine ⟨some od, hp, h1, ?_, ?_⟩
      · unfold PySem.W.notCls
        rw [hv] <;> rfl
      · rw [h2]; exact ho
  obtain ⟨od, J⟩ := J
  cases r with
  | cons rx rr =>
    cases rr with
    | cons rt rr =>
      cases rr
      have rx : _ = Value.ref a := rx
      subst rx
      have ec := hcv.eq rt
      subst ec
      exact PySem.W.kia_one (PySem.W.kitx_exc T.cl T.ga T.gt T.sb T.ac T.sg T.tk T.ob) I.kIn J e (fun z => nomatch z) fun tk => ⟨.bl b, H, I.kept (t' := tk) fun _ _ z => z, rfl, q⟩
/-- isinstance(e, C), e the error that the suite holds: of the class c, its dict d -/
def mIsE (a : Addr) (d : Option Addr) (c : Nat) (fk : Nat → Option Bool) (m : ME) : ME := fun S tp => (m S tp).bind fun x _ tp1 => match x with
  | .exc a' d' c' _ => if a' = a ∧ d' = d ∧ c' = c then (match fk c with
    | some b => .ok (.bl b) .frz tp1
    | none => .bad) else .bad
  | _ => .bad
/-- e.f -/
def mXf (a : Addr) (d : Option Addr) (c : Nat) (fi : Nat → Option Nat) (m : ME) : ME := fun S tp => (m S tp).bind fun x _ tp1 => match x with
  | .exc a' d' c' l => if a' = a ∧ d' = d ∧ c' = c then (match fi c with
    | some i => ofO (l[i]?.map fun d => (d, .frz)) tp1
    | none => .bad) else .bad
  | _ => .bad
section
variable {G : Gx} {X : Cx} {a : Addr} {oe : Obj} {d : Option Addr} {c : Nat} {pn : List (Addr × Obj)} {m : ME} {e : Expr}
theorem Vw.exc {H : Hp} {A : Addr → Prop} {l : List D} {v : V} (h : Vw G H A (.exc a d c l) v) : v = .ref a ∧ Fz G H A (.exc a d c l) v := by
  rcases h with h | ⟨b, _, _, _, h⟩
  · cases h with
    | exc0 => exact ⟨rfl, .exc0⟩
    | exc1 h1 h2 h3 h4 => exact ⟨rfl, .exc1 h1 h2 h3 h4⟩
  · exact h.elim
theorem x_isE {x : Str} {p p2 pos : Pos} {fk : Nat → Option Bool} {cl : V} {cv : Value} (hK : X.K = G.K) (T : ExK G.K (G.ca c)) (hz : Zc (.ref (G.ca c)) d oe) (hf : ∃ vs, oe.data = .fields vs) (hcv : ClsV cl cv) (hfk : ∀ b, fk c = some b → PySem.W.kitOne G.K (.ref (G.ca c)) cv = some b)
    (he : EvE G (X.suite a ((a, oe) :: pn)) e m) (hg : Gl X "isinstance") (hm : X.mg "isinstance" = none) (hx : PE (X.suite a ((a, oe) :: pn)) (.Name x p2) (tC cl))
    (hs : starEach (e :: [.Name x p2]) X.env = (false, eval e X.env) :: starEach [.Name x p2] X.env := by rfl) (hs2 : starEach [.Name x p2] X.env = (false, eval (.Name x p2) X.env) :: starEach [] X.env := by rfl) (hpl : (backTo pos (starEach [.Name x p2] X.env)).any (·.1) = false := by rfl) :
    EvE G (X.suite a ((a, oe) :: pn)) (.Call (.Name "isinstance" p) [e, .Name x p2] [] pos) (mIsE a d c fk m) := by
  rw [← hK] at T
  refine fun W tk => (pe_callB (call_isX (X := X) T hz hf) hg hm PyProof.Rows.boot_isinstance (pa_cons (he W tk) (pa_cons hx pa_nil hs2) hs) (by decide) (by decide) hs hpl).imp fun σ H Q ⟨A, S, tp, R, h⟩ => ⟨A, S, tp, R, (OutE.bind R h).mono fun v H1 _ q => ?_⟩
  obtain ⟨x, k, tp1, r, R1, q⟩ := q
  split at q
  case h_2 => exact q.elim
  rename_i a' d' c' l
  split at q
  case isFalse => exact q.elim
  rename_i hh
  obtain ⟨rfl, rfl, rfl⟩ := hh
  split at q
  case h_2 => exact q.elim
  rename_i b hb
  obtain ⟨rfl, hv⟩ := (r.vw R).exc
  refine ⟨cl, cv, b, rfl, hcv, by rw [hK]; exact hfk b hb, fun d2 ed => ?_, q _ _ ⟨Kp.refl, R1, .bl b⟩⟩
  cases hv with
  | exc0 => cases ed
  | exc1 h1 h2 h3 h4 => cases ed; exact ⟨_, h1⟩
end
end PV

/-! PWo: try / except. -/
namespace PV
open PySem L2

/-- the name of the clause goes; what a suite lets out is not told -/
def So.clr (i : Nat) : So → So
  | .nx S tp => if notLck S i then .nx (S.set i none) tp else .bad
  | .bk S tp => if notLck S i then .bk (S.set i none) tp else .bad
  | .ct S tp => if notLck S i then .ct (S.set i none) tp else .bad
  | .rt d k tp => .rt d k tp
  | .ex _ _ _ _ => .bad
  | .bad => .bad
def So.nex : So → So
  | .ex _ _ _ _ => .bad
  | o => o
open Classical in
/-- the same wherever the error lies -/
noncomputable def uni (f : Addr → Option Addr → So) : So := if h : ∃ o, ∀ a d, f a d = o then h.choose else .bad
theorem uni_eq {f : Addr → Option Addr → So} {o : So} (h : ∀ a d, f a d = o) : uni f = o := by
  have z : ∃ o, ∀ a d, f a d = o := ⟨o, h⟩
  unfold uni
  rw [dif_pos z, ← z.choose_spec default none, h]
noncomputable def mTryAs (i : Nat) (sub : Nat → Option Bool) (mb : MS) (ms : Addr → Option Addr → Nat → MS) : MS := fun S tp => match mb S tp with
  | .ex c f S1 tp1 => match sub c with
    | some true => if notLck S1 i then uni (fun a d => (ms a d c (S1.set i (some (.exc a d c f, .frz))) tp1).clr i) else .bad
    | some false => .ex c f S1 tp1
    | none => .bad
  | o => o
def mTryO (sub : Nat → Option Bool) (mb ms : MS) : MS := fun S tp => match mb S tp with
  | .ex c f S1 tp1 => match sub c with
    | some true => (ms S1 tp1).nex
    | some false => .ex c f S1 tp1
    | none => .bad
  | o => o
section
variable {G : Gx} {X : Cx} {F : Fm} {A : Addr → Prop} {S : Slots} {tp : Tp} {σ : L2.St} {H : Hp} {W : WX} {D : Ends}
theorem RelF.clear (R : RelF G F A S tp σ H) (i : Nat) (hl : notLck S i = true) : RelF G F A (S.set i none) tp (σ.set i none) H := by
  have at_ : ∀ {j : Nat} {p : D × Fl}, (S.set i none)[j]? = some (some p) → i ≠ j ∧ S[j]? = some (some p) := fun {j p} q => by
    by_cases hj : i = j
    · subst hj
      rw [List.getElem?_set, if_pos rfl] at q
      split at q <;> cases q
    · rw [List.getElem?_set_ne hj] at q
      exact ⟨hj, q⟩
  refine ⟨⟨by simp [R.rel.len], fun j d q => ?_, fun j d fl n q => ?_, fun j j' a d e fl n q q' r r' => ?_, R.rel.avd, R.rel.tap⟩, R.kp, R.sub, R.nw, fun j e a q r => ?_, R.pin_set hl, R.tp, R.mm, R.wf⟩
  · obtain ⟨hj, q⟩ := at_ q
    rw [List.getElem?_set_ne hj]
    exact R.rel.frz j d q
  · obtain ⟨hj, q⟩ := at_ q
    rw [List.getElem?_set_ne hj]
    exact R.rel.own j d fl n q
  · obtain ⟨hj, q⟩ := at_ q
    obtain ⟨hj', q'⟩ := at_ q'
    rw [List.getElem?_set_ne hj] at r
    rw [List.getElem?_set_ne hj'] at r'
    exact R.rel.dis j j' a d e fl n q q' r r'
  · obtain ⟨hj, q⟩ := at_ q
    rw [List.getElem?_set_ne hj] at r
    exact R.ow j e a q r
theorem OutS.clr {i : Nat} {o : So} (h : OutS G F W D (o.clr i)) :
    OutS G F (fun _ _ _ _ => False) { nx := fun σ' H' => D.nx (σ'.set i none) H', rt := D.rt, bk := fun σ' H' => D.bk (σ'.set i none) H', ct := fun σ' H' => D.ct (σ'.set i none) H' } o := by
  cases o with
  | nx S tp =>
    have h : OutS G F W D (if notLck S i then .nx (S.set i none) tp else .bad) := h
    split at h
    · rename_i hl
      exact fun A σ H R => h A _ H (R.clear i hl)
    · exact h.elim
  | bk S tp =>
    have h : OutS G F W D (if notLck S i then .bk (S.set i none) tp else .bad) := h
    split at h
    · rename_i hl
      exact fun A σ H R => h A _ H (R.clear i hl)
    · exact h.elim
  | ct S tp =>
    have h : OutS G F W D (if notLck S i then .ct (S.set i none) tp else .bad) := h
    split at h
    · rename_i hl
      exact fun A σ H R => h A _ H (R.clear i hl)
    · exact h.elim
  | rt d k tp => exact h
  | ex c f S tp => exact h.elim
  | bad => exact h.elim
theorem OutS.nex {o : So} (h : OutS G F W D o.nex) : OutS G F (fun _ _ _ _ => False) D o := by
  cases o with
  | ex c f S tp => exact h.elim
  | _ => exact h
theorem OutS.uni {f : Addr → Option Addr → So} (h : OutS G F W D (uni f)) (a : Addr) (d : Option Addr) : OutS G F W D (f a d) := by
  unfold PV.uni at h
  split at h
  · rename_i z
    rw [z.choose_spec a d]
    exact h
  · exact h.elim
theorem ExOk.fz {c : Nat} {fs : List PV.D} {cv : Value} {dd : Option Addr} (a : Addr) (h : ExOk G H A c fs cv dd) : Fz G H A (.exc a dd c fs) (.ref a) := by
  obtain ⟨_, ⟨rfl, rfl⟩ | ⟨d, vs, rfl, h1, h2, h3, h4⟩⟩ := h
  · exact .exc0
  · exact .exc1 h1 h2 h3 h4
theorem s_tryAs {i : Nat} {x n : Str} {cv : Value} {sub : Nat → Option Bool} {body suite : List Stmt} {b₀ : Stmt} {np pos pos' : Pos} {mb : MS} {ms : Addr → Option Addr → Nat → MS} (hs : X.stack = X.env :: X.outer) (hf : X.env.frame = some X.env.locals) (hNd : X.N.Nodup) (hi : X.N[i]? = some n) (hln : X.env.kindOf n = some .local)
    (hc : Names X x cv) (hK : X.K = G.K) (hsub : ∀ c b, sub c = some b → PySem.W.exmOne G.K (.ref (G.ca c)) cv = some b) (hb : ∀ pn xe, EvSs G (X.tr pn xe) body mb)
    (hsu : ∀ a oe d c pn, sub c = some true → Zc (.ref (G.ca c)) d oe → (∃ vs, oe.data = .fields vs) → EvSs G (X.suite a ((a, oe) :: pn)) (b₀ :: suite) (ms a d c)) :
    EvS G X (.Try body [.ExceptHandler (some (.Name x np)) (some n) (b₀ :: suite) pos'] [] [] pos) (mTryAs i sub mb ms) := by
  intro F W tk
  refine (ps_try_as (tb := fun W => tS G F W mb) (ts := fun a cls d D σ H => ∃ c, sub c = some true ∧ cls = .ref (G.ca c) ∧ tS G F (fun _ _ _ _ => False) (ms a d c) D σ H) hs hf hNd hi hln hc tk (fun W pn xe tk' _ => hb pn xe F W tk')
    (fun a oe cls d pn hz hv => ⟨fun pins s σ H D I h => ?_⟩)).imp fun D σ H ⟨A, S, tp, R, h⟩ => ⟨A, S, tp, R, ?_⟩
  · obtain ⟨c, e0, rfl, h⟩ := h
    exact (hsu a oe d c pn e0 hz hv F _ LamX.takes0).run pins s σ H D I h
  · unfold mTryAs at h
    revert h
    cases mb S tp with
    | ex c f S1 tp1 =>
      intro h A' cv' dd σ' H' R' x
      have e := x.1
      have h : OutS G F W D (match sub c with
        | some true => if notLck S1 i then PV.uni (fun a d => (ms a d c (S1.set i (some (.exc a d c f, .frz))) tp1).clr i) else .bad
        | some false => .ex c f S1 tp1
        | none => .bad) := h
      cases hsb : sub c with
      | none => rw [hsb] at h; exact h.elim
      | some b =>
        rw [hsb] at h
        refine ⟨b, by rw [hK, e]; exact hsub c b hsb, fun hb a ha => ?_, fun hb => ?_⟩
        · subst hb
          have h : OutS G F W D (if notLck S1 i then PV.uni (fun a d => (ms a d c (S1.set i (some (.exc a d c f, .frz))) tp1).clr i) else .bad) := h
          split at h
          · rename_i hl
            exact ⟨c, hsb, e, A', _, tp1, R'.setFz i hl (x.fz a), (h.uni a dd).clr⟩
          · exact h.elim
        · subst hb
          exact h A' cv' dd σ' H' R' x
    | nx S tp => exact fun h => h
    | bk S tp => exact fun h => h
    | ct S tp => exact fun h => h
    | rt d k tp => exact fun h => h
    | bad => exact fun h => h
theorem s_tryO {x : Str} {cv : Value} {sub : Nat → Option Bool} {body suite : List Stmt} {b₀ : Stmt} {np pos pos' : Pos} {mb ms : MS} (hs : X.stack = X.env :: X.outer) (hf : X.env.frame = some X.env.locals)
    (hc : Names X x cv) (hK : X.K = G.K) (hsub : ∀ c b, sub c = some b → PySem.W.exmOne G.K (.ref (G.ca c)) cv = some b) (hb : ∀ pn xe, EvSs G (X.tr pn xe) body mb)
    (hsu : ∀ a oe pn, EvSs G (X.suite a ((a, oe) :: pn)) (b₀ :: suite) ms) :
    EvS G X (.Try body [.ExceptHandler (some (.Name x np)) none (b₀ :: suite) pos'] [] [] pos) (mTryO sub mb ms) := by
  intro F W tk
  refine (ps_try_only (tb := fun W => tS G F W mb) (ts := fun a cls d => tS G F (fun _ _ _ _ => False) ms) hs hf hc tk (fun W pn xe tk' _ => hb pn xe F W tk')
    (fun a oe cls d pn hz hv => hsu a oe pn F _ LamX.takes0)).imp fun D σ H ⟨A, S, tp, R, h⟩ => ⟨A, S, tp, R, ?_⟩
  unfold mTryO at h
  revert h
  cases mb S tp with
  | ex c f S1 tp1 =>
    intro h A' cv' dd σ' H' R' x
    have e := x.1
    have h : OutS G F W D (match sub c with
      | some true => (ms S1 tp1).nex
      | some false => .ex c f S1 tp1
      | none => .bad) := h
    cases hsb : sub c with
    | none => rw [hsb] at h; exact h.elim
    | some b =>
      rw [hsb] at h
      refine ⟨b, by rw [hK, e]; exact hsub c b hsb, fun hb a ha => ?_, fun hb => ?_⟩
      · subst hb
        exact ⟨A', S1, tp1, R', OutS.nex h⟩
      · subst hb
        exact h A' cv' dd σ' H' R' x
  | nx S tp => exact fun h => h
  | bk S tp => exact fun h => h
  | ct S tp => exact fun h => h
  | rt d k tp => exact fun h => h
  | bad => exact fun h => h
end
end PV

/-! PWp: defs that call what they got; contexts of try bodies and lambdas; the errors' facts. -/
namespace PV
open PySem L2

open Classical in
/-- the same whatever the thunk -/
noncomputable def uniT (f : (Hp → V → Prop) → Ot) : Ot := if h : ∃ o, ∀ T, f T = o then h.choose else .bad
theorem uniT_eq {f : (Hp → V → Prop) → Ot} {o : Ot} (h : ∀ T, f T = o) : uniT f = o := by
  have z : ∃ o, ∀ T, f T = o := ⟨o, h⟩
  unfold uniT
  rw [dif_pos z, ← z.choose_spec default, h]
theorem uniT_or (f : (Hp → V → Prop) → Ot) (T : Hp → V → Prop) : uniT f = .bad ∨ f T = uniT f := by
  unfold uniT
  split
  · rename_i z
    exact .inr (z.choose_spec T)
  · exact .inl rfl
/-- what a def answers whose one parameter is a thunk -/
noncomputable def semT (n : Nat) (mb : (Hp → V → Prop) → (Tp → Ot) → MS) : (Tp → Ot) → Tp → Ot := fun th tp => uniT fun T => semD n (mb T th) [(.thk T, false)] tp
theorem fnTh {G : Gx} {N : List Str} {x a : Str} {st : Stmt} {k : Nat} {mb : (Hp → V → Prop) → (Tp → Ot) → MS} (h : HasD G x st) (S : FnScope N [a] (defScope st)) (hN : N[(0 : Nat)]? = some a) (hv : Vis (defScope st) a)
    (b : ∀ (kV doc pm : Value) (an : Option Addr) (cdv ct : Value) (us : List Value), us.length = [a].length → bindArgs (PySem.W.fnOf x x (defArgs st) (defBody st) (defScope st) .none kV doc pm an cdv ct) ⟨us, []⟩ = pure ([a].zip us))
    (hb : ∀ (T : Hp → V → Prop) (th : Tp → Ot) (f : Addr) (cdv : Value) (Ar : Around) (outer : List Env) (s : Shared) (H : Hp) (E : XK), Cw G k (cxG G N x (defScope st) f cdv Ar outer s H E) →
      (∀ pn xe p1 p2, EvE G ((cxG G N x (defScope st) f cdv Ar outer s H E).tr pn xe) (.Call (.Name a p1) [] [] p2) (mThk T th)) → EvSs G (cxG G N x (defScope st) f cdv Ar outer s H E) (defBody st) (mb T th))
    (hd : (a == ("__debug__" : Str)) = false := by decide) (hcd : (a == ("__classdict__" : Str)) = false := by decide) : FnTh G k x (semT N.length mb) := by
  obtain ⟨f, fd, F, gx⟩ := h
  exact ⟨f, fd, x, a, defArgs st, defBody st, defScope st, N, mb, F, S, gx, F.bindsN b, hN, hv, hd, hcd, fun T th tp => uniT_or _ T, fun T th => hb T th f⟩
theorem Cw.tr {G : Gx} {k : Nat} {X : Cx} (C : Cw G k X) (pn : List (Addr × Obj)) (xe : Value → Shared → Prop) : Cw G k (X.tr pn xe) := ⟨C.eP, C.ew, C.eK, C.em, C.eb, C.nd, C.room, C.gd⟩
theorem bt_VE : bootBuiltins "ValueError" = some (.type "ValueError") := by decide +kernel
end PV

/-! PWq: the law's def: its first statement makes the tape. -/
namespace PV
open PySem L2

/-- with the tape at a -/
def Gx.on (G : Gx) (a : Addr) : Gx := { G with ah := some a }
def Gx.off (G : Gx) : Gx := { G with ah := none }
section
variable {G : Gx} {a : Addr} {H : Hp} {A : Addr → Prop}
theorem gm_off {b : Addr} (h : G.off.gm b) : (G.on a).gm b := h.elim (fun z => nomatch z) fun z => .inr z
mutual
theorem Fz.on : ∀ {d : D} {v : V}, Fz G.off H A d v → Fz (G.on a) H A d v
  | _, _, .non => .non
  | _, _, .bl b => .bl b
  | _, _, .int i => .int i
  | _, _, .str x => .str x
  | _, _, .tup h r => .tup h (FzL.on r)
  | _, _, .lst h r => .lst h (FzL.on r)
  | _, _, .dct h na r => .dct h na (FzL.on r)
  | _, _, .ins h na k r => .ins (G := G.on a) h na k (FzL.on r)
  | _, _, .scr h r => .scr h (FzL.on r)
  | _, _, .tape h => nomatch h
  | _, _, .exc0 => .exc0
  | _, _, .exc1 h na l r => .exc1 (G := G.on a) h na l (FzL.on r)
  | _, _, .thk w k => .thk w fun b o q m => k b o q fun z => m (gm_off z)
theorem FzL.on : ∀ {ds : List D} {vs : List V}, FzL G.off H A ds vs → FzL (G.on a) H A ds vs
  | _, _, .nil => .nil
  | _, _, .cons r t => .cons (Fz.on r) (FzL.on t)
end
/-- the slots behind the making of the tape -/
def lawS (n : Nat) (d : D) : Slots := some (d, .frz) :: some (.tape, .frz) :: List.replicate n none
theorem RelF.lay {F : Fm} {S : Slots} {σ : L2.St} {tp0 : Tp} {n : Nat} {d : D} {tp : List D} (R : RelF G.off F A S tp0 σ H) (h0 : S[(0 : Nat)]? = some (some (d, .frz))) (h1 : S[(1 : Nat)]? = some (some (.lst tp, .own))) (hl : S.length = n + 2) :
    ∃ a, RelS (G.on a) A (lawS n d) tp σ H := by
  obtain ⟨a, e1, e2, e3, xs, e4, e5⟩ := R.rel.own 1 _ _ (by decide) h1
  obtain ⟨v, q1, q2⟩ := R.rel.frz 0 _ h0
  refine ⟨a, ⟨?_, fun i e he => ?_, fun i e fl hn he => ?_, fun i j b e e' fl hn he _ _ _ => ?_, R.rel.avd, fun b hb => ?_⟩⟩
  · rw [← R.rel.len, hl]; simp [lawS]
  · match i, he with
    | 0, he =>
      cases he
      exact ⟨v, q1, q2.on⟩
    | 1, he =>
      cases he
      exact ⟨.ref a, e1, .tape rfl⟩
    | i + 2, he =>
      have he : (List.replicate n none)[i]? = some (some (e, Fl.frz)) := he
      rw [List.getElem?_replicate] at he
      split at he <;> cases he
  · match i, he with
    | 0, he => cases he; exact absurd rfl hn
    | 1, he => cases he; exact absurd rfl hn
    | i + 2, he =>
      have he : (List.replicate n none)[i]? = some (some (e, fl)) := he
      rw [List.getElem?_replicate] at he
      split at he <;> cases he
  · match i, he with
    | 0, he => cases he
    | 1, he => cases he
    | i + 2, he =>
      have he : (List.replicate n none)[i]? = some (some (e, Fl.own)) := he
      rw [List.getElem?_replicate] at he
      split at he <;> cases he
  · rcases hb with hb | ⟨q, hq⟩
    · have hb : some a = some b := hb
      cases hb
      exact ⟨e2, _, e4, fun _ => ⟨xs, rfl, e5.on⟩, fun q hq => absurd (.inr ⟨q, hq⟩) e3⟩
    · obtain ⟨z1, o, z2, z3⟩ := R.rel.tap b (.inr ⟨q, hq⟩)
      refine ⟨z1, o, z2, fun z => ?_, fun q hq => z3.tab q hq⟩
      have z : some a = some b := z
      cases z
      exact absurd (.inr ⟨q, hq⟩) e3
end
end PV

/-! PWr: the law's promise. -/
namespace PV
open PySem L2

/-- the law's promise: of a script that is ok it answers True, and raises nothing -/
def spL (G : Gx) (ok : List Int → Prop) : Sp := fun vs H Q _ => ∃ (a : Addr) (ns : List Int), vs = [.ref a] ∧ SqL G.K H a (ns.map V.int) ∧ ok ns ∧ (∀ p ∈ G.tb, H p.1 = some (.tbl #[])) ∧ ∀ H', Q (.bl true) H'
theorem fzl_ints {G : Gx} {H : Hp} {A : Addr → Prop} : ∀ ns : List Int, FzL G H A (ns.map D.int) (ns.map V.int)
  | [] => .nil
  | i :: ns => .cons (.int i) (fzl_ints ns)
/-- what the law's body says of a script: m0 its first statement, m the rest -/
def LawM (n : Nat) (m0 m : MS) (ns : List Int) : Prop := ∃ S tp0 tp tp', m0 (parS [(.scr (ns.map D.int), false)] (n + 2)) [] = .nx S tp0 ∧ S[(0 : Nat)]? = some (some (.scr (ns.map D.int), .frz)) ∧ S[(1 : Nat)]? = some (some (.lst tp, .own)) ∧ S.length = n + 2 ∧
  m (lawS n (.scr (ns.map D.int))) tp = .rt (.bl true) .frz tp'
theorem law_fn {G : Gx} {N : List Str} {x p : Str} {qual : Str} {params : Arguments} {st0 : Stmt} {rest : List Stmt} {scope : Scope} {f : Addr} {fd : FuncData} {k n : Nat} {m0 m : MS} {cc : Addr} {ok : List Int → Prop}
    (F : FunD G.K x qual params (st0 :: rest) scope [] [] f fd) (hcc : fd.code = .ref cc) (S : FnScope N [p] scope) (hN : N.length = n + 2) (nT : ∀ p ∈ G.tb, G.K.lookup p.1 = none)
    (h0 : ∀ (Ar : Around) (outer : List Env) (s : Shared) (H : Hp) (E : XK), Cw G.off k (cxG G N qual scope f (.ref cc) Ar outer s H E) → EvS G.off (cxG G N qual scope f (.ref cc) Ar outer s H E) st0 m0)
    (h1 : ∀ (a : Addr) (Ar : Around) (outer : List Env) (s : Shared) (H : Hp) (E : XK), Cw (G.on a) k (cxG G N qual scope f (.ref cc) Ar outer s H E) → EvSs (G.on a) (cxG G N qual scope f (.ref cc) Ar outer s H E) rest m)
    (law : ∀ ns, ok ns → LawM n m0 m ns) : FnOkG G.P G.w G.K G.mg G.base (L2.CX G.P G.w) (k + 1) f fd [p] (spL G ok) := by
  obtain ⟨oc, od, dV, kV, doc, pm, an, cdv, ct, osl, rfl, lk, hcd, _, _⟩ := F.ex
  have hcc : cdv = .ref cc := hcc
  subst hcc
  refine okG2 lk hcd S (fun vs H Q E h => ?_) fun Ar outer s H vs Q E hr h => ?_
  · obtain ⟨a, ns, rfl, _⟩ := h
    rfl
  · obtain ⟨a, ns, rfl, hS, hok, hT, hQ⟩ := h
    obtain ⟨S1, tp0, tp, tp', e0, e1, e2, e3, em⟩ := law ns hok
    have C0 : Cw G.off k (cxG G N qual scope f (.ref cc) Ar outer s H E) := ⟨rfl, rfl, rfl, rfl, rfl, S.nd, hr.rm, hr.gd⟩
    have C1 : ∀ b, Cw (G.on b) k (cxG G N qual scope f (.ref cc) Ar outer s H E) := fun b => ⟨rfl, rfl, rfl, rfl, rfl, S.nd, hr.rm, hr.gd⟩
    have W := takes_of (X := cxG G N qual scope f (.ref cc) Ar outer s H E) (E := E) rfl rfl rfl rfl
    -- the script lies apart from the tables
    have na : ¬ G.off.gm a := fun z => by
      rcases z with z | ⟨q, hq⟩
      · cases z
      · have hq : (a, q) ∈ G.tb := hq
        have e := hT _ hq
        rcases hS with (h | ⟨o, h⟩) | ⟨o, its, nn, hk, hc, hd, hv, _⟩
        · rw [h] at e; cases e
        · rw [h] at e; cases e
        · rw [show List.lookup a G.K = none from nT _ hq] at hk; cases hk
    have sc : Fz G.off H G.off.gm (.scr (ns.map D.int)) (.ref a) := .scr (ScrAt.of (G := G.off) hS na) (fzl_ints ns)
    have avd : Avd G.off.gm H := fun b z => by
      rcases z with z | ⟨q, hq⟩
      · cases z
      · exact ⟨_, hT _ hq, inferInstance⟩
    have tap : TapOk G.off H G.off.gm [] := fun b z => by
      rcases z with z | ⟨q, hq⟩
      · cases z
      · refine ⟨.inr ⟨q, hq⟩, _, hT _ hq, fun z => (nomatch z), fun q' hq' => ⟨#[], rfl, True.intro, fun pos cv hc => ?_⟩⟩
        have z : PySem.codeAmong pos [] = some cv := hc
        simp [PySem.codeAmong] at z
    have R := parS_rel (N := N) (ds := [(.scr (ns.map D.int), false)]) avd tap (.fz sc .nil)
    have RF : RelF G.off (bodyF G.off.gm H) G.off.gm _ _ _ H := R.body fun i d e => by
      obtain ⟨b, _, h2⟩ := parS_at e
      cases b <;> cases h2
    have HR : PSs (cxG G N qual scope f (.ref cc) Ar outer s H E) rest (fun D σ H' => ∃ b A1, tS (G.on b) (bodyF A1 H') (fun cls d _ H => E cls d H) m D σ H') := by
      refine ⟨fun pins s' σ' H' D I h => ?_⟩
      obtain ⟨b, A1, h⟩ := h
      exact (h1 b Ar outer s H E (C1 b) (bodyF A1 H') _ W).run pins s' σ' H' D I h
    refine ⟨_, pss_cons (h0 Ar outer s H E C0 (bodyF G.off.gm H) _ W) HR, G.off.gm, _, [], RF, ?_⟩
    · rw [hN, e0]
      intro A' σ' H' R'
      obtain ⟨b, R2⟩ := R'.lay e1 e2 e3
      refine ⟨b, A', A', _, tp, R2.body fun i d e => ?_, ?_⟩
      · unfold lawS at e
        match i, e with
        | 0, e => cases e
        | 1, e => cases e
        | i + 2, e =>
          have e : (List.replicate n none)[i]? = some (some (d, Fl.own)) := e
          rw [List.getElem?_replicate] at e
          split at e <;> cases e
      · rw [em]
        rintro v H2 ⟨A2, S2, σ2, R2, q⟩
        cases q
        exact hQ H2
end PV

/-! PWs: own == and != as tests. -/
namespace PV
open PySem L2
section
variable {G : Gx} {X : Cx} {k j c : Nat} {ps : List Str} {sem : Sem1} {ma mb : ME} {A : Addr → Prop} {S : Slots} {tp : Tp} {σ : L2.St} {H : Hp} {W : WX}
theorem OutB.toE {Q : Bool → Hp → Prop} {o : Ot} (R : RelS G A S tp σ H) (h : OutB G W A S σ H Q o) : OutE G W A S σ H (fun v H' => ∃ b, v = .bl b ∧ Q b H') o := by
  cases o with
  | ok d k tp' =>
    cases d with
    | bl b => exact fun v H' r => ⟨b, (r.vw R).bl, h H' r.1 (r.rel R)⟩
    | _ => exact h.elim
  | ex c f tp' => exact h
  | bad => exact h
theorem t_eqO {a b : Expr} {pos : Pos} (C : Cw G k X) (E : FnE G j c ps sem) (hj : j ≤ k) (ha : EvE G X a ma) (hb : EvE G X b mb) : EvT G X (.Compare a [.Eq] [b] pos) (mEqO c sem false ma mb) :=
  fun W tk => (pt_cmpR (op_eqO C E hj) (ha W tk) (hb W tk) (nomark _)).imp fun _ _ _ ⟨A, S, tp, R, h⟩ => eqO_reads ⟨A, S, tp, R, OutB.toE R h⟩
theorem t_neO {a b : Expr} {pos : Pos} (C : Cw G k X) (E : FnE G j c ps sem) (hj : j + 1 ≤ k) (ha : EvE G X a ma) (hb : EvE G X b mb) : EvT G X (.Compare a [.NotEq] [b] pos) (mEqO c sem true ma mb) :=
  fun W tk => (pt_cmpR (op_neO C E hj) (ha W tk) (hb W tk) (nomark _)).imp fun _ _ _ ⟨A, S, tp, R, h⟩ => eqO_reads ⟨A, S, tp, R, OutB.toE R h⟩
end
end PV

set_option maxHeartbeats 4000000
/-! PWt: tuple * n for n at most 1. -/
namespace PV
open PySem PySem.Spec PyProof.Rows L2
theorem mul_one (l : Addr) (items : Array Value) (n : Nat) (dd : Option Addr) (sl : Array (Option Value)) (u : Tok) :
    Meets (Builtin.«tuple.__mul__» ⟨[.ref l, .int 1 u], []⟩) (fun _ R s => s.heap.get? l = some { cls := .type "tuple", dict := dd, data := .seq items n, slots := sl } ∧ R (.ok (.ret (.ref l))) s) :=
  .of_wp fun prog w A R s h => by
    obtain ⟨hp, g, d, tk, os⟩ := s
    obtain ⟨hl, h⟩ := h
    have f1 := AutoSeq1.idx_int
    wp_walk using wpAny_loadPart' hl
    all_goals first
      | exact ⟨_, rfl, h⟩
      | skip
theorem mul_zero (l : Addr) (items : Array Value) (n : Nat) (dd : Option Addr) (sl : Array (Option Value)) (x : Int) (u : Tok) (c0 : (decide (x < -(2 ^ 63)) || decide (x ≥ 2 ^ 63)) = false) (c1 : (items.isEmpty || x == 1) = false) (c2 : (decide (x ≤ 0) || items.isEmpty) = true) :
    Meets (Builtin.«tuple.__mul__» ⟨[.ref l, .int x u], []⟩) (fun _ R s => s.heap.get? l = some { cls := .type "tuple", dict := dd, data := .seq items n, slots := sl } ∧
      R (.ok (.ret (Value.ref s.heap.objs.size))) { s with heap := s.heap.push { cls := Value.type "tuple", data := Data.seq #[] }, toks := s.toks }) :=
  .of_wp fun prog w A R s h => by
    obtain ⟨hp, g, d, tk, os⟩ := s
    obtain ⟨hl, h⟩ := h
    have f1 := AutoSeq1.idx_int
    wp_walk using wpAny_loadPart' hl
    have e0 : ¬ (decide (x < -(2 ^ 63)) || decide (x ≥ 2 ^ 63)) = true := fun z => nomatch c0.symm.trans z
    have e1 : ¬ (items.isEmpty || x == 1) = true := fun z => nomatch c1.symm.trans z
    repeat (first
      | (refine wpAny_ite_false (decide_eq_false e0) ?_; wp_walk using wpAny_loadPart' hl)
      | (refine wpAny_ite_false (decide_eq_false e1) ?_; wp_walk using wpAny_loadPart' hl)
      | (refine wpAny_ite_true (decide_eq_true c2) ?_; wp_walk using wpAny_loadPart' hl))
    exact ⟨_, rfl, h⟩
section
variable {X : Cx}
theorem op_repT1 : OpR X (binaryOp .Mult) (fun x y H Q => ∃ l xs, x = .ref l ∧ y = .int 1 ∧ SqT X.K H l xs ∧ Q (.ref l) H) := by
  intro pins s σ H x y v u Q I rx ry h
  obtain ⟨l, xs, rfl, rfl, hT, q⟩ := h
  cases rx
  obtain ⟨t, rfl⟩ := ry
  obtain ⟨its, r, ⟨⟨cls, dd, data, sl⟩, ho, hc, n, hd⟩, hs⟩ := I.tuple hT
  simp only at hc hd
  subst hc hd
  refine wpAny_binaryOp_repeat_ref (T := "tuple") (U := "int") (by decide) ⟨_, ho, rfl⟩ (fun s' => typeIs_int s' 1 t) noFill_tuple_mul
    F.fills_int_mul F.slot_int_rmul repeat_tuple F.slot_int_index.lookup ?_
  refine call_meets F.slot_int_rmul (typeIs_int s 1 t) F.entry_int_rmul
    (F.args_int_rmul_2 _ _) (int_rmul_tuple 1 t l its.toArray n dd sl) ⟨ho, rfl, ⟨_, ho, rfl⟩, ?_⟩
  refine call_meets F.slot_tuple_mul ⟨_, ho, rfl⟩ F.entry_tuple_mul
    (F.args_tuple_mul_2 _ _) (mul_one l its.toArray n dd sl t) ⟨ho, ?_⟩
  exact ⟨.ref l, H, I, rfl, q⟩
theorem op_repT0 : OpR X (binaryOp .Mult) (fun x y H Q => ∃ l k xs, x = .ref l ∧ y = .int k ∧ SqT X.K H l xs ∧ xs ≠ [] ∧ -(2 ^ 63) ≤ k ∧ k ≤ 0 ∧ ∀ p, H p = none → Q (.ref p) (upd H p (.tup []))) := by
  intro pins s σ H x y v u Q I rx ry h
  obtain ⟨l, k, xs, rfl, rfl, hT, hne, h1, h2, q⟩ := h
  cases rx
  obtain ⟨t, rfl⟩ := ry
  obtain ⟨its, r, ⟨⟨cls, dd, data, sl⟩, ho, hc, n, hd⟩, hs⟩ := I.tuple hT
  simp only at hc hd
  subst hc hd
  have en : its.toArray.isEmpty = false := by
    cases its with
    | nil => cases r; exact absurd rfl hne
    | cons a b => rfl
  have c0 : (decide (k < -(2 ^ 63)) || decide (k ≥ 2 ^ 63)) = false := by
    rw [Bool.or_eq_false_iff]
    exact ⟨decide_eq_false (by omega), decide_eq_false (by omega)⟩
  have c1 : (its.toArray.isEmpty || k == 1) = false := by
    rw [en]
    exact beq_eq_false_iff_ne.mpr (by omega)
  have c2 : (decide (k ≤ 0) || its.toArray.isEmpty) = true := by
    rw [decide_eq_true h2]; rfl
  refine wpAny_binaryOp_repeat_ref (T := "tuple") (U := "int") (by decide) ⟨_, ho, rfl⟩ (fun s' => typeIs_int s' k t) noFill_tuple_mul
    F.fills_int_mul F.slot_int_rmul repeat_tuple F.slot_int_index.lookup ?_
  refine call_meets F.slot_int_rmul (typeIs_int s k t) F.entry_int_rmul
    (F.args_int_rmul_2 _ _) (int_rmul_tuple k t l its.toArray n dd sl) ⟨ho, rfl, ⟨_, ho, rfl⟩, ?_⟩
  refine call_meets F.slot_tuple_mul ⟨_, ho, rfl⟩ F.entry_tuple_mul
    (F.args_tuple_mul_2 _ _) (mul_zero l its.toArray n dd sl k t c0 c1 c2) ⟨ho, ?_⟩
  refine ⟨.ref s.heap.objs.size, _, I.laid (t' := s.toks) (o := .tup []) (fun b ob z => Heap.get?_push_of_some _ z) (Nat.le_refl _) ?_, rfl, q _ (I.hok.fresh (Nat.le_refl _))⟩
  exact ⟨Nat.zero_le _, [], .nil, IsTup.new _ _⟩
end
def fMul3 : F2
  | .tup xs, .int k => if k = 1 then some (.tup xs, .frz) else if decide (-(2 ^ 63) ≤ k) && decide (k ≤ 0) && !xs.isEmpty then some (.tup [], .frz) else fMul2 (.tup xs) (.int k)
  | d, e => fMul2 d e
theorem v_mul3 {G : Gx} {X : Cx} (hK : X.K = G.K) : OpR X (binaryOp .Mult) (rV2 G fMul3) := by
  intro pins s σ H x y v u Q I rx ry h
  obtain ⟨A, d, e, r, k, hA, h1, h2, hf, q⟩ := h
  unfold fMul3 at hf
  split at hf
  · rename_i xs k
    split at hf
    · rename_i hk
      subst hk
      cases hf
      have hz : Fz G H A (.tup xs) x := h1.elim id fun ⟨_, _, _, _, z⟩ => z.elim
      obtain ⟨a, ys, rfl, ha, r1⟩ := h1.tup
      exact op_repT1 pins s σ H _ y v u Q I rx ry ⟨a, ys, rfl, h2.int, by rw [hK]; exact ha.sq, q _ _ (.frz hz)⟩
    · split at hf
      · rename_i hz
        cases hf
        rw [Bool.and_eq_true, Bool.and_eq_true] at hz
        obtain ⟨a, ys, rfl, ha, r1⟩ := h1.tup
        have hl := r1.length
        refine op_repT0 pins s σ H _ y v u Q I rx ry ⟨a, k, ys, rfl, h2.int, by rw [hK]; exact ha.sq, fun z => ?_, of_decide_eq_true hz.1.1, of_decide_eq_true hz.1.2, fun p hp => q _ _ (.tup hA hp .nil)⟩
        subst z
        have : xs = [] := List.length_eq_zero_iff.mp (by simpa using hl)
        subst this
        simp at hz
      · exact v_mul hK pins s σ H x y v u Q I rx ry ⟨A, _, _, r, _, hA, h1, h2, hf, q⟩
  · exact v_mul hK pins s σ H x y v u Q I rx ry ⟨A, _, _, r, _, hA, h1, h2, hf, q⟩
end PV

set_option maxHeartbeats 2000000
/-! PWu: repr, max and min of a sequence, sum of a tuple, in a tuple, count, index, texts compared. -/
namespace PV
open PySem PySem.Spec PyProof.Rows L2
/-! ### repr -/
def D.showB (d : D) : Bool := d.pl0 && (d.py.showable && (decide (d.dep ≤ 60) && decide (d.py.shown.length ≤ 16777216)))
def fRepr : FL
  | [d] => if d.showB then some (.str d.py.shown, .frz) else none
  | _ => none
theorem v_repr {G : Gx} {X : Cx} {k : Nat} (C : Cw G k X) : CallR X (.builtin "repr") (rVL G fRepr) := by
  intro pins s σ H xs us Q I r h
  obtain ⟨A, ds, d, kk, hA, hv, hf, q⟩ := h
  unfold fRepr at hf
  split at hf
  · rename_i d
    split at hf
    · rename_i hb
      cases hf
      obtain ⟨v, rfl, h1⟩ := hv.one
      unfold D.showB at hb
      rw [Bool.and_eq_true, Bool.and_eq_true, Bool.and_eq_true] at hb
      obtain ⟨p1, p2, p3, p4⟩ := hb
      have hdp := h1.dp p1
      rw [← C.eK] at hdp
      obtain ⟨u, rfl, ru⟩ := vals1 r
      obtain ⟨as, R⟩ := Dp.reads I d.py v u hdp ru
      have hd := D.py_lay p1
      have hz : d.py.shown.length ≤ sizeLine := sz_le (of_decide_eq_true p4)
      have fin : Q (.str d.py.shown) H := q _ _ (.frz (.str _))
      have hu := C.room.un
      have p3 : d.py.depth ≤ 60 := by rw [hd.2]; exact of_decide_eq_true p3
      have hnd := PyData.hasDict_of_canLay d.py hd.1
      generalize d.py = y at *
      have big : ∀ a, u = .ref a → wpAny (model X.prog X.w) X.A (call (.builtin "repr") [u]) (EP X pins σ Q) X.xe s := fun a e => by
        subst e
        exact repr_of_reads' R p2 (fun z => by rw [hnd] at z; cases z) C.gd (by omega) (fun _ _ e => e) (fun h' u tk hk => ⟨.str _, H, I.kept hk, ⟨_, rfl⟩, fin⟩) hz
      cases R with
      | none => exact PySem.P.repr_of_none ⟨.str _, H, I.tok _, ⟨_, rfl⟩, by rw [PyData.shown_none] at fin; exact fin⟩
      | bool b => exact PySem.P.repr_of_bool ⟨.str _, H, I.tok _, ⟨_, rfl⟩, by rw [PyData.shown_bool] at fin; exact fin⟩
      | int i t => exact PySem.P.repr_of_int (by unfold PyData.showable at p2; exact of_decide_eq_true p2) ⟨.str _, H, I.tok _, ⟨_, rfl⟩, by rw [PyData.shown_int] at fin; exact fin⟩
      | str x t => exact PySem.P.repr_of_str ⟨.str _, H, I.tok _, ⟨_, rfl⟩, by rw [PyData.shown_str] at fin; exact fin⟩ (by rw [PyData.shown_str] at hz; exact hz)
      | list h1 h2 h3 h4 => exact big _ rfl
      | tuple h1 h2 h3 h4 => exact big _ rfl
      | dict h1 h2 h3 h4 h5 => exact big _ rfl
    · cases hf
  · cases hf
/-! ### texts compared, whatever their signs -/
def fEq3 : F2
  | .str x, .str y => some (.bl (x == y), .frz)
  | d, e => fEq d e
def fNe3 : F2
  | .str x, .str y => some (.bl (!(x == y)), .frz)
  | d, e => fNe d e
theorem v_eq3 {G : Gx} {X : Cx} (hK : X.K = G.K) (hu : X.A.units + 64 < cLine) : OpR X (compareOp .Eq) (rV2 G fEq3) := by
  intro pins s σ H x y v u Q I rx ry h
  obtain ⟨A, d, e, r, k, hA, h1, h2, hf, q⟩ := h
  unfold fEq3 at hf
  split at hf
  · cases hf
    rw [h1.str] at rx
    rw [h2.str] at ry
    obtain ⟨t, rfl⟩ := rx
    obtain ⟨t', rfl⟩ := ry
    exact PyProof.Rows.eq_str ⟨.bl _, H, I, rfl, q _ _ (.frz (.bl _))⟩
  · exact v_eq hK hu pins s σ H x y v u Q I rx ry ⟨A, d, e, r, k, hA, h1, h2, hf, q⟩
theorem v_ne3 {G : Gx} {X : Cx} (hK : X.K = G.K) (hu : X.A.units + 64 < cLine) : OpR X (compareOp .NotEq) (rV2 G fNe3) := by
  intro pins s σ H x y v u Q I rx ry h
  obtain ⟨A, d, e, r, k, hA, h1, h2, hf, q⟩ := h
  unfold fNe3 at hf
  split at hf
  · cases hf
    rw [h1.str] at rx
    rw [h2.str] at ry
    obtain ⟨t, rfl⟩ := rx
    obtain ⟨t', rfl⟩ := ry
    exact PyProof.Rows.ne_str ⟨.bl _, H, I, rfl, q _ _ (.frz (.bl _))⟩
  · exact v_ne hK hu pins s σ H x y v u Q I rx ry ⟨A, d, e, r, k, hA, h1, h2, hf, q⟩
/-! ### in a list, in a tuple -/
def fIn3 (n : Bool) : F2 := fun d e => match e with
  | .lst ds => if d.ok && (D.lst ds).ok then some (.bl (xor n (ds.any fun z => D.eqb z d)), .frz) else none
  | .tup ds => if d.ok && (D.tup ds).ok then some (.bl (xor n (ds.any fun z => D.eqb z d)), .frz) else none
  | _ => none
theorem in_room {u a b : Nat} (h : u + 65 < cLine) (hb : b ≤ 60) : u + 1 + min a b < cLine := by omega
theorem v_in3 {G : Gx} {X : Cx} (hK : X.K = G.K) (hu : X.A.units + 65 < cLine) : OpR X (compareOp .In) (rV2 G (fIn3 false)) := by
  intro pins s σ H x y v u Q I rx ry h
  obtain ⟨A, d, e, r, k, hA, h1, h2, hf, q⟩ := h
  unfold fIn3 at hf
  split at hf
  · rename_i ds
    split at hf
    · rename_i hz
      rw [Bool.false_xor] at hf
      exact v_in hK hu pins s σ H x y v u Q I rx ry ⟨A, d, _, r, k, hA, h1, h2, by unfold fIn; dsimp only; rw [if_pos hz]; exact hf, q⟩
    · cases hf
  · rename_i ds
    split at hf
    · rename_i hz
      cases hf
      rw [Bool.and_eq_true] at hz
      obtain ⟨p1, s1⟩ := D.ok_shaped hz.1
      obtain ⟨p2, s2⟩ := D.ok_shaped hz.2
      have d1 := h1.dp p1
      have d2 := h2.dp p2
      rw [← hK] at d1 d2
      obtain ⟨as, R1⟩ := Dp.reads I _ _ _ d1 rx
      obtain ⟨bs, R2⟩ := Dp.reads I _ _ _ d2 ry
      have c1 := D.py_lay p1
      have c2 := D.py_lay p2
      have dd := of_decide_eq_true (Bool.and_eq_true_iff.mp (show (d.pl0 && decide (d.dep ≤ 60)) = true from hz.1)).2
      refine SeqAt.in_tuple_data (xs := D.pys ds) R2 R1 (PyData.plainAll_of_canLay0 _ (D.pys_lay p2).1) (PyData.plain_of_canLay0 _ c1.1) (in_room hu (by rw [c1.2]; exact dd)) ⟨.bl _, H, I, rfl, ?_⟩
      rw [any_eqv p1 p2]
      have := q _ _ (.frz (.bl (xor false (ds.any fun z => D.eqb z d))))
      rwa [Bool.false_xor] at this
    · cases hf
  · cases hf
theorem v_notin3 {G : Gx} {X : Cx} (hK : X.K = G.K) (hu : X.A.units + 65 < cLine) : OpR X (compareOp .NotIn) (rV2 G (fIn3 true)) := by
  intro pins s σ H x y v u Q I rx ry h
  obtain ⟨A, d, e, r, k, hA, h1, h2, hf, q⟩ := h
  unfold fIn3 at hf
  split at hf
  · rename_i ds
    split at hf
    · rename_i hz
      rw [Bool.true_xor] at hf
      exact v_notin hK hu pins s σ H x y v u Q I rx ry ⟨A, d, _, r, k, hA, h1, h2, by unfold fNotIn; dsimp only; rw [if_pos hz]; exact hf, q⟩
    · cases hf
  · rename_i ds
    split at hf
    · rename_i hz
      cases hf
      rw [Bool.and_eq_true] at hz
      obtain ⟨p1, s1⟩ := D.ok_shaped hz.1
      obtain ⟨p2, s2⟩ := D.ok_shaped hz.2
      have d1 := h1.dp p1
      have d2 := h2.dp p2
      rw [← hK] at d1 d2
      obtain ⟨as, R1⟩ := Dp.reads I _ _ _ d1 rx
      obtain ⟨bs, R2⟩ := Dp.reads I _ _ _ d2 ry
      have c1 := D.py_lay p1
      have c2 := D.py_lay p2
      have dd := of_decide_eq_true (Bool.and_eq_true_iff.mp (show (d.pl0 && decide (d.dep ≤ 60)) = true from hz.1)).2
      refine SeqAt.notIn_tuple_data (xs := D.pys ds) R2 R1 (PyData.plainAll_of_canLay0 _ (D.pys_lay p2).1) (PyData.plain_of_canLay0 _ c1.1) (in_room hu (by rw [c1.2]; exact dd)) ⟨.bl _, H, I, rfl, ?_⟩
      rw [any_eqv p1 p2]
      have := q _ _ (.frz (.bl (xor true (ds.any fun z => D.eqb z d))))
      rwa [Bool.true_xor] at this
    · cases hf
  · cases hf
theorem isB_in3 (n : Bool) : isB (fIn3 n) := by
  intro d e r k h
  unfold fIn3 at h
  split at h
  · split at h
    · cases h; exact ⟨_, rfl⟩
    · cases h
  · split at h
    · cases h; exact ⟨_, rfl⟩
    · cases h
  · cases h
end PV

/-! PWv: max, min and sum of a list or a tuple of ints; count, index. -/
namespace PV
open PySem PySem.Spec PyProof.Rows L2
theorem bt_repr : bootBuiltins "repr" = some (.builtin "repr") := by decide +kernel
def fMax1 : FL
  | [d] => (seqD d).bind fun p => match toInts p.2 with
    | some (i :: is) => some (.int (is.foldl max i), .frz)
    | _ => none
  | _ => none
def fMin1 : FL
  | [d] => (seqD d).bind fun p => match toInts p.2 with
    | some (i :: is) => some (.int (is.foldl min i), .frz)
    | _ => none
  | _ => none
def fSum1 : FL
  | [d] => (seqD d).bind fun p => (toInts p.2).map fun is => (.int is.sum, .frz)
  | _ => none
section
variable {G : Gx} {X : Cx} {k : Nat} {A : Addr → Prop} {H : Hp} {v : V}
theorem pys_ints : ∀ is : List Int, D.pys (is.map D.int) = is.map PyData.int
  | [] => rfl
  | i :: is => by
    rw [List.map_cons, List.map_cons, ← pys_ints is]
    rfl
theorem pls0_ints (is : List Int) : D.pls0 (is.map D.int) = true := by
  induction is with
  | nil => rfl
  | cons i is ih =>
    rw [List.map_cons]
    unfold D.pls0
    rw [ih]; rfl
/-- the items of a sequence, as the heap has them -/
theorem Vw.seq {pins : List (Addr × Obj)} {σ : L2.St} {s : Shared} {d : D} {b : Bool} {ds : List D} {u : Value} (hK : X.K = G.K) (I : Inv X pins σ H s) (h : Vw G H A d v) (e : seqD d = some (b, ds)) (ru : RelV v u) (p : D.pls0 ds = true) :
    ∃ (l : Addr) (its : List Value) (xs : List V) (as : List Addr), u = .ref l ∧ Vals xs its ∧ FzL G H A ds xs ∧ ReadsAll s.heap its (D.pys ds) as ∧ (if b then s.heap.IsList l its.toArray else s.heap.IsTuple l its.toArray) := by
  cases d with
  | lst l =>
    cases e
    obtain ⟨a, xs, rfl, ha, r⟩ := h.lst
    cases ru
    obtain ⟨its, rv, pl, _⟩ := I.list (.inl (.inl ha))
    have dp := r.dp p
    rw [← hK] at dp
    obtain ⟨as, R⟩ := Dp.readsAll I _ _ _ dp rv
    exact ⟨a, its, xs, as, rfl, rv, r, R, pl.isList⟩
  | tup l =>
    cases e
    obtain ⟨a, xs, rfl, ha, r⟩ := h.tup
    cases ru
    obtain ⟨its, rv, pl, _⟩ := I.tuple (show SqT X.K H a xs by rw [hK]; exact ha.sq)
    have dp := r.dp p
    rw [← hK] at dp
    obtain ⟨as, R⟩ := Dp.readsAll I _ _ _ dp rv
    exact ⟨a, its, xs, as, rfl, rv, r, R, pl⟩
  | _ => cases e
theorem alike_all_ints (i : Int) (is : List Int) : PySem.W.AlikeAll ((i :: is).map PyData.int) := by
  refine ⟨fun x hx y hy => ?_, fun x hx => ?_⟩
  · obtain ⟨a, _, rfl⟩ := List.mem_map.mp hx
    obtain ⟨b, _, rfl⟩ := List.mem_map.mp hy
    rfl
  · obtain ⟨a, _, rfl⟩ := List.mem_map.mp hx
    exact fun z => nomatch z
theorem depth_all_ints (is : List Int) : PyData.depthAll (is.map PyData.int) = 0 := by
  induction is with
  | nil => rfl
  | cons i is ih =>
    rw [List.map_cons]
    show max 0 (PyData.depthAll (is.map PyData.int)) = 0
    rw [ih]; rfl
theorem v_max1 (C : Cw G k X) (hc : X.calm = true) : CallR X (.builtin "max") (rVL G fMax1) := by
  intro pins s σ H xs us Q I r h
  obtain ⟨A, ds, d, kk, hA, hv, hf, q⟩ := h
  unfold fMax1 at hf
  split at hf
  · rename_i d0
    cases e : seqD d0 with
    | none => rw [e] at hf; cases hf
    | some p =>
      obtain ⟨b, ls⟩ := p
      rw [e] at hf
      have hf : (match toInts ls with
        | some (i :: is) => some (D.int (is.foldl max i), Kd.frz)
        | _ => none) = some (d, kk) := hf
      split at hf
      · rename_i i is ei
        cases hf
        have el := toInts_eq ei
        subst el
        obtain ⟨v, rfl, h1⟩ := hv.one
        obtain ⟨u, rfl, ru⟩ := vals1 r
        obtain ⟨l, its, xs, as, rfl, rv, _, R, W⟩ := h1.seq C.eK I e ru (pls0_ints _)
        rw [pys_ints] at R
        have hu := C.room.un
        have fin : ∀ (i' : Nat) (v : Value) (h' : Heap) (tk : Nat) (bs : List Addr), its.toArray[i']? = some v → Reads h' v (PySem.W.maxD (.int i) (is.map .int)) bs → (∀ b o, s.heap.get? b = some o → h'.get? b = some o) → EP X pins σ Q v { s with heap := h', toks := tk } := fun _ v h' tk bs _ R' hk => by
          rw [PySem.W.maxD_ints] at R'
          cases R'
          exact ⟨.int _, H, I.kept hk, ⟨_, rfl⟩, q _ _ (.frz (.int _))⟩
        have hd : X.A.units + 1 + PyData.depthAll (PyData.int i :: is.map .int) < cLine := by
          have := depth_all_ints (i :: is)
          rw [List.map_cons] at this
          rw [this]; omega
        cases b with
        | true => exact PySem.W.max_list_data (vs := its.toArray) (I.ok.hd hc) W R (alike_all_ints i is) hd fin
        | false => exact PySem.W.max_tuple_data (vs := its.toArray) (I.ok.hd hc) W R (alike_all_ints i is) hd fin
      · cases hf
  · cases hf
theorem v_min1 (C : Cw G k X) (hc : X.calm = true) : CallR X (.builtin "min") (rVL G fMin1) := by
  intro pins s σ H xs us Q I r h
  obtain ⟨A, ds, d, kk, hA, hv, hf, q⟩ := h
  unfold fMin1 at hf
  split at hf
  · rename_i d0
    cases e : seqD d0 with
    | none => rw [e] at hf; cases hf
    | some p =>
      obtain ⟨b, ls⟩ := p
      rw [e] at hf
      have hf : (match toInts ls with
        | some (i :: is) => some (D.int (is.foldl min i), Kd.frz)
        | _ => none) = some (d, kk) := hf
      split at hf
      · rename_i i is ei
        cases hf
        have el := toInts_eq ei
        subst el
        obtain ⟨v, rfl, h1⟩ := hv.one
        obtain ⟨u, rfl, ru⟩ := vals1 r
        obtain ⟨l, its, xs, as, rfl, rv, _, R, W⟩ := h1.seq C.eK I e ru (pls0_ints _)
        rw [pys_ints] at R
        have hu := C.room.un
        have fin : ∀ (i' : Nat) (v : Value) (h' : Heap) (tk : Nat) (bs : List Addr), its.toArray[i']? = some v → Reads h' v (PySem.W.minD (.int i) (is.map .int)) bs → (∀ b o, s.heap.get? b = some o → h'.get? b = some o) → EP X pins σ Q v { s with heap := h', toks := tk } := fun _ v h' tk bs _ R' hk => by
          rw [PySem.W.minD_ints] at R'
          cases R'
          exact ⟨.int _, H, I.kept hk, ⟨_, rfl⟩, q _ _ (.frz (.int _))⟩
        have hd : X.A.units + 1 + PyData.depthAll (PyData.int i :: is.map .int) < cLine := by
          have := depth_all_ints (i :: is)
          rw [List.map_cons] at this
          rw [this]; omega
        cases b with
        | true => exact PySem.W.min_list_data (vs := its.toArray) (I.ok.hd hc) W R (alike_all_ints i is) hd fin
        | false => exact PySem.W.min_tuple_data (vs := its.toArray) (I.ok.hd hc) W R (alike_all_ints i is) hd fin
      · cases hf
  · cases hf
theorem v_sum1 (C : Cw G k X) (hc : X.calm = true) : CallR X (.builtin "sum") (rVL G fSum1) := by
  intro pins s σ H xs us Q I r h
  obtain ⟨A, ds, d, kk, hA, hv, hf, q⟩ := h
  unfold fSum1 at hf
  split at hf
  · rename_i d0
    cases e : seqD d0 with
    | none => rw [e] at hf; cases hf
    | some p =>
      obtain ⟨b, ls⟩ := p
      rw [e] at hf
      have hf : (toInts ls).map (fun is => (D.int is.sum, Kd.frz)) = some (d, kk) := hf
      cases ei : toInts ls with
      | none => rw [ei] at hf; cases hf
      | some is =>
        rw [ei] at hf
        cases hf
        have el := toInts_eq ei
        subst el
        cases b with
        | true =>
          cases d0 with
          | lst l0 =>
            cases e
            refine v_sum C.eK hc pins s σ H xs us Q I r ⟨A, _, _, _, hA, hv, ?_, q⟩
            show (toInts (is.map D.int)).map (fun bs => (D.int bs.sum, Kd.frz)) = _
            rw [toInts_map]; rfl
          | _ => cases e
        | false =>
          obtain ⟨v, rfl, h1⟩ := hv.one
          obtain ⟨u, rfl, ru⟩ := vals1 r
          obtain ⟨l, its, xs, as, rfl, rv, fz, R, W⟩ := h1.seq C.eK I e ru (pls0_ints _)
          have exs := fz.ints
          subst exs
          have ri := rv.ints
          obtain ⟨ys, hx⟩ := ri.allInts.items
          have hn : numsOf its.toArray.toList = is := ri.numsOf
          have W : s.heap.IsTuple l its.toArray := W
          rw [hx] at W hn
          rw [nums_intItems] at hn
          refine PySem.W.ktm_sumG (I.ok.hd hc) W fun h' tk t' hk => ⟨.int is.sum, H, I.kept hk, ⟨t', ?_⟩, q _ _ (.frz (.int _))⟩
          rw [preSum_eq, List.take_of_length_le (by simp), hn]
  · cases hf
end
/-! ### methods of lists -/
abbrev FM := D → List D → Option (D × Kd)
def mMthR (f : FM) (d : D) (ms : MEs) (S : Slots) (tp1 : Tp) : Ot := match d with
  | .lst l => (ms S tp1).bind fun ds tp2 => ofO (f (.lst l) (ds.map (·.1))) tp2
  | _ => .bad
def mMth (f : FM) (mo : ME) (ms : MEs) : ME := fun S tp => (mo S tp).bind fun d _ tp1 => mMthR f d ms S tp1
def rM (G : Gx) (f : FM) : V → List V → Hp → VK → Prop := fun x xs H Q => ∃ A d ds r k, Avd A H ∧ Vw G H A d x ∧ VwL G H A ds xs ∧ f d ds = some (r, k) ∧ ∀ v H', RsV G A H H' r k v → Q v H'
theorem x_mth {G : Gx} {X : Cx} {name : Str} {id : String} {f : FM} {o e : Expr} {es : List Expr} {mo : ME} {ms : MEs} {apos cpos : Pos} (hK : X.K = G.K) (slot : Slot "list" name id) (hty : typeOf (.builtin id) = pure (.type "method_descriptor")) (hm : MtR X id (rM G f)) (ho : EvE G X o mo) (ha : EvL G X (e :: es) ms)
    (hbase : attributeBase o name X.env (eval o X.env) = eval o X.env := by rfl)
    (hfew : ((backTo cpos (starEach (e :: es) X.env)).all (fun x => !x.1) && (backToKw cpos (keywordEach [] X.env)).all (fun x => x.1.isSome)
      && decide ((e :: es).length + ([] : List Keyword).length + (if ([] : List Keyword).isEmpty then 0 else 1) < 30)) = true := by rfl)
    (hline : (apos.endLine == cpos.line) = true := by rfl) (hs : starEach (e :: es) X.env = (false, eval e X.env) :: starEach es X.env := by rfl) (hplain : (backTo cpos (starEach es X.env)).any (·.1) = false := by rfl) :
    EvE G X (.Call (.Attribute o name apos) (e :: es) [] cpos) (mMth f mo ms) := by
  intro W tk
  refine (pe_bm PySem.F.plainAttrs_list slot hty hm (ho W tk) (ha.run W tk) hbase hfew hline hs hplain).imp fun σ H Q ⟨A, S, tp, R, h⟩ => ⟨A, S, tp, R, (OutE.bind R h).mono fun x H1 _ q => ?_⟩
  obtain ⟨d, k, tp1, r1, R1, q⟩ := q
  cases d with
  | lst l =>
    obtain ⟨a, ys, rfl, hl, _⟩ := (r1.vw R).lst
    refine ⟨.inl ⟨rfl, ys, by rw [hK]; exact .of hl⟩, A, S, tp1, R1, ?_⟩
    have q : OutE G W A S σ H1 Q ((ms S tp1).bind fun ds tp2 => ofO (f (.lst l) (ds.map (·.1))) tp2) := q
    have q2 := OutL.bind R1 q
    revert q2
    cases ms S tp1 with
    | ok ds tp2 =>
      intro q2 vs H2 r2
      obtain ⟨ds', tp2', r2', q3⟩ := q2 vs H2 r2
      revert q3
      cases e : f (.lst l) (ds'.map (·.1)) with
      | none => exact fun q3 => q3.elim
      | some p =>
        obtain ⟨rr, kk⟩ := p
        intro q3
        exact ⟨A, _, _, rr, kk, r2'.2.1.avd, (r1.vw R).kp R1 r2.1, r2'.2.2.vw, e, fun v H' rv => q3 v H' (rv.res r2'.2.1)⟩
    | ex c f tp2 => exact fun q2 => q2
    | bad => exact fun q2 => q2
  | _ => exact q.elim
def fCnt : FM
  | .lst ls, [d] => if D.pls0 ls && d.ok then some (.int ((ls.countP fun y => D.eqb y d : Nat) : Int), .frz) else none
  | _, _ => none
def fIndex : FM
  | .lst ls, [d] => if (D.lst ls).ok && d.ok then (ls.findIdx? fun y => D.eqb y d).map fun (j : Nat) => (D.int (j : Int), Kd.frz) else none
  | _, _ => none
theorem mt_cnt {G : Gx} {X : Cx} (hK : X.K = G.K) (hu : X.A.units + 65 < cLine) : MtR X "list.count" (rM G fCnt) := by
  intro pins s σ H x xs v us Q I rx rxs h
  obtain ⟨A, d, ds, r, kk, hA, h1, h2, hf, q⟩ := h
  unfold fCnt at hf
  split at hf
  · rename_i ls e
    split at hf
    · rename_i hz
      cases hf
      rw [Bool.and_eq_true] at hz
      obtain ⟨y, rfl, hy⟩ := h2.one
      obtain ⟨u, rfl, ry⟩ := vals1 rxs
      obtain ⟨l, its, ys, as, rfl, rv, fz, R, W⟩ := h1.seq (b := true) (ds := ls) hK I rfl rx hz.1
      obtain ⟨p2, s2⟩ := D.ok_shaped hz.2
      have d2 := hy.dp p2
      rw [← hK] at d2
      obtain ⟨bs, R2⟩ := Dp.reads I _ _ _ d2 ry
      have c2 := D.py_lay p2
      have dd := of_decide_eq_true (Bool.and_eq_true_iff.mp (show (e.pl0 && decide (e.dep ≤ 60)) = true from hz.2)).2
      refine PySem.SeqAt.count_list_data (vs := its.toArray) W R R2 (PyData.plainAll_of_canLay0 _ (D.pys_lay hz.1).1) (PyData.plain_of_canLay0 _ c2.1) (in_room hu (by rw [c2.2]; exact dd)) ⟨.int _, H, I.tok _, ⟨_, rfl⟩, ?_⟩
      clear h1
      have eq : (D.pys ls).countP (fun y => PyData.eqv y e.py) = ls.countP fun y => D.eqb y e := by
        have hl : D.pls0 ls = true := hz.1
        clear q R W fz rv hz
        induction ls with
        | nil => rfl
        | cons z ls ih =>
          unfold D.pls0 at hl
          rw [Bool.and_eq_true] at hl
          show (z.py :: D.pys ls).countP _ = _
          rw [List.countP_cons, List.countP_cons, ih hl.2, D.eqv_eqb z e hl.1 p2]
      rw [eq]
      exact q _ _ (.frz (.int _))
    · cases hf
  · cases hf
theorem mt_idx {G : Gx} {X : Cx} (hK : X.K = G.K) (hu : X.A.units + 65 < cLine) : MtR X "list.index" (rM G fIndex) := by
  intro pins s σ H x xs v us Q I rx rxs h
  obtain ⟨A, d, ds, r, kk, hA, h1, h2, hf, q⟩ := h
  unfold fIndex at hf
  split at hf
  · rename_i ls e
    split at hf
    · rename_i hz
      rw [Option.map_eq_some_iff] at hf
      obtain ⟨j, hj, ee⟩ := hf
      cases ee
      rw [Bool.and_eq_true] at hz
      obtain ⟨y, rfl, hy⟩ := h2.one
      obtain ⟨p1, s1⟩ := D.ok_shaped hz.1
      obtain ⟨p2, s2⟩ := D.ok_shaped hz.2
      obtain ⟨a, ys, rfl, ha, fz⟩ := h1.lst
      have d1 := h1.dp p1
      have d2 := hy.dp p2
      rw [← hK] at d1 d2
      have at_ : ∀ (ls : List D) (m : Nat) (z' : PyData), D.pls0 ls = true → (D.pys ls)[m]? = some z' → ∃ z, ls[m]? = some z ∧ z.py = z' ∧ z.pl0 = true := by
        intro ls
        induction ls with
        | nil => intro m z' _ h; simp [D.pys] at h
        | cons w ls ih =>
          intro m z' hl h
          unfold D.pls0 at hl
          rw [Bool.and_eq_true] at hl
          cases m with
          | zero =>
            have h : some w.py = some z' := h
            cases h
            exact ⟨w, rfl, rfl, hl.1⟩
          | succ m => exact ih m z' hl.2 h
      have at2 : ∀ (ls : List D) (m : Nat) (z : D), ls[m]? = some z → (D.pys ls)[m]? = some z.py := by
        intro ls
        induction ls with
        | nil => intro m z h; simp at h
        | cons w ls ih =>
          intro m z h
          cases m with
          | zero =>
            have h : some w = some z := h
            cases h; rfl
          | succ m => exact ih m z h
      obtain ⟨g1, g2, g3⟩ := List.findIdx?_eq_some_iff_getElem.mp hj
      have pz : D.pls0 ls = true := p1
      have pe : ∀ m (hm : m < ls.length), ls[m].pl0 = true := fun m hm => by
        obtain ⟨z, q1, _, q3⟩ := at_ ls m _ pz (at2 ls m _ (List.getElem?_eq_getElem hm))
        rw [List.getElem?_eq_getElem hm] at q1
        cases q1; exact q3
      refine mt_indexD hu pins s σ H _ _ v us Q I rx rxs ⟨a, y, e.py, D.pys ls, j, ls[j].py, rfl, rfl, d1, d2, s1, s2, at2 ls j _ (List.getElem?_eq_getElem g1), ?_, fun m z' hm hz' => ?_, q _ _ (.frz (.int _))⟩
      · rw [D.eqv_eqb _ _ (pe j g1) p2]; exact g2
      · obtain ⟨z, q1, q2, q3⟩ := at_ ls m z' pz hz'
        have hml := (List.getElem?_eq_some_iff.mp q1)
        obtain ⟨hml, ez⟩ := hml
        rw [← q2, D.eqv_eqb _ _ q3 p2, ← ez]
        have := g3 m hm
        simpa using this
    · cases hf
  · cases hf
end PV

/-! PWw: x += e, x[i] += e, of ints. -/
namespace PV
open PySem PySem.Spec PyProof.Rows L2
variable {G : Gx} {X : Cx}
/-- x op= e, ints -/
def mAugI (i : Nat) (op : Int → Int → Int) (m : ME) : MS := fun S tp => match S[i]? with
  | some (some (.int a, .frz)) => match m S tp with
    | .ok (.int b) _ tp' => .nx (S.set i (some (.int (op a b), .frz))) tp'
    | .ok _ _ _ => .bad
    | .ex c f tp' => .ex c f S tp'
    | .bad => .bad
  | _ => .bad
theorem notLck_frz {S : Slots} {i : Nat} {d : D} (h : S[i]? = some (some (d, .frz))) : notLck S i = true := by
  unfold notLck
  rw [h]
theorem s_augI {opr : Operator} {op : Int → Int → Int} (hp : PIp X opr (ipI op)) (i : Nat) {x : Str} {e : Expr} {m : ME} {pos pos' : Pos} (hN : X.N.Nodup) (hi : X.N[i]? = some x) (hx : Loc X.env.scope x) (he : EvE G X e m)
    (hf : X.fn x = true ∨ X.env.scope.names.lookup x = some .local := by first | exact .inl rfl | exact .inr rfl | assumption) : EvS G X (.AugAssign (.Name x pos') opr e pos) (mAugI i op m) := by
  refine fun F W tk => (ps_aug (i := i) hN hi hx (he W tk) hp hf).imp fun De σ H ⟨A, S, tp, R, h⟩ => ?_
  unfold mAugI at h
  split at h
  · rename_i a e1
    obtain ⟨v, q1, q2⟩ := R.rel.frz i _ e1
    have ev : v = .int a := Vw.int (.inl q2)
    subst ev
    refine ⟨_, q1, A, S, tp, R.rel, ?_⟩
    revert h
    cases e2 : m S tp with
    | ok d k tp' =>
      cases d with
      | int b =>
        intro h w H1 r
        have ew : w = .int b := (r.vw R.rel).int
        have R1 := R.after r.1 (r.rel R.rel)
        exact ⟨a, b, rfl, ew, h A _ H1 (R1.setK (k := .frz) i (notLck_frz e1) (.int _))⟩
      | _ => exact fun h => h.elim
    | ex c f tp' => exact fun h cv dd H' r kp x => h A cv dd σ H' (R.after kp r) x
    | bad => exact fun h => h
  · exact h.elim
/-! ### x[i] += e -/
def gtL : V → V → Hp → VK → Prop := fun o i H Q => ∃ p xs k v, o = .ref p ∧ i = .int k ∧ H p = some (.lst xs) ∧ atI xs k = some v ∧ Q v H
theorem get_lst : PGet X gtL := by
  intro pins s σ H o i ov iv Q I ro ri h
  obtain ⟨p, xs, i, z, rfl, rfl, hq, he, q⟩ := h
  cases ro
  obtain ⟨t, rfl⟩ := ri
  obtain ⟨its, r, pl, hz⟩ := I.list (SqL.of hq)
  obtain ⟨j, h1, h2, h3, h4, h5⟩ := atI_get he
  obtain ⟨w, ew, rw'⟩ := r.get h2
  have hl := r.length
  have hn := line63
  have fin : EP X pins σ Q w s := ⟨z, H, I, rw', q⟩
  by_cases h0 : 0 ≤ i
  · have hj : i.toNat = j := by
      rw [seqIndex_of h0 h5] at h1
      exact Option.some.inj h1
    exact wpAny_getItem_list pl.isList h0 (by omega) (by rw [hj]; simpa using ew) fin
  · have hj : (i + (its.toArray.size : Int)).toNat = j := by
      rw [seqIndex_neg (by omega) h4] at h1
      rw [List.size_toArray, ← hl]
      exact Option.some.inj h1
    exact wpAny_getItem_list_neg pl.isList (by omega) (by rw [List.size_toArray] <;> omega) (by omega) (by rw [hj]; simpa using ew) fin
def augL (op : Int → Int → Int) (S : Slots) (i : Nat) (l : List D) (z : Int) (a : Int) : Ot → So
  | .ok (.int b) _ tp2 => match plD l.length z with
    | some j => .nx (S.set i (some (.lst (l.set j (.int (op a b))), .own))) tp2
    | none => .bad
  | _ => .bad
def augD (op : Int → Int → Int) (S : Slots) (i : Nat) (m : ME) (l : List D) (z : Int) (tp1 : Tp) : Option D → So
  | some (.int a) => augL op S i l z a (m S tp1)
  | _ => .bad
def augO (op : Int → Int → Int) (S : Slots) (i : Nat) (m : ME) (l : List D) : Ot → So
  | .ok (.int z) _ tp1 => augD op S i m l z tp1 (atD l z)
  | _ => .bad
/-- x[ei] op= e, x an owned list, the item an int -/
def mAugS (i : Nat) (op : Int → Int → Int) (mi m : ME) : MS := fun S tp => match S[i]? with
  | some (some (.lst l, .own)) => augO op S i m l (mi S tp)
  | _ => .bad
theorem s_augS {opr : Operator} {op : Int → Int → Int} (hp : PIp X opr (ipI op)) (i : Nat) {x : Str} {ei e : Expr} {mi m : ME} {pos p1 p2 : Pos} (hN : X.N[i]? = some x) (hv : Vis X.env.scope x) (hi : EvE G X ei mi) (he : EvE G X e m)
    (ha : ∀ ov iv new, augStore ei ov iv new = (do holding [new, ov, iv] (setItem ov iv new); release [new, ov, iv] []; pure .next) := by intros; rfl)
    (hd : (x == ("__debug__" : Str)) = false := by decide) (hcd : (x == ("__classdict__" : Str)) = false := by decide) : EvS G X (.AugAssign (.Subscript (.Name x p1) ei p2) opr e pos) (mAugS i op mi m) := by
  refine fun F W tk => (ps_augS (pe_var (i := i) hN hv hd hcd) (hi W tk) get_lst (he W tk) hp set_list ha).imp fun De σ H ⟨A, S, tp, R, h⟩ => ?_
  unfold mAugS at h
  split at h
  · rename_i l e1
    obtain ⟨a, hσ, qA, qn, xs, q2, q3⟩ := R.rel.own i _ _ (by decide) e1
    refine ⟨_, hσ, A, S, tp, R.rel, ?_⟩
    revert h
    cases e2 : mi S tp with
    | ok d k tp1 =>
      cases d with
      | int z =>
        intro h iv H1 r1
        have h : OutS G F W De (augD op S i m l z tp1 (atD l z)) := h
        have ez : iv = .int z := (r1.vw R.rel).int
        have R1 := R.after r1.1 (r1.rel R.rel)
        obtain ⟨b, q1', qA', qn', xs1, p2, p3⟩ := R1.rel.own i _ _ (by decide) e1
        rw [hσ] at q1'; cases q1'
        revert h
        cases e3 : atD l z with
        | none => exact fun h => h.elim
        | some d0 =>
          cases d0 with
          | int c =>
            intro h
            obtain ⟨w, hw, hz⟩ := atD_at p3 e3
            have ew : w = .int c := Vw.int (.inl hz)
            subst ew
            refine ⟨a, xs1, z, _, rfl, ez, p2, hw, A, S, tp1, R1.rel, ?_⟩
            have h : OutS G F W De (augL op S i l z c (m S tp1)) := h
            revert h
            cases e4 : m S tp1 with
            | ok d2 k2 tp2 =>
              cases d2 with
              | int y =>
                intro h yv H2 r2
                have ey : yv = .int y := (r2.vw R1.rel).int
                have R2 := R1.after r2.1 (r2.rel R1.rel)
                obtain ⟨b, q1', qA', qn', xs2, p2', p3'⟩ := R2.rel.own i _ _ (by decide) e1
                rw [hσ] at q1'; cases q1'
                have h : OutS G F W De (match plD l.length z with
                  | some j => .nx (S.set i (some (.lst (l.set j (.int (op c y))), .own))) tp2
                  | none => .bad) := h
                split at h
                · rename_i j e5
                  refine ⟨c, y, rfl, ey, a, xs2, z, j, rfl, ez, p2', by rw [← p3'.length]; exact e5, h A σ _ (R2.write i e1 hσ ?_)⟩
                  refine ⟨xs2.set j (.int (op c y)), upd_same, (FzL.set (Fz.int _) j p3').ext' (fun b u q n => ?_) fun _ q => .inl q⟩
                  have hb : b ≠ a := fun w => n (by rw [w]; exact qA)
                  rw [upd_ne hb]; exact q
                · exact h.elim
              | _ => exact fun h => h.elim
            | ex _ _ _ => exact fun h => h.elim
            | bad => exact fun h => h.elim
          | _ => exact fun h => h.elim
      | _ => exact fun h => h.elim
    | ex c f tp' => exact fun h => h.elim
    | bad => exact fun h => h.elim
  · exact h.elim
end PV

/-! PWx: a caught error's field. -/
namespace PV
open PySem PySem.Spec PyProof.Rows L2
variable {G : Gx} {X : Cx} {a : Addr} {oe : Obj} {d : Option Addr} {c : Nat} {pn : List (Addr × Obj)} {m : ME} {e : Expr}
theorem x_xf {n : Str} {pos : Pos} {fi : Nat → Option Nat} (hK : X.K = G.K) (T : ExK G.K (G.ca c)) (hz : Zc (.ref (G.ca c)) d oe) (hf : ∃ vs, oe.data = .fields vs)
    (hfi : ∀ i, fi c = some i → i = 0 ∧ G.cf c = [n] ∧ PySem.W.findIn G.K (.ref (G.ca c)) n = some none) (he : EvE G (X.suite a ((a, oe) :: pn)) e m)
    (hb : attributeBase e n X.env (eval e X.env) = eval e X.env := by rfl) : EvE G (X.suite a ((a, oe) :: pn)) (.Attribute e n pos) (mXf a d c fi m) := by
  cases efi : fi c with
  | none =>
    refine fun W tk => ⟨fun pins s σ H Q I h => ?_⟩
    obtain ⟨A, S, tp, R, h⟩ := h
    refine attr_of hb (thn ((he W tk).run pins s σ H (fun _ _ => False) I ⟨A, S, tp, R, (OutE.bind R h).mono fun v H1 _ q => ?_⟩) fun u s1 hh => ?_)
    · obtain ⟨x, k, tp1, r, R1, q⟩ := q
      split at q
      case h_2 => exact q.elim
      split at q
      case isFalse => exact q.elim
      rw [efi] at q
      exact q.elim
    · obtain ⟨x, H1, I1, rx, ff⟩ := hh
      exact ff.elim
  | some i =>
    obtain ⟨rfl, hcf, hno⟩ := hfi i efi
    have T' : XfC X.K (G.ca c) := by rw [hK]; exact ⟨T.ga, T.gt, T.sb, T.hd⟩
    refine fun W tk => (pe_xf T' (by rw [hK]; exact hno) hz hf (he W tk) hb).imp fun σ H Q ⟨A, S, tp, R, h⟩ => ⟨A, S, tp, R, (OutE.bind R h).mono fun v H1 _ q => ?_⟩
    obtain ⟨x, k, tp1, r, R1, q⟩ := q
    split at q
    case h_2 => exact q.elim
    rename_i a' d' c' l
    split at q
    case isFalse => exact q.elim
    rename_i hh
    obtain ⟨rfl, rfl, rfl⟩ := hh
    rw [efi] at q
    obtain ⟨rfl, hv⟩ := (r.vw R).exc
    cases hv with
    | exc0 => exact q.elim
    | exc1 h1 h2 h3 h4 =>
      have q : OutE G W A S σ H1 Q (ofO (l[0]?.map fun d => (d, .frz)) tp1) := q
      rw [hcf] at h3
      cases h4 with
      | nil => cases h3
      | cons hd hr =>
        exact ⟨rfl, rfl, _, _, _, rfl, h1, by rw [hcf]; simp, q _ _ ⟨Kp.refl, R1, hd⟩⟩
/-! ### object == tuple -/
section
variable {k j : Nat} {ps : List Str} {sem : Sem1} {A : Addr → Prop} {S : Slots} {tp : Tp} {σ : L2.St} {H : Hp} {W : WX} {ma mb : ME}
def rEqT (G : Gx) (c : Nat) (sem : Sem1) : R2 := fun x y H Q => ∃ a b dx fs ys, x = .ref a ∧ y = .ref b ∧ H a = some (.ins (G.ca c) dx fs) ∧ SqT G.K H b ys ∧ SpQ G sem (fun bb H' => Q (.bl bb) H') a b H
theorem op_eqT (C : Cw G k X) (E : FnE G j c ps sem) (hj : j ≤ k) (hs : PySem.W.subIn G.K (.type "tuple") (.ref (G.ca c)) = some false) : OpR X (compareOp .Eq) (rEqT G c sem) := by
  obtain ⟨f, fd, E1, E2, E3⟩ := E.ex
  rw [← C.eP, ← C.ew, ← C.eK, ← C.em, ← C.eb] at E1
  rw [← C.eK] at E3
  have g1 := E2.find
  have g2 := E2.isf
  rw [← C.eK] at g1 g2
  intro pins s σ H x y v u Q I rx ry h
  obtain ⟨a, b, dx, fs, ys, rfl, rfl, ha, hb, q⟩ := h
  cases rx
  cases ry
  obtain ⟨_, J1, _⟩ := ins_get I.hok ha
  obtain ⟨_, J1, _⟩ := J1.look
  obtain ⟨its, r, pl, _⟩ := I.tuple (show SqT X.K H b ys by rw [C.eK]; exact hb)
  obtain ⟨o, ho, hc, _⟩ := id pl
  obtain ⟨_, hF⟩ := I.fr
  refine PySem.W.cmp_K (op := .Eq) (tb := .type "tuple") C.room.units0 hF I.ok.mod.kin J1 (fun A Q E s' k q => wpAny_typeOf_ref (k _ _ ho) (by rw [hc]; exact q)) (by simp [PySem.W.notFirst]; rw [C.eK]; exact hs) g1 g2 (wpAny_mono (run_own E1 E3 (C.roomG.mono hj) rfl I q) (fun v s' z => ?_) fun _ _ z => z)
  obtain ⟨bb, H', rfl, J, hp⟩ := z
  exact ⟨.bl bb, H', J, rfl, hp⟩
def mEqT (c : Nat) (sem : Sem1) (ma mb : ME) : ME := fun S tp => (ma S tp).bind fun d k tp1 => (mb S tp1).bind fun e k' tp2 => match d, e with
  | .ins c1 _, .tup _ => if c1 = c then match sem [(d, k.isPk), (e, k'.isPk)] tp2 with
    | .ok (.bl b) .frz tp3 => .ok (.bl b) .frz tp3
    | _ => .bad
    else .bad
  | _, _ => .bad
theorem eqT_reads {Q : VK} (h : tE G W (mEqT c sem ma mb) σ H Q) : tOp (rEqT G c sem) (tE G W ma) (tE G W mb) σ H Q := by
  obtain ⟨A, S, tp, R, h⟩ := h
  refine ⟨A, S, tp, R, (OutE.bind R h).mono fun x H1 _ q => ?_⟩
  obtain ⟨d, k, tp1, r1, R1, q0⟩ := q
  refine ⟨A, S, tp1, R1, (OutE.bind R1 q0).mono fun y H2 k2 q => ?_⟩
  obtain ⟨e, k', tp2, r2, R2, z⟩ := q
  cases d with
  | ins c1 l1 =>
    cases e with
    | tup l2 =>
      have z2 : OutE G W A S σ H2 Q (if c1 = c then match sem [(.ins c1 l1, k.isPk), (.tup l2, k'.isPk)] tp2 with
        | .ok (.bl b) .frz tp3 => .ok (.bl b) .frz tp3
        | _ => .bad
        else .bad) := z
      clear z
      split at z2
      · rename_i hc1
        subst hc1
        cases es : sem [(.ins c1 l1, k.isPk), (.tup l2, k'.isPk)] tp2 with
        | ok d kd tp3 =>
          rw [es] at z2
          cases d with
          | bl b =>
            cases kd with
            | frz =>
              obtain ⟨a1, dx, fs, rfl, h1, _⟩ := ((r1.vw R).kp R1 k2).ins
              obtain ⟨a2, ys, rfl, h2, _⟩ := (r2.vw R1).tup
              have vk : VkL G H2 A [(.ins c1 l1, k.isPk), (.tup l2, k'.isPk)] [.ref a1, .ref a2] := r1.vk R R1 k2 (r2.vk R1 R2 Kp.refl .nil)
              exact ⟨a1, a2, dx, fs, ys, rfl, rfl, h1, h2.sq, A, _, _, _, _, tp2, b, tp3, R2.avd, R2.tap, vk, es, fun H' kp t => z2 _ H' ⟨kp, R2.after kp t, .bl _⟩⟩
            | _ => exact z2.elim
          | _ => exact z2.elim
        | ex c f tp3 => rw [es] at z2; exact z2.elim
        | bad => rw [es] at z2; exact z2.elim
      · exact z2.elim
    | _ => exact z.elim
  | _ => exact z.elim
theorem x_eqT {a b : Expr} {pos : Pos} (C : Cw G k X) (E : FnE G j c ps sem) (hj : j ≤ k) (hs : PySem.W.subIn G.K (.type "tuple") (.ref (G.ca c)) = some false) (ha : EvE G X a ma) (hb : EvE G X b mb) : EvE G X (.Compare a [.Eq] [b] pos) (mEqT c sem ma mb) :=
  fun W tk => (pe_cmpR (op_eqT C E hj hs) (ha W tk) (hb W tk) (nomark _)).imp fun _ _ _ h => eqT_reads h
theorem t_eqT {a b : Expr} {pos : Pos} (C : Cw G k X) (E : FnE G j c ps sem) (hj : j ≤ k) (hs : PySem.W.subIn G.K (.type "tuple") (.ref (G.ca c)) = some false) (ha : EvE G X a ma) (hb : EvE G X b mb) : EvT G X (.Compare a [.Eq] [b] pos) (mEqT c sem ma mb) :=
  fun W tk => (pt_cmpR (op_eqT C E hj hs) (ha W tk) (hb W tk) (nomark _)).imp fun _ _ _ ⟨A, S, tp, R, h⟩ => eqT_reads ⟨A, S, tp, R, OutB.toE R h⟩
end
end PV

/-! PYa: the end: the Hook with the law's table, the errors by looks, the walk. -/
namespace PV
open PySem PySem.W PySem.HandSPX
/-! ### errors -/
def exkB (K : Frag) (C : Addr) : Bool := (clsIn K C).isSome && (decide (findIn K (.ref C) "__getattribute__" = some (some (.builtin "BaseException.__getattribute__"))) && (decide (findIn K (.ref C) "__getattr__" = some none) && (decide (subIn K (.ref C) (.type "BaseException") = some true) && (hasDictIn K C &&
  (decide (findIn K (.ref C) "__class__" = some (some (.builtin "object.__class__"))) && (decide (specialIn K (.builtin "object.__class__") "__get__" = some (some (.builtin "getset_descriptor.__get__"))) && (decide (takesIn K (.builtin "object.__class__") = some true) && decide (mroIn K C (.type "object") = some true))))))))
theorem exk_of {K : Frag} {C : Addr} (h : exkB K C = true) : ExK K C := by
  unfold exkB at h
  obtain ⟨h1, h⟩ := ba h
  obtain ⟨h2, h⟩ := ba h
  obtain ⟨h3, h⟩ := ba h
  obtain ⟨h4, h⟩ := ba h
  obtain ⟨h5, h⟩ := ba h
  obtain ⟨h6, h⟩ := ba h
  obtain ⟨h7, h⟩ := ba h
  obtain ⟨h8, h9⟩ := ba h
  exact ⟨h1, of_decide_eq_true h2, of_decide_eq_true h3, of_decide_eq_true h4, h5, of_decide_eq_true h6, of_decide_eq_true h7, of_decide_eq_true h8, of_decide_eq_true h9⟩
abbrev XcAll (prog : Program) (K : Frag) (d : FxD) : Prop := ∃ f cc cda, XcF prog K (He.ga K d.cls) f cc cda d.qual d.params d.body d.scope ∧ keepIn K (.ref (He.ga K d.cls)) = true ∧ subIn K (.ref (He.ga K d.cls)) (.type "BaseException") = some true ∧ typeIn K (.ref (He.ga K d.cls)) = some (.type "type") ∧
  nsIn K mainGlobals d.cls = some (some (.ref (He.ga K d.cls))) ∧ nsIn K mainGlobals "super" = some none
theorem xc0_of {G : Gx} {h : Heap} {d : FxD} {c : Nat} {st : Stmt} {ar : Arg} (hx : XcAll G.P G.K d) (KX : G.K.In h) (Ns : h.Ns mainGlobals G.mg) (hca : G.ca c = He.ga G.K d.cls) (hb : d.body = [st]) (hs : ∀ f cda cc, SupSt d.qual d.scope f cda cc st)
    (har : (d.params.posonlyargs ++ d.params.args).head? = some ar)
    (hbind : ∀ (s : Shared) (x : Addr) (doc pm : Value) (an : Option Addr) (ct : Value) (cda cc : Addr), BindsTo s (ksFn "__init__" d.qual d.params [st] d.scope .none .none doc pm an (.ref cda) ct cc) ⟨[.ref x], []⟩ [(ar.arg, .ref x)])
    (q1 : d.scope.names.lookup ("super" : Str) = some .globalImplicit) (q2 : d.scope.names.lookup ("__class__" : Str) = some .free) (q3 : d.scope.names.lookup ar.arg = some .local) (q4 : d.scope.kind = .function) (q5 : d.scope.isCoroutine = false) (q6 : d.scope.isGenerator = false) (q7 : d.scope.names.all (fun x => !decide (x.2 = .cell)) = true) : Xc0 G c d.cls := by
  obtain ⟨f, cc, cda, X, h1, h2, h3, h4, h5⟩ := hx
  rw [hb] at X
  unfold Xc0
  rw [hca]
  refine ⟨f, cc, cda, d.qual, d.params, st, d.scope, ar, X, hs _ _ _, mg_none_of KX Ns h5, mg_of KX Ns h4, har, fun s x doc pm an ct => hbind s x doc pm an ct cda cc, q1, q2, q3, q4, q5, q6, fun x hx => ?_, h1, h2, h3⟩
  have := List.all_eq_true.mp q7 x hx
  simpa using this
theorem xc1_of {G : Gx} {h : Heap} {d : FxD} {c : Nat} {st : Stmt} {ar ar2 : Arg} {fld : Str} {p1 p2 p3 p4 : Pos} (hx : XcAll G.P G.K d) (KX : G.K.In h) (Ns : h.Ns mainGlobals G.mg) (hca : G.ca c = He.ga G.K d.cls) (hb : d.body = [st, .Assign [.Attribute (.Name ar.arg p1) fld p2] (.Name ar2.arg p3) p4]) (hs : ∀ f cda cc, SupSt d.qual d.scope f cda cc st)
    (har : (d.params.posonlyargs ++ d.params.args).head? = some ar)
    (hbind : ∀ (s : Shared) (x : Addr) (v doc pm : Value) (an : Option Addr) (ct : Value) (cda cc : Addr), BindsTo s (ksFn "__init__" d.qual d.params [st, .Assign [.Attribute (.Name ar.arg p1) fld p2] (.Name ar2.arg p3) p4] d.scope .none .none doc pm an (.ref cda) ct cc) ⟨[.ref x, v], []⟩ [(ar.arg, .ref x), (ar2.arg, v)])
    (q1 : d.scope.names.lookup ("super" : Str) = some .globalImplicit) (q2 : d.scope.names.lookup ("__class__" : Str) = some .free) (q3 : d.scope.names.lookup ar.arg = some .local) (q3' : d.scope.names.lookup ar2.arg = some .local) (q8 : (ar2.arg == ar.arg) = false) (q4 : d.scope.kind = .function) (q5 : d.scope.isCoroutine = false) (q6 : d.scope.isGenerator = false) (q7 : d.scope.names.all (fun x => !decide (x.2 = .cell)) = true)
    (w1 : decide (findIn G.K (.ref (He.ga G.K d.cls)) "__setattr__" = some (some (.builtin "object.__setattr__"))) = true) (w2 : decide (findIn G.K (.ref (He.ga G.K d.cls)) fld = some none) = true) (w3 : (ar.arg == ("__debug__" : Str)) = false) (w4 : (ar2.arg == ("__debug__" : Str)) = false)
    (w5 : ∀ (f cda cc L : Addr), swapsWith (.Name ar2.arg p3) (some (.Attribute (.Name ar.arg p1) fld p2)) p4.line (ksEnv d.qual d.scope L f (.ref cda) cc) = pure false) (w6 : G.cf c = [fld]) : Xc1 G c d.cls fld := by
  obtain ⟨f, cc, cda, X, h1, h2, h3, h4, h5⟩ := hx
  rw [hb] at X
  unfold Xc1
  rw [hca]
  refine ⟨f, cc, cda, d.qual, d.params, st, d.scope, ar, ar2, p1, p2, p3, p4, X, hs _ _ _, mg_none_of KX Ns h5, mg_of KX Ns h4, har, fun s x v doc pm an ct => hbind s x v doc pm an ct cda cc, q1, q2, q3, q3', q8, q4, q5, q6, fun x hx => ?_, of_decide_eq_true w1, of_decide_eq_true w2, w3, w4, fun L => w5 _ _ _ L, w6, h1, h2, h3⟩
  have := List.all_eq_true.mp q7 x hx
  simpa using this
/-! ### the Hook with the law's table -/
def isTabO (o : Obj) : Bool := match o.cls, o.data with
  | .none, .fields _ => true
  | _, _ => false
def tabAt (g : Addr → Option Obj) (P : Addr) : Bool := match g P with
  | some ⟨.none, none, .fields ⟨[]⟩, ⟨[]⟩⟩ => true
  | _ => false
theorem tabAt_ok {g : Addr → Option Obj} {P : Addr} (h : tabAt g P = true) : g P = some { cls := .none, data := .fields #[] } := by
  unfold tabAt at h
  split at h
  · rename_i e
    exact e
  · cases h
def frT (g : Addr → Option Obj) (as : List Addr) : Frag := (He.frG g as).filter fun q => !isTabO q.2
theorem lookup_mem {α : Type} {l : List (Addr × α)} {a : Addr} {o : α} (h : l.lookup a = some o) : (a, o) ∈ l := by
  induction l with
  | nil => cases h
  | cons p l ih =>
    obtain ⟨b, u⟩ := p
    rw [List.lookup_cons] at h
    split at h
    · rename_i e
      cases h
      rw [beq_iff_eq.mp e]
      exact List.mem_cons_self ..
    · exact List.mem_cons_of_mem _ (ih h)
theorem frT_in {h : Heap} {as : List Addr} : (frT h.get? as).In h := fun a o e => by
  have m := (List.mem_filter.mp (lookup_mem e)).1
  unfold He.frG at m
  obtain ⟨b, _, hb⟩ := List.mem_filterMap.mp m
  cases q : h.get? b with
  | none => rw [q] at hb; cases hb
  | some u =>
    rw [q] at hb
    have z : (b, u) = (a, o) := Option.some.inj hb
    cases z
    exact q
def lawCT (K : Frag) : Option (Addr × Addr) := match K.lookup (He.fAd K ("law", none)) with
  | some ⟨_, _, .func fd, _⟩ => (match fd.code with
    | .ref c => (match K.lookup c with
      | some ⟨_, _, .fields vs, _⟩ => (match (vs[11]? : Option Value) with
        | some (.ref P) => some (c, P)
        | _ => none)
      | _ => none)
    | _ => none)
  | _ => none
theorem lawCT_code {K : Frag} {c P : Addr} {oc : Value} {od : Option Addr} {fd : FuncData} {sl : Array (Option Value)} (h : lawCT K = some (c, P)) (e : K.lookup (He.fAd K ("law", none)) = some ⟨oc, od, .func fd, sl⟩) : fd.code = .ref c := by
  unfold lawCT at h
  rw [e] at h
  dsimp only at h
  split at h
  · rename_i c' ec
    split at h
    · split at h
      · cases h; exact ec
      · cases h
    · cases h
  · cases h
def tabL (g : Addr → Option Obj) (K : Frag) : Bool := match lawCT K with
  | some (c, P) => codeHdIn K c P && (tabAt g P && (K.lookup P).isNone)
  | none => false
abbrev AlT : Type := AlP × Bool
def obsT (prog : Program) (n : Nat) (fa : List He.Fa) (fn : List He.DefD) (fx : List FxD) (xt : Frag → Bool) (g : Addr → Option Obj) : AlT := (obsP prog fa fn fx xt (frT g (cStatics :: He.asD g n)), tabL g (frT g (cStatics :: He.asD g n)))
def SaysT (prog : Program) (fa : List He.Fa) (fn : List He.DefD) (fx : List FxD) (xt : Frag → Bool) (h : Heap) : Prop := ∃ K : Frag, K.In h ∧ SaysP prog fa fn fx xt K ∧ ∃ c P, lawCT K = some (c, P) ∧ codeHdIn K c P = true ∧ h.get? P = some { cls := .none, data := .fields #[] } ∧ K.lookup P = none
def hookT (prog : Program) (n : Nat) (fa : List He.Fa) (fn : List He.DefD) (fx : List FxD) (xt : Frag → Bool) : Hook where
  α := AlT
  obs := fun s => obsT prog n fa fn fx xt s.heap.get?
  val := fun _ => (valP fn fx, true)
  says := fun _ h => SaysT prog fa fn fx xt h
  of := fun _ s e => by
    have e1 : obsP prog fa fn fx xt (frT s.heap.get? (cStatics :: He.asD s.heap.get? n)) = valP fn fx := congrArg Prod.fst e
    have e2 : tabL s.heap.get? (frT s.heap.get? (cStatics :: He.asD s.heap.get? n)) = true := congrArg Prod.snd e
    unfold tabL at e2
    split at e2
    · rename_i c P ec
      obtain ⟨z1, z2⟩ := ba e2
      obtain ⟨z2, z3⟩ := ba z2
      exact ⟨_, frT_in, e1, c, P, ec, z1, tabAt_ok z2, Option.isNone_iff_eq_none.mp z3⟩
    · cases e2
  keeps := fun _ h h' ⟨K, hK, c, a, P, q1, q2, q3, q4⟩ k => ⟨K, Frag.In.keeps hK k, c, a, P, q1, q2, k _ _ q3, q4⟩
theorem obsT_eq {prog : Program} {n : Nat} {fa : List He.Fa} {fn : List He.DefD} {fx : List FxD} {xt : Frag → Bool} {g : Addr → Option Obj} {s : Shared} (h : ∀ a, g a = s.heap.get? a) : obsT prog n fa fn fx xt g = (hookT prog n fa fn fx xt).obs s := by
  have e : g = s.heap.get? := funext h
  rw [e] <;> rfl
/-- what is fixed, of a law -/
abbrev gxOf (prog : Program) (w : World) (K : Frag) (mg : Str → Option Value) (base : Heap) (ca : Frag → Nat → Addr) (cf : Nat → List Str) (P : Addr) : Gx :=
  { P := prog, w := w, K := K, mg := mg, base := base, ca := ca K, cf := cf, ah := none, tb := [(P, ("law" ++ ".<locals>." ++ "<lambda>" : Str))] }
def okN (ns : List Int) : Prop := ns.length ≤ 63 ∧ ∀ z ∈ ns, Builtin.Int.intBits z ≤ 1048576
/-- what the law's run begins with: its table, and the script where the module's part does not hold it -/
noncomputable def begH (K : Frag) (a T : Addr) (vs : List Value) (ns : List Int) : L2.Hp := fun b =>
  open Classical in if b = T then some (.tbl #[]) else if b = a ∧ K.lookup a = none then some (.frz { cls := .type "list", data := .seq vs.toArray } (.lst (ns.map L2.V.int))) else none
open L2 PyProof.Rows PySem.Spec in
theorem begH_cases {K : Frag} {a T : Addr} {vs : List Value} {ns : List Int} {b : Addr} {u : HO} (e : begH K a T vs ns b = some u) :
    (b = T ∧ u = .tbl #[]) ∨ (b = a ∧ K.lookup a = none ∧ u = .frz { cls := .type "list", data := .seq vs.toArray } (.lst (ns.map V.int))) := by
  unfold begH at e
  split at e
  · rename_i q; cases e; exact .inl ⟨q, rfl⟩
  · split at e
    · rename_i q; cases e; exact .inr ⟨q.1, q.2, rfl⟩
    · cases e
open L2 PyProof.Rows PySem.Spec in
theorem law_callG {P : Program} {w : World} {K : Frag} {mg mb : Str → Option Value} {CXL : CXT} {k : Nat} {fa a c T : Addr} {fd : FuncData} {x : Str} {sp : Sp} {s1 : Shared} {vs : List Value} {ns : List Int}
    (KX : K.In s1.heap) (gl : s1.heap.Ns mainGlobals mg) (bl : s1.heap.Ns builtinsNs mb) (bb : ∀ y : Str, y ≠ "__name__" → mb y = bootBuiltins y) (lim : s1.heap.NoLimit) (gn : s1.gens = #[])
    (tT : s1.heap.get? T = some { cls := .none, data := .fields #[] }) (nT : K.lookup T = none) (cd : CodeHd s1.heap c T)
    (bm : ∃ (m : Addr) (ob : Obj), mg "__builtins__" = some (.ref m) ∧ m ≠ builtinsNs ∧ s1.heap.get? m = some ob ∧ ob.cls = .type "module" ∧ ob.dict = some builtinsNs ∧ ob.data = .plain)
    (sc : s1.heap.get? a = some { cls := .type "list", data := .seq vs.toArray }) (iv : IntsAre vs ns) (hl : ns.length ≤ sizeLine) (hr : RoomG k callerA)
    (F : ∀ base : Heap, K.In base → base.Ns mainGlobals mg → LamX.TabB base mg c T → FnOkG P w K mg base CXL k fa fd [x] sp) (bd : ∀ (s : Shared) (u : Value), BindsTo s fd ⟨[u], []⟩ [(x, u)])
    (hsp : ∀ H : Hp, H T = some (.tbl #[]) → SqL K H a (ns.map V.int) → sp [.ref a] H (fun v _ => v = .bl true) fun _ _ _ => False)
    (nx : ∀ H e s', CXL [] H s1 (fun _ _ _ => False) e s' → False) :
    codeAny (model P w) callerA (.call (.ref fa) ⟨[.ref a], []⟩) (fun r s' => r = .ok (.ret (.bool true)) ∧ OldK s1.heap s'.heap ∧ s'.os = s1.os ∧ AllBare s'.gens) s1 := by
  have rv := vals_ints iv
  have lv := iv.length
  have aT : a ≠ T := fun z => by
    rw [z, tT] at sc
    cases congrArg Obj.data (Option.some.inj sc)
  let z := begH K a T vs ns
  have zT : z T = some (.tbl #[]) := if_pos rfl
  have zn : ∀ {b : Addr}, b ≠ T → b ≠ a → z b = none := fun {b} h1 h2 => by
    cases e : z b with
    | none => rfl
    | some u => rcases begH_cases e with ⟨q, _⟩ | ⟨q, _⟩
                · exact absurd q h1
                · exact absurd q h2
  have apart : ∀ {b : Addr} {o : Obj}, s1.heap.get? b = some o → (∀ us n, o.data ≠ .seq us n) → o.data ≠ .fields #[] → b ≠ T ∧ b ≠ a := fun {b o} e d1 d2 =>
    ⟨fun q => by
      rw [q, tT] at e; cases e; exact d2 rfl, fun q => by
      rw [q, sc] at e; cases e; exact d1 _ _ rfl⟩
  have stays : ∀ {b : Addr} {o : Obj}, s1.heap.get? b = some o → (∀ us n, o.data ≠ .seq us n) → o.data ≠ .fields #[] → (hidT s1.heap z).get? b = some o := fun {b o} e d1 d2 =>
    have q := apart e d1 d2
    hidT_get e (zn q.1 q.2)
  have nss : ∀ {b : Addr} {m : Str → Option Value}, s1.heap.Ns b m → (hidT s1.heap z).Ns b m := fun {b m} ⟨o, es, ep, e, d, r⟩ =>
    ⟨o, es, ep, stays e (fun us n q => by rw [d] at q; cases q) (fun q => by rw [d] at q; cases q), d, r⟩
  have kin : K.In (hidT s1.heap z) := fun b o e => hidT_get (KX b o e) (by
    cases q : z b with
    | none => rfl
    | some u =>
      rcases begH_cases q with ⟨h, _⟩ | ⟨h, h2, _⟩
      · rw [h, nT] at e; cases e
      · rw [h, h2] at e; cases e)
  have ok : HOk P w z s1.heap := fun b u e => by
    rcases begH_cases e with ⟨h, h2⟩ | ⟨h, _, h2⟩
    · subst h2; rw [h]; exact tT
    · subst h2; rw [h]
      exact ⟨sc, by rw [List.length_map]; exact hl, vs, _, rv, sc⟩
  have tb : LamX.TabB (hidT s1.heap z) mg c T := by
    refine ⟨?_, ?_, fun q => ?_⟩
    · obtain ⟨o, us, f1, f2, f3, f4, f5, f6, f7, e, q1, q2, q3, q4, q5, q6, q7, q8, q9⟩ := cd
      exact ⟨o, us, f1, f2, f3, f4, f5, f6, f7, stays e (fun _ _ q => by rw [q2] at q; cases q) (fun q => by rw [q2] at q; cases q; simp at q3), q1, q2, q3, q4, q5, q6, q7, q8, q9⟩
    · obtain ⟨m, ob, h1, h2, h3, h4, h5, h6⟩ := bm
      have hp : (∀ us n, ob.data ≠ .seq us n) ∧ ob.data ≠ .fields #[] := ⟨fun _ _ q => (by rw [h6] at q; cases q), fun q => (by rw [h6] at q; cases q)⟩
      refine ⟨m, ob, h1, h2, fun q => ?_, (apart h3 hp.1 hp.2).1, stays h3 hp.1 hp.2, h4, h5, h6⟩
      obtain ⟨o, es, ep, e, d, _⟩ := gl
      rw [q, e] at h3
      cases h3
      rw [d] at h6; cases h6
    · obtain ⟨o, es, ep, e, d, _⟩ := gl
      rw [q, tT] at e
      cases e; cases d
  have sq : SqL K z a (ns.map V.int) := by
    cases hk : K.lookup a with
    | none =>
      refine .inl (.inr ⟨{ cls := .type "list", data := .seq vs.toArray }, ?_⟩)
      show begH K a T vs ns a = _
      unfold begH
      rw [if_neg aT, if_pos ⟨rfl, hk⟩]
    | some o =>
      have e := KX a o hk
      rw [sc] at e
      cases e
      exact .inr ⟨_, vs.toArray, _, hk, rfl, rfl, rfl, by rw [List.size_toArray, lv]; exact hl, by simpa using rv⟩
  have e0 : Env0 P w K mg (hidT s1.heap z) callerA [] s1 z :=
    ⟨rfl, ⟨kin, nss gl, ⟨mb, nss bl, bb⟩, have ⟨mc, q1, q2⟩ := lim; ⟨mc, nss q1, q2⟩⟩, fun b o e => of_hidT e, Nat.le_of_eq (hidT_size _ _), trivial, fun b hb => absurd (show b ∈ ([] : List Addr) from hb) (by simp), ok, .of_eq gn⟩
  have run := (F _ kin (nss gl) tb).run callerA [] s1 z ⟨[.ref a], []⟩ [.ref a] [.ref a] _ _ hr e0 (bd s1 (.ref a)) (.cons rfl .nil) (hsp z zT sq)
  refine codeAny_mono run fun r s2 h => ?_
  match r, h with
  | .error e, h => exact (nx z e s2 h).elim
  | .ok .next, h => exact h.elim
  | .ok .brk, h => exact h.elim
  | .ok .cont, h => exact h.elim
  | .ok (.ret u), h =>
    obtain ⟨v, H2, os, bare, un, ok2, rv2, ev⟩ := h
    have ev : v = .bl true := ev
    subst ev
    have eu : u = Value.bool true := rv2
    subst eu
    have kept : ∀ b o, b ≠ T → s1.heap.get? b = some o → s2.heap.get? b = some o := fun b o h1 e => by
      cases q : z b with
      | none => exact un.keep b o e q (fun y => absurd (show b ∈ ([] : List Addr) from y) (by simp)) (by simp)
      | some u =>
        rcases begH_cases q with ⟨h2, _⟩ | ⟨h2, _, h3⟩
        · exact absurd h2 h1
        · subst h3
          have o1 := (ok b _ q).1
          have o2 := (ok2 b _ (un.frzs b _ _ q)).1
          rw [e] at o1
          cases o1
          exact o2
    obtain ⟨more, hm⟩ := un.tbls T #[] zT
    have tT2 := ok2 T _ hm
    refine ⟨rfl, ⟨fun b o e => ?_, fun b o e => ?_⟩, os, bare⟩
    · by_cases hb : b = T
      · subst hb
        rw [tT] at e
        cases e
        refine .inr (.inl ⟨(cd.tab tT).isCodeTable, rfl, #[], more, rfl, ?_⟩)
        rw [Array.empty_append] at tT2 ⊢
        exact tT2
      · exact .inl (kept b o hb e)
    · by_cases hb : b = T
      · rw [hb]; exact ⟨_, tT2⟩
      · exact ⟨o, kept b o hb e⟩
open L2 PyProof.Rows PySem.Spec in
theorem walk_law {l : OpenLaw} {q : Program} {loose : List Str} {XP : (Str → Option Value) → Heap → Prop} {d : DefRec} {fa : List He.Fa} {fn : List He.DefD} {fx : List FxD} {xt : Frag → Bool} {st : Stmt} {k i j : Nat} {ca : Frag → Nat → Addr} {cf : Nat → List Str}
    (hn : l.most = some 63) (hdf : d.params.defaults = []) (hname : d.name = "law") (hr : Room k callerA) (hlaw : fn[i]? = some ⟨("law", none), "law", "law", defArgs st, defBody st, defScope st, [], []⟩) (hglo : fa[j]? = some (.glo "law"))
    (hb : ∀ (kV doc pm : Value) (an : Option Addr) (cdv ct : Value) (us : List Value), us.length = ["script"].length → bindArgs (fnOf "law" "law" (defArgs st) (defBody st) (defScope st) .none kV doc pm an cdv ct) ⟨us, []⟩ = pure ((["script"] : List Str).zip us))
    (F : ∀ (w : World) (mg : Str → Option Value) (K : Frag) (base : Heap) (f cc P : Addr) (fd : FuncData), K.In base → base.Ns mainGlobals mg → SaysP l.prog fa fn fx xt K → FunD K "law" "law" (defArgs st) (defBody st) (defScope st) [] [] f fd → fd.code = .ref cc → K.lookup P = none → LamX.TabB base mg cc P →
      FnOkG l.prog w K mg base (L2.CX l.prog w) k f fd ["script"] (spL (gxOf l.prog w K mg base ca cf P) okN)) :
    WalkO q loose XP (fun _ h => SaysT l.prog fa fn fx xt h) l.row.toRowW d [] (fun f vs => PySem.call f vs) := by
  refine Att.attach_callB hn hdf fun w s0 s1 mg mb f o pm cd doc a vs ns G Y ho hd hcd hmg hobj hints hlen hbits hg => ?_
  obtain ⟨K, KX, S, c, P, hL, hc, hP, nP⟩ := Y
  obtain ⟨fd, Fd⟩ := S.def_ i hlaw
  have g1 := He.glo_ok KX G.T.g (S.fact j hglo)
  have ef : f = He.ga K "law" := by
    rw [hname, g1] at hmg
    cases hmg; rfl
  have Fd : FunD K "law" "law" (defArgs st) (defBody st) (defScope st) [] [] f fd := by rw [ef]; exact Fd
  have hcode : fd.code = .ref c := by
    obtain ⟨oc, od, dV, kV, doc, pm, an, cdv, ct, osl, e, lk, _⟩ := Fd.ex
    subst e
    rw [ef] at lk
    exact lawCT_code hL lk
  refine law_callG (CXL := L2.CX l.prog w) (sp := spL (gxOf l.prog w K mg s1.heap ca cf P) okN) KX G.T.g G.T.b G.T.builtins G.T.nolimit hg hP nP (codeHd_of_K KX hc) G.T.bmain hobj hints (Nat.le_trans hlen (by rw [sizeLine_eq]; decide)) ⟨hr, rfl⟩
    (fun base KB NB TB => F w mg K base f c P fd KB NB S Fd hcode nP TB) (fun s u => Fd.bindsA (ps := ["script"]) hb s [u] rfl) (fun H hT hS => ?_) fun H e s' ⟨_, _, _, _, _, _, _, _, _, _, _, _, z⟩ => z
  refine ⟨a, ns, rfl, hS, ⟨hlen, hbits⟩, fun p hp => ?_, fun _ => rfl⟩
  rw [List.mem_singleton.mp hp]
  exact hT
theorem xt_at {xts : List (Frag → Bool)} {K : Frag} (h : (xts.all fun f => f K) = true) (i : Nat) {f : Frag → Bool} (e : xts[i]? = some f) : f K = true := List.all_eq_true.mp h f (List.mem_of_getElem? e)
end PV

/-! PYb: lambdas in more than one def: a list of tables. -/
namespace PV
open PySem PySem.W PySem.HandSPX
def defCT (K : Frag) (n : Str) : Option (Addr × Addr) := match K.lookup (He.fAd K (n, none)) with
  | some ⟨_, _, .func fd, _⟩ => (match fd.code with
    | .ref c => (match K.lookup c with
      | some ⟨_, _, .fields vs, _⟩ => (match (vs[11]? : Option Value) with
        | some (.ref P) => some (c, P)
        | _ => none)
      | _ => none)
    | _ => none)
  | _ => none
theorem defCT_code {K : Frag} {n : Str} {c P : Addr} {oc : Value} {od : Option Addr} {fd : FuncData} {sl : Array (Option Value)} (h : defCT K n = some (c, P)) (e : K.lookup (He.fAd K (n, none)) = some ⟨oc, od, .func fd, sl⟩) : fd.code = .ref c := by
  unfold defCT at h
  rw [e] at h
  dsimp only at h
  split at h
  · rename_i c' ec
    split at h
    · split at h
      · cases h; exact ec
      · cases h
    · cases h
  · cases h
/-- each of the tables: known by its code, empty, not of the module's part -/
def tabOne (g : Addr → Option Obj) (K : Frag) (n : Str) : Bool := match defCT K n with
  | some (c, P) => codeHdIn K c P && (tabAt g P && (K.lookup P).isNone)
  | none => false
def ctOf (K : Frag) (ls : List Str) : List Addr := ls.filterMap fun n => (defCT K n).map (·.2)
def tabsL (ls : List Str) (g : Addr → Option Obj) (K : Frag) : Bool := ls.all (tabOne g K) && decide (ctOf K ls).Nodup
def obsTL (prog : Program) (n : Nat) (ls : List Str) (fa : List He.Fa) (fn : List He.DefD) (fx : List FxD) (xt : Frag → Bool) (g : Addr → Option Obj) : AlT := (obsP prog fa fn fx xt (frT g (cStatics :: He.asD g n)), tabsL ls g (frT g (cStatics :: He.asD g n)))
def SaysTL (prog : Program) (ls : List Str) (fa : List He.Fa) (fn : List He.DefD) (fx : List FxD) (xt : Frag → Bool) (h : Heap) : Prop := ∃ K : Frag, K.In h ∧ SaysP prog fa fn fx xt K ∧ (ctOf K ls).Nodup ∧ ∀ n ∈ ls, ∃ c P, defCT K n = some (c, P) ∧ codeHdIn K c P = true ∧ h.get? P = some { cls := .none, data := .fields #[] } ∧ K.lookup P = none
def hookTL (prog : Program) (n : Nat) (ls : List Str) (fa : List He.Fa) (fn : List He.DefD) (fx : List FxD) (xt : Frag → Bool) : Hook where
  α := AlT
  obs := fun s => obsTL prog n ls fa fn fx xt s.heap.get?
  val := fun _ => (valP fn fx, true)
  says := fun _ h => SaysTL prog ls fa fn fx xt h
  of := fun _ s e => by
    have e1 : obsP prog fa fn fx xt (frT s.heap.get? (cStatics :: He.asD s.heap.get? n)) = valP fn fx := congrArg Prod.fst e
    have e2 : tabsL ls s.heap.get? (frT s.heap.get? (cStatics :: He.asD s.heap.get? n)) = true := congrArg Prod.snd e
    unfold tabsL at e2
    obtain ⟨e2, e3⟩ := ba e2
    refine ⟨_, frT_in, e1, of_decide_eq_true e3, fun m hm => ?_⟩
    have e2 := List.all_eq_true.mp e2 m hm
    unfold tabOne at e2
    split at e2
    · rename_i c P ec
      obtain ⟨z1, z2⟩ := ba e2
      obtain ⟨z2, z3⟩ := ba z2
      exact ⟨c, P, ec, z1, tabAt_ok z2, Option.isNone_iff_eq_none.mp z3⟩
    · cases e2
  keeps := fun _ h h' ⟨K, hK, c, d, q⟩ k => ⟨K, Frag.In.keeps hK k, c, d, fun m hm => by
    obtain ⟨a, P, q1, q2, q3, q4⟩ := q m hm
    exact ⟨a, P, q1, q2, k _ _ q3, q4⟩⟩
theorem obsTL_eq {prog : Program} {n : Nat} {ls : List Str} {fa : List He.Fa} {fn : List He.DefD} {fx : List FxD} {xt : Frag → Bool} {g : Addr → Option Obj} {s : Shared} (h : ∀ a, g a = s.heap.get? a) : obsTL prog n ls fa fn fx xt g = (hookTL prog n ls fa fn fx xt).obs s := by
  have e : g = s.heap.get? := funext h
  rw [e] <;> rfl
def lamN (n : Str) : Str := n ++ ".<locals>." ++ "<lambda>"
def tbOf (K : Frag) (ls : List Str) : List (Addr × Str) := ls.filterMap fun n => (defCT K n).map fun z => (z.2, lamN n)
abbrev gxOfL (prog : Program) (w : World) (K : Frag) (mg : Str → Option Value) (base : Heap) (ca : Frag → Nat → Addr) (cf : Nat → List Str) (ls : List Str) : Gx :=
  { P := prog, w := w, K := K, mg := mg, base := base, ca := ca K, cf := cf, ah := none, tb := tbOf K ls }
theorem tb_mem {K : Frag} {ls : List Str} {n : Str} {c P : Addr} (hn : n ∈ ls) (h : defCT K n = some (c, P)) : (P, lamN n) ∈ tbOf K ls := List.mem_filterMap.mpr ⟨n, hn, by rw [h]; rfl⟩
theorem ct_mem {K : Frag} {ls : List Str} {n : Str} {c P : Addr} (hn : n ∈ ls) (h : defCT K n = some (c, P)) : P ∈ ctOf K ls := List.mem_filterMap.mpr ⟨n, hn, by rw [h]; rfl⟩
theorem tb_ct {K : Frag} {ls : List Str} {p : Addr × Str} (h : p ∈ tbOf K ls) : p.1 ∈ ctOf K ls := by
  obtain ⟨n, hn, e⟩ := List.mem_filterMap.mp h
  cases q : defCT K n with
  | none => rw [q] at e; cases e
  | some z => rw [q] at e; cases e; exact List.mem_filterMap.mpr ⟨n, hn, by rw [q]; rfl⟩
theorem tb_un {K : Frag} : ∀ {ls : List Str} {n : Str} {c P : Addr}, (ctOf K ls).Nodup → n ∈ ls → defCT K n = some (c, P) → ∀ p ∈ tbOf K ls, p.1 = P → p.2 = lamN n
  | [], _, _, _, _, h, _, _, _, _ => nomatch h
  | m :: ls, n, c, P, nd, h, e, p, hp, hP => by
    cases q : defCT K m with
    | none =>
      have e1 : ctOf K (m :: ls) = ctOf K ls := by unfold ctOf; rw [List.filterMap_cons, q]; rfl
      have e2 : tbOf K (m :: ls) = tbOf K ls := by unfold tbOf; rw [List.filterMap_cons, q]; rfl
      rw [e1] at nd
      rw [e2] at hp
      rcases List.mem_cons.mp h with rfl | h
      · rw [q] at e; cases e
      · exact tb_un nd h e p hp hP
    | some z =>
      have e1 : ctOf K (m :: ls) = z.2 :: ctOf K ls := by unfold ctOf; rw [List.filterMap_cons, q]; rfl
      have e2 : tbOf K (m :: ls) = (z.2, lamN m) :: tbOf K ls := by unfold tbOf; rw [List.filterMap_cons, q]; rfl
      rw [e1, List.nodup_cons] at nd
      rw [e2] at hp
      rcases List.mem_cons.mp h with rfl | h
      · rw [q] at e
        cases e
        rcases List.mem_cons.mp hp with rfl | hp
        · rfl
        · exact absurd (hP ▸ tb_ct hp) nd.1
      · rcases List.mem_cons.mp hp with rfl | hp
        · have hP : z.2 = P := hP
          rw [hP] at nd
          exact absurd (ct_mem h e) nd.1
        · exact tb_un nd.2 h e p hp hP
noncomputable def begL (K : Frag) (a : Addr) (Ts : List Addr) (vs : List Value) (ns : List Int) : L2.Hp := fun b =>
  open Classical in if b ∈ Ts then some (.tbl #[]) else if b = a ∧ K.lookup a = none then some (.frz { cls := .type "list", data := .seq vs.toArray } (.lst (ns.map L2.V.int))) else none
open L2 PyProof.Rows PySem.Spec in
theorem begL_cases {K : Frag} {a : Addr} {Ts : List Addr} {vs : List Value} {ns : List Int} {b : Addr} {u : HO} (e : begL K a Ts vs ns b = some u) :
    (b ∈ Ts ∧ u = .tbl #[]) ∨ (b = a ∧ K.lookup a = none ∧ u = .frz { cls := .type "list", data := .seq vs.toArray } (.lst (ns.map V.int))) := by
  unfold begL at e
  split at e
  · rename_i q; cases e; exact .inl ⟨q, rfl⟩
  · split at e
    · rename_i q; cases e; exact .inr ⟨q.1, q.2, rfl⟩
    · cases e
open L2 PyProof.Rows PySem.Spec in
theorem law_callGL {P : Program} {w : World} {K : Frag} {mg mb : Str → Option Value} {CXL : CXT} {k : Nat} {fa a : Addr} {Ts : List Addr} {fd : FuncData} {x : Str} {sp : Sp} {s1 : Shared} {vs : List Value} {ns : List Int}
    (KX : K.In s1.heap) (gl : s1.heap.Ns mainGlobals mg) (bl : s1.heap.Ns builtinsNs mb) (bb : ∀ y : Str, y ≠ "__name__" → mb y = bootBuiltins y) (lim : s1.heap.NoLimit) (gn : s1.gens = #[])
    (tT : ∀ T ∈ Ts, s1.heap.get? T = some { cls := .none, data := .fields #[] }) (nT : ∀ T ∈ Ts, K.lookup T = none) (cd : ∀ T ∈ Ts, ∃ c, CodeHd s1.heap c T)
    (bm : ∃ (m : Addr) (ob : Obj), mg "__builtins__" = some (.ref m) ∧ m ≠ builtinsNs ∧ s1.heap.get? m = some ob ∧ ob.cls = .type "module" ∧ ob.dict = some builtinsNs ∧ ob.data = .plain)
    (sc : s1.heap.get? a = some { cls := .type "list", data := .seq vs.toArray }) (iv : IntsAre vs ns) (hl : ns.length ≤ sizeLine) (hr : RoomG k callerA)
    (F : ∀ base : Heap, K.In base → base.Ns mainGlobals mg → (∀ c T, T ∈ Ts → CodeHd s1.heap c T → LamX.TabB base mg c T) → FnOkG P w K mg base CXL k fa fd [x] sp) (bd : ∀ (s : Shared) (u : Value), BindsTo s fd ⟨[u], []⟩ [(x, u)])
    (hsp : ∀ H : Hp, (∀ T ∈ Ts, H T = some (.tbl #[])) → SqL K H a (ns.map V.int) → sp [.ref a] H (fun v _ => v = .bl true) fun _ _ _ => False)
    (nx : ∀ H e s', CXL [] H s1 (fun _ _ _ => False) e s' → False) :
    codeAny (model P w) callerA (.call (.ref fa) ⟨[.ref a], []⟩) (fun r s' => r = .ok (.ret (.bool true)) ∧ OldK s1.heap s'.heap ∧ s'.os = s1.os ∧ AllBare s'.gens) s1 := by
  have rv := vals_ints iv
  have lv := iv.length
  have aT : a ∉ Ts := fun z => by
    have := tT a z
    rw [sc] at this
    cases congrArg Obj.data (Option.some.inj this)
  let z := begL K a Ts vs ns
  have zT : ∀ T ∈ Ts, z T = some (.tbl #[]) := fun T h => if_pos h
  have zn : ∀ {b : Addr}, b ∉ Ts → b ≠ a → z b = none := fun {b} h1 h2 => by
    cases e : z b with
    | none => rfl
    | some u => rcases begL_cases e with ⟨q, _⟩ | ⟨q, _⟩
                · exact absurd q h1
                · exact absurd q h2
  have apart : ∀ {b : Addr} {o : Obj}, s1.heap.get? b = some o → (∀ us n, o.data ≠ .seq us n) → o.data ≠ .fields #[] → b ∉ Ts ∧ b ≠ a := fun {b o} e d1 d2 =>
    ⟨fun q => by
      have := tT b q
      rw [e] at this; cases this; exact d2 rfl, fun q => by
      rw [q, sc] at e; cases e; exact d1 _ _ rfl⟩
  have stays : ∀ {b : Addr} {o : Obj}, s1.heap.get? b = some o → (∀ us n, o.data ≠ .seq us n) → o.data ≠ .fields #[] → (hidT s1.heap z).get? b = some o := fun {b o} e d1 d2 =>
    have q := apart e d1 d2
    hidT_get e (zn q.1 q.2)
  have nss : ∀ {b : Addr} {m : Str → Option Value}, s1.heap.Ns b m → (hidT s1.heap z).Ns b m := fun {b m} ⟨o, es, ep, e, d, r⟩ =>
    ⟨o, es, ep, stays e (fun us n q => by rw [d] at q; cases q) (fun q => by rw [d] at q; cases q), d, r⟩
  have kin : K.In (hidT s1.heap z) := fun b o e => hidT_get (KX b o e) (by
    cases q : z b with
    | none => rfl
    | some u =>
      rcases begL_cases q with ⟨h, _⟩ | ⟨h, h2, _⟩
      · rw [nT b h] at e; cases e
      · rw [h, h2] at e; cases e)
  have ok : HOk P w z s1.heap := fun b u e => by
    rcases begL_cases e with ⟨h, h2⟩ | ⟨h, _, h2⟩
    · subst h2; exact tT b h
    · subst h2; rw [h]
      exact ⟨sc, by rw [List.length_map]; exact hl, vs, _, rv, sc⟩
  have tb : ∀ c T, T ∈ Ts → CodeHd s1.heap c T → LamX.TabB (hidT s1.heap z) mg c T := fun c T hT cd => by
    refine ⟨?_, ?_, fun q => ?_⟩
    · obtain ⟨o, us, f1, f2, f3, f4, f5, f6, f7, e, q1, q2, q3, q4, q5, q6, q7, q8, q9⟩ := cd
      exact ⟨o, us, f1, f2, f3, f4, f5, f6, f7, stays e (fun _ _ q => by rw [q2] at q; cases q) (fun q => by rw [q2] at q; cases q; simp at q3), q1, q2, q3, q4, q5, q6, q7, q8, q9⟩
    · obtain ⟨m, ob, h1, h2, h3, h4, h5, h6⟩ := bm
      have hp : (∀ us n, ob.data ≠ .seq us n) ∧ ob.data ≠ .fields #[] := ⟨fun _ _ q => (by rw [h6] at q; cases q), fun q => (by rw [h6] at q; cases q)⟩
      refine ⟨m, ob, h1, h2, fun q => ?_, fun q => (apart h3 hp.1 hp.2).1 (q ▸ hT), stays h3 hp.1 hp.2, h4, h5, h6⟩
      obtain ⟨o, es, ep, e, d, _⟩ := gl
      rw [q, e] at h3
      cases h3
      rw [d] at h6; cases h6
    · obtain ⟨o, es, ep, e, d, _⟩ := gl
      rw [q, tT T hT] at e
      cases e; cases d
  have sq : SqL K z a (ns.map V.int) := by
    cases hk : K.lookup a with
    | none =>
      refine .inl (.inr ⟨{ cls := .type "list", data := .seq vs.toArray }, ?_⟩)
      show begL K a Ts vs ns a = _
      unfold begL
      rw [if_neg aT, if_pos ⟨rfl, hk⟩]
    | some o =>
      have e := KX a o hk
      rw [sc] at e
      cases e
      exact .inr ⟨_, vs.toArray, _, hk, rfl, rfl, rfl, by rw [List.size_toArray, lv]; exact hl, by simpa using rv⟩
  have e0 : Env0 P w K mg (hidT s1.heap z) callerA [] s1 z :=
    ⟨rfl, ⟨kin, nss gl, ⟨mb, nss bl, bb⟩, have ⟨mc, q1, q2⟩ := lim; ⟨mc, nss q1, q2⟩⟩, fun b o e => of_hidT e, Nat.le_of_eq (hidT_size _ _), trivial, fun b hb => absurd (show b ∈ ([] : List Addr) from hb) (by simp), ok, .of_eq gn⟩
  have run := (F _ kin (nss gl) tb).run callerA [] s1 z ⟨[.ref a], []⟩ [.ref a] [.ref a] _ _ hr e0 (bd s1 (.ref a)) (.cons rfl .nil) (hsp z zT sq)
  refine codeAny_mono run fun r s2 h => ?_
  match r, h with
  | .error e, h => exact (nx z e s2 h).elim
  | .ok .next, h => exact h.elim
  | .ok .brk, h => exact h.elim
  | .ok .cont, h => exact h.elim
  | .ok (.ret u), h =>
    obtain ⟨v, H2, os, bare, un, ok2, rv2, ev⟩ := h
    have ev : v = .bl true := ev
    subst ev
    have eu : u = Value.bool true := rv2
    subst eu
    have kept : ∀ b o, b ∉ Ts → s1.heap.get? b = some o → s2.heap.get? b = some o := fun b o h1 e => by
      cases q : z b with
      | none => exact un.keep b o e q (fun y => absurd (show b ∈ ([] : List Addr) from y) (by simp)) (by simp)
      | some u =>
        rcases begL_cases q with ⟨h2, _⟩ | ⟨h2, _, h3⟩
        · exact absurd h2 h1
        · subst h3
          have o1 := (ok b _ q).1
          have o2 := (ok2 b _ (un.frzs b _ _ q)).1
          rw [e] at o1
          cases o1
          exact o2
    refine ⟨rfl, ⟨fun b o e => ?_, fun b o e => ?_⟩, os, bare⟩
    · by_cases hb : b ∈ Ts
      · obtain ⟨more, hm⟩ := un.tbls b #[] (zT b hb)
        have tT2 := ok2 b _ hm
        obtain ⟨c, cd⟩ := cd b hb
        rw [tT b hb] at e
        cases e
        refine .inr (.inl ⟨(cd.tab (tT b hb)).isCodeTable, rfl, #[], more, rfl, ?_⟩)
        rw [Array.empty_append] at tT2 ⊢
        exact tT2
      · exact .inl (kept b o hb e)
    · by_cases hb : b ∈ Ts
      · obtain ⟨more, hm⟩ := un.tbls b #[] (zT b hb)
        exact ⟨_, ok2 b _ hm⟩
      · exact ⟨o, kept b o hb e⟩
/-- of a def with lambdas: its code, its table -/
def TabN (G : Gx) (n : Str) (cc P : Addr) : Prop := LamX.TabB G.base G.mg cc P ∧ (P, (n ++ ".<locals>." ++ "<lambda>" : Str)) ∈ G.tb ∧ ∀ p ∈ G.tb, p.1 = P → p.2 = (n ++ ".<locals>." ++ "<lambda>" : Str)
open L2 PyProof.Rows PySem.Spec in
def HasDL (G : Gx) (x : Str) (st : Stmt) (cc : Addr) : Prop := ∃ f fd, FunD G.K x x (defArgs st) (defBody st) (defScope st) [] [] f fd ∧ G.mg x = some (.ref f) ∧ fd.code = .ref cc
open L2 PyProof.Rows PySem.Spec in
theorem walk_lawL {l : OpenLaw} {q : Program} {loose : List Str} {XP : (Str → Option Value) → Heap → Prop} {d : DefRec} {ls : List Str} {fa : List He.Fa} {fn : List He.DefD} {fx : List FxD} {xt : Frag → Bool} {st : Stmt} {k i j : Nat} {ca : Frag → Nat → Addr} {cf : Nat → List Str}
    (hn : l.most = some 63) (hdf : d.params.defaults = []) (hname : d.name = "law") (hr : Room k callerA) (hls : ("law" : Str) ∈ ls) (hlaw : fn[i]? = some ⟨("law", none), "law", "law", defArgs st, defBody st, defScope st, [], []⟩) (hglo : fa[j]? = some (.glo "law"))
    (hb : ∀ (kV doc pm : Value) (an : Option Addr) (cdv ct : Value) (us : List Value), us.length = ["script"].length → bindArgs (fnOf "law" "law" (defArgs st) (defBody st) (defScope st) .none kV doc pm an cdv ct) ⟨us, []⟩ = pure ((["script"] : List Str).zip us))
    (F : ∀ (w : World) (mg : Str → Option Value) (K : Frag) (base : Heap) (f cc P : Addr) (fd : FuncData), K.In base → base.Ns mainGlobals mg → SaysP l.prog fa fn fx xt K → FunD K "law" "law" (defArgs st) (defBody st) (defScope st) [] [] f fd → fd.code = .ref cc → (∀ p ∈ tbOf K ls, K.lookup p.1 = none) → TabN (gxOfL l.prog w K mg base ca cf ls) "law" cc P →
      (∀ n ∈ ls, ∃ c P, (∀ oc od fd sl, K.lookup (He.fAd K (n, none)) = some ⟨oc, od, .func fd, sl⟩ → fd.code = .ref c) ∧ TabN (gxOfL l.prog w K mg base ca cf ls) n c P) →
      FnOkG l.prog w K mg base (L2.CX l.prog w) k f fd ["script"] (spL (gxOfL l.prog w K mg base ca cf ls) okN)) :
    WalkO q loose XP (fun _ h => SaysTL l.prog ls fa fn fx xt h) l.row.toRowW d [] (fun f vs => PySem.call f vs) := by
  refine Att.attach_callB hn hdf fun w s0 s1 mg mb f o pm cd doc a vs ns G Y ho hd hcd hmg hobj hints hlen hbits hg => ?_
  obtain ⟨K, KX, S, nd, Y⟩ := Y
  obtain ⟨c, P, hL, hc, hP, nP⟩ := Y _ hls
  obtain ⟨fd, Fd⟩ := S.def_ i hlaw
  have g1 := He.glo_ok KX G.T.g (S.fact j hglo)
  have ef : f = He.ga K "law" := by
    rw [hname, g1] at hmg
    cases hmg; rfl
  have Fd : FunD K "law" "law" (defArgs st) (defBody st) (defScope st) [] [] f fd := by rw [ef]; exact Fd
  have hcode : fd.code = .ref c := by
    obtain ⟨oc, od, dV, kV, doc, pm, an, cdv, ct, osl, e, lk, _⟩ := Fd.ex
    subst e
    rw [ef] at lk
    exact defCT_code hL lk
  have all : ∀ T ∈ ctOf K ls, ∃ n ∈ ls, ∃ c, defCT K n = some (c, T) ∧ codeHdIn K c T = true ∧ s1.heap.get? T = some { cls := .none, data := .fields #[] } ∧ K.lookup T = none := fun T hT => by
    obtain ⟨n, hn, e⟩ := List.mem_filterMap.mp hT
    obtain ⟨c, P, q1, q2, q3, q4⟩ := Y n hn
    rw [q1] at e
    cases e
    exact ⟨n, hn, c, q1, q2, q3, q4⟩
  refine law_callGL (CXL := L2.CX l.prog w) (sp := spL (gxOfL l.prog w K mg s1.heap ca cf ls) okN) (Ts := ctOf K ls) KX G.T.g G.T.b G.T.builtins G.T.nolimit hg (fun T hT => by
      obtain ⟨n, hn, c, q1, q2, q3, q4⟩ := all T hT
      exact q3) (fun T hT => by
      obtain ⟨n, hn, c, q1, q2, q3, q4⟩ := all T hT
      exact q4) (fun T hT => by
      obtain ⟨n, hn, c, q1, q2, q3, q4⟩ := all T hT
      exact ⟨c, codeHd_of_K KX q2⟩) G.T.bmain hobj hints (Nat.le_trans hlen (by rw [sizeLine_eq]; decide)) ⟨hr, rfl⟩
    (fun base KB NB TB => F w mg K base f c P fd KB NB S Fd hcode (fun p hp => by
      obtain ⟨n, hn, c, q1, q2, q3, q4⟩ := all _ (tb_ct hp)
      exact q4) ⟨TB c P (ct_mem hls hL) (codeHd_of_K KX hc), tb_mem hls hL, tb_un nd hls hL⟩ fun n hn => by
      obtain ⟨c, P, q1, q2, q3, q4⟩ := Y n hn
      exact ⟨c, P, fun oc od fd sl lk => defCT_code q1 lk, TB c P (ct_mem hn q1) (codeHd_of_K KX q2), tb_mem hn q1, tb_un nd hn q1⟩) (fun s u => Fd.bindsA (ps := ["script"]) hb s [u] rfl) (fun H hT hS => ?_) fun H e s' ⟨_, _, _, _, _, _, _, _, _, _, _, _, z⟩ => z
  refine ⟨a, ns, rfl, hS, ⟨hlen, hbits⟩, fun p hp => hT _ (tb_ct hp), fun _ => rfl⟩
open L2 PyProof.Rows PySem.Spec in
/-- a def with lambdas, told of its code -/
theorem fnDL {G : Gx} {N ps : List Str} {x : Str} {st : Stmt} {k : Nat} {mb : MS} {cc : Addr} (h : HasDL G x st cc) (S : FnScope N ps (defScope st))
    (b : ∀ (kV doc pm : Value) (an : Option Addr) (cdv ct : Value) (us : List Value), us.length = ps.length → bindArgs (PySem.W.fnOf x x (defArgs st) (defBody st) (defScope st) .none kV doc pm an cdv ct) ⟨us, []⟩ = pure (ps.zip us))
    (hb : ∀ (f : Addr) (Ar : Around) (outer : List Env) (s : Shared) (H : Hp) (E : XK), Cw G k (cxG G N x (defScope st) f (.ref cc) Ar outer s H E) → EvSs G (cxG G N x (defScope st) f (.ref cc) Ar outer s H E) (defBody st) mb) : FnF G (k + 1) x ps (semD N.length mb) := by
  obtain ⟨f, fd, F, gx, hcc⟩ := h
  obtain ⟨oc, od, dV, kV, doc, pm, an, cdv, ct, osl, rfl, lk, hcd, q1, q2⟩ := id F.ex
  have hcc : cdv = .ref cc := hcc
  subst hcc
  refine ⟨f, _, okG2 lk hcd S (fun vs H Q E h => ?_) (fun Ar outer s H vs Q E hr h => ?_), gx, F.kp, F.bindsN b⟩
  · obtain ⟨A, ds, tp, hn, _, _, hv, _⟩ := h
    rw [← hv.length, hn]
  · obtain ⟨A, ds, tp, hn, hA, hT, hv, ho⟩ := h
    have C : Cw G k (cxG G N x (defScope st) f (.ref cc) Ar outer s H E) := ⟨rfl, rfl, rfl, rfl, rfl, S.nd, hr.rm, hr.gd⟩
    have R := parS_rel (N := N) hA hT hv
    refine ⟨tS G (bodyF A H) (fun cls d _ H' => E cls d H') mb, hb f Ar outer s H E C _ _ (takes_of rfl rfl rfl rfl), A, _, tp, R.body fun i d e => ?_, OutC.body ho⟩
    obtain ⟨b, _, h2⟩ := parS_at e
    cases b <;> cases h2
end PV
namespace PV
open PySem PySem.W PySem.HandSPX L2 PyProof.Rows PySem.Spec
theorem hasDL_of {G : Gx} {x : Str} {st : Stmt} {f c : Addr} {fd : FuncData} (h : FunD G.K x x (defArgs st) (defBody st) (defScope st) [] [] f fd) (hg : G.mg x = some (.ref f)) (hc : ∀ oc od fd sl, G.K.lookup f = some ⟨oc, od, .func fd, sl⟩ → fd.code = .ref c) : HasDL G x st c := by
  refine ⟨f, fd, h, hg, ?_⟩
  obtain ⟨oc, od, dV, kV, doc, pm, an, cdv, ct, osl, e, lk, _⟩ := h.ex
  subst e
  exact hc _ _ _ _ lk
end PV

set_option maxHeartbeats 0
namespace K01
open PySem L2 PV
abbrev nC : Nat := 1
def cfT : Nat → List Str
  | 0 => ["places", "deeds"]
  | _ => []
def fi_places : Nat → Option Nat
  | 0 => some 0
  | _ => none
def fi_deeds : Nat → Option Nat
  | 0 => some 1
  | _ => none
def fn_places (c j : Nat) : Option Unit := if (c = 0 ∧ j = 0) then some () else none
def fn_deeds (c j : Nat) : Option Unit := if (c = 0 ∧ j = 1) then some () else none
def exm_NetError : Nat → Option Bool
  | 1 => some true
  | 2 => some true
  | 3 => some true
  | 4 => some true
  | 5 => some true
  | 6 => some true
  | _ => none
def kt_BadNet : Nat → Option Bool
  | 1 => some false
  | 2 => some true
  | 3 => some false
  | 4 => some false
  | 5 => some false
  | 6 => some false
  | _ => none
def kt_NoDeed : Nat → Option Bool
  | 1 => some false
  | 2 => some false
  | 3 => some false
  | 4 => some true
  | 5 => some false
  | 6 => some false
  | _ => none
def kt_NoMark : Nat → Option Bool
  | 1 => some false
  | 2 => some false
  | 3 => some false
  | 4 => some false
  | 5 => some true
  | 6 => some false
  | _ => none
def kt_NotReady : Nat → Option Bool
  | 1 => some false
  | 2 => some false
  | 3 => some true
  | 4 => some false
  | 5 => some false
  | 6 => some false
  | _ => none
def kt_TooGreat : Nat → Option Bool
  | 1 => some false
  | 2 => some false
  | 3 => some false
  | 4 => some false
  | 5 => some false
  | 6 => some true
  | _ => none
def kt_ValueError : Nat → Option Bool
  | 1 => some true
  | 2 => some true
  | 3 => some true
  | 4 => some true
  | 5 => some true
  | 6 => some true
  | _ => none
def fx_at : Nat → Option Nat
  | 3 => some 0
  | _ => none
def fx_part : Nat → Option Nat
  | 2 => some 0
  | _ => none
def m_is_integer : MS := mRet (mAnd (mIsi (isiT nC .int) (mNm 0)) (mNot (mIsi (isiT nC .bl) (mNm 0))))
def sem_is_integer : Sem1 := semD 1 m_is_integer
def m_is_within : MS := mRet (mAnd (mCall sem_is_integer (mCons (mNm 0) (mNil))) (mChain fLe fLe (mNm 1) (mNm 0) (mNm 2)))
def sem_is_within : Sem1 := semD 3 m_is_within
def m_is_tuple : MS := mRet (mAnd (mIsi (isiT nC .tup) (mNm 0)) (mChain fLe fLe (mNm 1) (mB fLen (mCons (mNm 0) (mNil))) (mNm 2)))
def sem_is_tuple : Sem1 := semD 3 m_is_tuple
def m_eq_Net : MS := mRet (mAnd (mIsi (isiC nC 0) (mNm 1)) (mBin fEq3 (mTup (mCons (mFld fi_places (mNm 0)) (mCons (mFld fi_deeds (mNm 0)) (mNil)))) (mTup (mCons (mFld fi_places (mNm 1)) (mCons (mFld fi_deeds (mNm 1)) (mNil))))))
def sem_eq_Net : Sem1 := semD 2 m_eq_Net
def m_is_counts : MS := mRet (mAnd (mCall sem_is_tuple (mCons (mNm 1) (mCons (mNm 0) (mCons (mNm 0) (mNil))))) (mB fAll (mCons (mLc (mSeqI (mNm 1)) (pNm 2) (mC (.bl true)) (mCall sem_is_within (mCons (mNm 2) (mCons (mC (.int 0)) (mCons (mC (.int 9)) (mNil))))) [2]) (mNil))))
def sem_is_counts : Sem1 := semD 3 m_is_counts
def m_is_mark : MS := mRet (mAnd (mCall sem_is_tuple (mCons (mNm 1) (mCons (mFld fi_places (mNm 0)) (mCons (mFld fi_places (mNm 0)) (mNil))))) (mB fAll (mCons (mLc (mSeqI (mNm 1)) (pNm 2) (mC (.bl true)) (mCall sem_is_within (mCons (mNm 2) (mCons (mC (.int 0)) (mCons (mC (.int 1000000)) (mNil))))) [2]) (mNil))))
def sem_is_mark : Sem1 := semD 3 m_is_mark
def m_check_mark : MS := mIfS (mNot (mTru (mCall sem_is_mark (mCons (mNm 0) (mCons (mNm 1) (mNil)))))) (mRaise0 5) (mNext)
def sem_check_mark : Sem1 := semD 2 m_check_mark
def m_check_deed : MS := mIfS (mNot (mTru (mCall sem_is_within (mCons (mNm 1) (mCons (mC (.int 0)) (mCons (mBin fSub (mB fLen (mCons (mFld fi_deeds (mNm 0)) (mNil))) (mC (.int 1))) (mNil))))))) (mRaise0 4) (mNext)
def sem_check_deed : Sem1 := semD 2 m_check_deed
def m_is_row : MS := mRet (mAnd (mCall sem_is_tuple (mCons (mNm 1) (mCons (mC (.int 0)) (mCons (mC (.int 200)) (mNil))))) (mB fAll (mCons (mLc (mSeqI (mNm 1)) (pNm 2) (mC (.bl true)) (mCall sem_is_within (mCons (mNm 2) (mCons (mC (.int 0)) (mCons (mBin fSub (mB fLen (mCons (mFld fi_deeds (mNm 0)) (mNil))) (mC (.int 1))) (mNil))))) [2]) (mNil))))
def sem_is_row : Sem1 := semD 3 m_is_row
def m_can_do : MS := mRet (mB fAll (mCons (mLc (mArgI fZip2 (mCons (mNm 1) (mCons (mBin fIx (mBin fIx (mFld fi_deeds (mNm 0)) (mNm 2)) (mC (.int 0))) (mNil)))) (pTup (pCons (pNm 3) (pCons (pNm 4) (pNil)))) (mC (.bl true)) (mBin fGe (mNm 3) (mNm 4)) [3, 4]) (mNil)))
def sem_can_do : Sem1 := semD 5 m_can_do
def m_behind : MS := mSeq (mAsgP (mBin fIx (mFld fi_deeds (mNm 0)) (mNm 2)) (pTup (pCons (pNm 3) (pCons (pNm 4) (pNil))))) (mRet (mB fTuple (mCons (mLc (mArgI fZip3 (mCons (mNm 1) (mCons (mNm 3) (mCons (mNm 4) (mNil))))) (pTup (pCons (pNm 5) (pCons (pNm 6) (pCons (pNm 7) (pNil))))) (mC (.bl true)) (mBin fAdd (mBin fSub (mNm 5) (mNm 6)) (mNm 7)) [5, 6, 7]) (mNil))))
def sem_behind : Sem1 := semD 8 m_behind
def m_ready_of : MS := mRet (mLc (mRng (mCons (mB fLen (mCons (mFld fi_deeds (mNm 0)) (mNil))) (mNil))) (pNm 2) (mTru (mCall sem_can_do (mCons (mNm 0) (mCons (mNm 1) (mCons (mNm 2) (mNil)))))) (mNm 2) [2])
def sem_ready_of : Sem1 := semD 3 m_ready_of
def m_ready : MS := mSeq (mExpr (mCall sem_check_mark (mCons (mNm 0) (mCons (mNm 1) (mNil))))) (mRet (mCall sem_ready_of (mCons (mNm 0) (mCons (mNm 1) (mNil)))))
def sem_ready : Sem1 := semD 2 m_ready
def m_done : MS := mSeq (mExpr (mCall sem_check_mark (mCons (mNm 0) (mCons (mNm 1) (mNil))))) (mSeq (mExpr (mCall sem_check_deed (mCons (mNm 0) (mCons (mNm 2) (mNil))))) (mSeq (mIfS (mNot (mTru (mCall sem_can_do (mCons (mNm 0) (mCons (mNm 1) (mCons (mNm 2) (mNil))))))) (mRaise1 3 (mNm 2)) (mNext)) (mSeq (mSet 3 (mCall sem_behind (mCons (mNm 0) (mCons (mNm 1) (mCons (mNm 2) (mNil)))))) (mSeq (mFrz 3) (mSeq (mIfS (mBin fGt (mB fMax1 (mCons (mBin fAdd (mTup (mCons (mC (.int 0)) (mNil))) (mNm 3)) (mNil))) (mC (.int 1000000))) (mRaise0 6) (mNext)) (mRet (mNm 3)))))))
def sem_done : Sem1 := semD 4 m_done
def m__law_tape : MS := mSeq (mSet 1 (mLc (mSeqI (mSl (mNm 0) (mC .non) (mInt (mC (.int 63))))) (pNm 2) (mC (.bl true)) (mB fAbs (mCons (mB fInt (mCons (mNm 2) (mNil))) (mNil))) [2])) (mSeq (mFrz 1) (mRet (mLst (mCons (mNm 1) (mCons (mC (.int 0)) (mCons (mC (.int 0)) (mCons (mBin fAdd (mC (.int 31)) (mB fLen (mCons (mNm 1) (mNil)))) (mCons (mC (.int 0)) (mNil)))))))))
def sem__law_tape : Sem1 := semD 3 m__law_tape
def m__law_pick : MS := mSeq (mIfS (mAnd (mBin fEq3 (mTapI 0 (mC (.int 2))) (mC (.int 0))) (mBin fLt (mTapI 0 (mC (.int 1))) (mB fLen (mCons (mTapI 0 (mC (.int 0))) (mNil))))) (mSeq (mSet 2 (mBin fIx (mTapI 0 (mC (.int 0))) (mTapI 0 (mC (.int 1))))) (mSeq (mTapS 0 (mC (.int 1)) (mBin fAdd (mTapI 0 (mC (.int 1))) (mC (.int 1)))) (mSeq (mTapS 0 (mC (.int 3)) (mBin fMod (mB fInt (mCons (mBin fAdd (mBin fAdd (mBin fMul3 (mTapI 0 (mC (.int 3))) (mC (.int 69621))) (mNm 2)) (mC (.int 11))) (mNil))) (mC (.int 2147483629)))) (mIfS (mBin fGe (mNm 2) (mBin fPow (mC (.int 10)) (mC (.int 18)))) (mTapS 0 (mC (.int 2)) (mNm 2)) (mNext))))) (mNext)) (mSeq (mIfS (mBin fGt (mTapI 0 (mC (.int 2))) (mC (.int 0))) (mSeq (mSet 3 (mBin fMod (mB fInt (mCons (mTapI 0 (mC (.int 2))) (mNil))) (mNm 1))) (mSeq (mFrz 3) (mSeq (mTapS 0 (mC (.int 2)) (mBin fFdiv (mTapI 0 (mC (.int 2))) (mNm 1))) (mRet (mNm 3))))) (mNext)) (mSeq (mTapS 0 (mC (.int 4)) (mBin fAdd (mTapI 0 (mC (.int 4))) (mC (.int 1)))) (mSeq (mSet 4 (mBin fMod (mB fInt (mCons (mBin fMul3 (mB fInt (mCons (mBin fAdd (mTapI 0 (mC (.int 3))) (mBin fMul3 (mC (.int 7919)) (mTapI 0 (mC (.int 4))))) (mNil))) (mC (.int 48271))) (mNil))) (mC (.int 2147483647)))) (mSeq (mFrz 4) (mSeq (mSet 4 (mBin fMod (mB fInt (mCons (mBin fMul3 (mNm 4) (mBin fAdd (mBin fFdiv (mNm 4) (mC (.int 1009))) (mC (.int 69621)))) (mNil))) (mC (.int 2147483647)))) (mSeq (mFrz 4) (mSeq (mSet 4 (mBin fMod (mB fInt (mCons (mBin fMul3 (mNm 4) (mBin fAdd (mBin fFdiv (mNm 4) (mC (.int 2003))) (mC (.int 40692)))) (mNil))) (mC (.int 2147483399)))) (mSeq (mFrz 4) (mRet (mBin fMod (mB fInt (mCons (mBin fFdiv (mNm 4) (mC (.int 16))) (mNil))) (mNm 1)))))))))))
def sem__law_pick : Sem1 := semD 5 m__law_pick
def m__law_any : MS := mRet (mBin fIx (mNm 1) (mCall sem__law_pick (mCons (mNm 0) (mCons (mB fLen (mCons (mNm 1) (mNil))) (mNil)))))
def sem__law_any : Sem1 := semD 2 m__law_any
def m__law_deeds : MS := mSeq (mSet 3 (mLst (mNil))) (mSeq (mFor (mRng (mCons (mBin fAdd (mCall sem__law_pick (mCons (mNm 0) (mCons (mC (.int 5)) (mNil)))) (mIf (mTru (mNm 2)) (mC (.int 1)) (mC (.int 0)))) (mNil))) (pNm 4) (mSeq (mPar [5, 6] (mKc (mBin fMul3 (mLst (mCons (mC (.int 0)) (mNil))) (mNm 1)) (mKc (mBin fMul3 (mLst (mCons (mC (.int 0)) (mNil))) (mNm 1)) (mKn)))) (mSeq (mFor (mRng (mCons (mBin fAdd (mCall sem__law_pick (mCons (mNm 0) (mCons (mC (.int 3)) (mNil)))) (mIf (mTru (mNm 2)) (mC (.int 1)) (mC (.int 0)))) (mNil))) (pNm 7) (mIfS (mBin fGt (mNm 1) (mC (.int 0))) (mAugS 5 (fun i j => i + j) (mCall sem__law_pick (mCons (mNm 0) (mCons (mNm 1) (mNil)))) (mC (.int 1))) (mNext))) (mSeq (mFor (mRng (mCons (mIf (mTru (mNm 2)) (mCall sem__law_pick (mCons (mNm 0) (mCons (mBin fAdd (mB fSum1 (mCons (mNm 5) (mNil))) (mC (.int 1))) (mNil)))) (mCall sem__law_pick (mCons (mNm 0) (mCons (mC (.int 4)) (mNil))))) (mNil))) (pNm 7) (mIfS (mBin fGt (mNm 1) (mC (.int 0))) (mAugS 6 (fun i j => i + j) (mCall sem__law_pick (mCons (mNm 0) (mCons (mNm 1) (mNil)))) (mC (.int 1))) (mNext))) (mSeq (mIfS (mAnd (mTru (mNm 2)) (mAnd (mBin fEq3 (mCall sem__law_pick (mCons (mNm 0) (mCons (mC (.int 2)) (mNil)))) (mC (.int 0))) (mBin fGt (mNm 1) (mC (.int 0))))) (mAugS 6 (fun i j => i + j) (mCall sem__law_pick (mCons (mNm 0) (mCons (mNm 1) (mNil)))) (mBin fSub (mB fSum1 (mCons (mNm 5) (mNil))) (mB fSum1 (mCons (mNm 6) (mNil))))) (mNext)) (mMut 3 uApp (mTup (mCons (mB fTuple (mCons (mNm 5) (mNil))) (mCons (mB fTuple (mCons (mNm 6) (mNil))) (mNil)))))))))) (mRet (mB fTuple (mCons (mNm 3) (mNil)))))
def sem__law_deeds : Sem1 := semD 8 m__law_deeds
def m__law_mark : MS := mSeq (mSet 3 (mBin fMul3 (mLst (mCons (mC (.int 0)) (mNil))) (mNm 1))) (mSeq (mFor (mRng (mCons (mCall sem__law_pick (mCons (mNm 0) (mCons (mBin fAdd (mNm 2) (mC (.int 1))) (mNil)))) (mNil))) (pNm 4) (mIfS (mBin fGt (mNm 1) (mC (.int 0))) (mAugS 3 (fun i j => i + j) (mCall sem__law_pick (mCons (mNm 0) (mCons (mNm 1) (mNil)))) (mC (.int 1))) (mNext))) (mRet (mB fTuple (mCons (mNm 3) (mNil)))))
def sem__law_mark : Sem1 := semD 5 m__law_mark
def m__law_ready : MS := mRet (mLc (mArgI fEnum (mCons (mNm 0) (mNil))) (pTup (pCons (pNm 2) (pCons (pNm 3) (pNil)))) (mTru (mB fAll (mCons (mLc (mArgI fZip2 (mCons (mNm 1) (mCons (mBin fIx (mNm 3) (mC (.int 0))) (mNil)))) (pTup (pCons (pNm 4) (pCons (pNm 5) (pNil)))) (mC (.bl true)) (mBin fGe (mNm 4) (mNm 5)) [4, 5]) (mNil)))) (mNm 2) [2, 3])
def sem__law_ready : Sem1 := semD 6 m__law_ready
def m__law_behind : MS := mSeq (mAsgP (mBin fIx (mNm 0) (mNm 2)) (pTup (pCons (pNm 3) (pCons (pNm 4) (pNil))))) (mRet (mB fTuple (mCons (mLc (mArgI fZip3 (mCons (mNm 1) (mCons (mNm 3) (mCons (mNm 4) (mNil))))) (pTup (pCons (pNm 5) (pCons (pNm 6) (pCons (pNm 7) (pNil))))) (mC (.bl true)) (mBin fAdd (mBin fSub (mNm 5) (mNm 6)) (mNm 7)) [5, 6, 7]) (mNil))))
def sem__law_behind : Sem1 := semD 8 m__law_behind
def m__law_no_mark : MS := mSeq (mSet 2 (mLst (mCons (mC .non) (mCons (mBin fMul3 (mTup (mCons (mC (.int 0)) (mNil))) (mBin fAdd (mNm 1) (mC (.int 1)))) (mCons (mBin fMul3 (mLst (mCons (mC (.int 0)) (mNil))) (mNm 1)) (mCons (mC (.int 0)) (mCons (mDct0) (mCons (mC (.str "0")) (mCons (mBin fAdd (mBin fMul3 (mTup (mCons (mBin fAdd (mBin fPow (mC (.int 10)) (mC (.int 6))) (mC (.int 1))) (mNil))) (mNm 1)) (mTup (mCons (mC (.int 0)) (mNil)))) (mCons (mBin fMul3 (mTup (mCons (mC .non) (mNil))) (mBin fAdd (mNm 1) (mC (.int 1)))) (mNil))))))))))) (mSeq (mFrz 2) (mSeq (mIfS (mBin fGt (mNm 1) (mC (.int 0))) (mSeq (mSet 2 (mBin fAdd (mNm 2) (mLst (mCons (mBin fMul3 (mTup (mCons (mNeg (mC (.int 1))) (mNil))) (mNm 1)) (mCons (mBin fMul3 (mTup (mCons (mC (.bl true)) (mNil))) (mNm 1)) (mCons (mBin fMul3 (mTup (mCons (mC (.str "0")) (mNil))) (mNm 1)) (mCons (mBin fMul3 (mTup (mCons (mBin fAdd (mBin fPow (mC (.int 10)) (mC (.int 6))) (mC (.int 1))) (mNil))) (mNm 1)) (mCons (mBin fMul3 (mTup (mCons (mC (.int 0)) (mNil))) (mBin fSub (mNm 1) (mC (.int 1)))) (mNil))))))))) (mSeq (mFrz 2) (mNext))) (mNext)) (mRet (mCall sem__law_any (mCons (mNm 0) (mCons (mNm 2) (mNil)))))))
def sem__law_no_mark : Sem1 := semD 3 m__law_no_mark
noncomputable def m__law_word (TT : Hp → V → Prop) (th : Tp → Ot) : MS := mSeq (mSet 1 (mC (.str "let"))) (mSeq (mTryAs 2 exm_NetError (mExpr (mThk TT th)) (fun a d c => mSeq (mSet 3 (mLst (mCons (mIsE a d c kt_BadNet (mNm 2)) (mCons (mIsE a d c kt_NoDeed (mNm 2)) (mCons (mIsE a d c kt_NoMark (mNm 2)) (mCons (mIsE a d c kt_NotReady (mNm 2)) (mNil))))))) (mSeq (mMut 3 uApp (mIsE a d c kt_TooGreat (mNm 2))) (mSeq (mSet 4 (mLst (mCons (mC (.str "net")) (mCons (mC (.str "deed")) (mCons (mC (.str "mark")) (mCons (mC (.str "ready")) (mCons (mC (.str "great")) (mNil)))))))) (mSeq (mFrz 4) (mSeq (mSet 1 (mIf (mAnd (mBin fEq3 (mMth fCnt (mNm 3) (mCons (mC (.bl true)) (mNil))) (mC (.int 1))) (mTru (mIsE a d c kt_ValueError (mNm 2)))) (mBin fIx (mNm 4) (mMth fIndex (mNm 3) (mCons (mC (.bl true)) (mNil)))) (mC (.str "other")))) (mSeq (mIfS (mBin fEq3 (mNm 1) (mC (.str "ready"))) (mSet 1 (mTup (mCons (mC (.str "ready")) (mCons (mXf a d c fx_at (mNm 2)) (mNil))))) (mNext)) (mIfS (mBin fEq3 (mNm 1) (mC (.str "net"))) (mSet 1 (mTup (mCons (mC (.str "net")) (mCons (mXf a d c fx_part (mNm 2)) (mNil))))) (mNext))))))))) (mRet (mNm 1)))
noncomputable def sem__law_word : (Tp → Ot) → Tp → Ot := semT 5 m__law_word
def m__law_is_mark_of : MS := mSeq (mIfS (mOr (mNot (mTru (mIsi (isiT nC .tup) (mNm 1)))) (mBin fNe3 (mB fLen (mCons (mNm 1) (mNil))) (mNm 0))) (mRet (mC (.bl false))) (mNext)) (mRet (mB fAll (mCons (mLc (mSeqI (mNm 1)) (pNm 2) (mC (.bl true)) (mAnd (mIsi (isiT nC .int) (mNm 2)) (mAnd (mNot (mIsi (isiT nC .bl) (mNm 2))) (mChain fLe fLe (mC (.int 0)) (mNm 2) (mBin fPow (mC (.int 10)) (mC (.int 6)))))) [2]) (mNil))))
def sem__law_is_mark_of : Sem1 := semD 3 m__law_is_mark_of
def m__law_is_row_of : MS := mSeq (mIfS (mOr (mNot (mTru (mIsi (isiT nC .tup) (mNm 1)))) (mBin fGt (mB fLen (mCons (mNm 1) (mNil))) (mC (.int 200)))) (mRet (mC (.bl false))) (mNext)) (mRet (mB fAll (mCons (mLc (mSeqI (mNm 1)) (pNm 2) (mC (.bl true)) (mAnd (mIsi (isiT nC .int) (mNm 2)) (mAnd (mNot (mIsi (isiT nC .bl) (mNm 2))) (mChain fLe fLt (mC (.int 0)) (mNm 2) (mNm 0)))) [2]) (mNil))))
def sem__law_is_row_of : Sem1 := semD 3 m__law_is_row_of
def m__law_is_judged : MS := mSeq (mSet 5 (mLst (mCons (mNm 4) (mCons (mBin fAdd (mNm 4) (mTup (mCons (mC (.int 0)) (mNil)))) (mCons (mSl (mNm 4) (mInt (mC (.int 1))) (mC .non)) (mCons (mB fList (mCons (mNm 4) (mNil))) (mCons (mC .non) (mCons (mTup (mNil)) (mCons (mC (.int 0)) (mCons (mDct0) (mCons (mC (.str "mark")) (mCons (mBin fMul3 (mTup (mCons (mBin fPow (mC (.int 10)) (mC (.int 6))) (mNil))) (mNm 2)) (mNil))))))))))))) (mSeq (mFrz 5) (mSeq (mSet 5 (mBin fAdd (mNm 5) (mLst (mCons (mBin fMul3 (mTup (mCons (mBin fAdd (mBin fPow (mC (.int 10)) (mC (.int 6))) (mC (.int 1))) (mNil))) (mNm 2)) (mCons (mBin fMul3 (mTup (mCons (mNeg (mC (.int 1))) (mNil))) (mNm 2)) (mNil)))))) (mSeq (mFrz 5) (mSeq (mSet 5 (mBin fAdd (mNm 5) (mLst (mCons (mBin fMul3 (mTup (mCons (mC (.bl true)) (mNil))) (mNm 2)) (mCons (mBin fMul3 (mTup (mCons (mC (.int 0)) (mNil))) (mB fLen (mCons (mNm 3) (mNil)))) (mCons (mTup (mCons (mB fLen (mCons (mNm 3) (mNil))) (mNil))) (mCons (mBin fMul3 (mTup (mCons (mC (.int 0)) (mNil))) (mC (.int 200))) (mCons (mBin fMul3 (mTup (mCons (mC (.int 0)) (mNil))) (mC (.int 201))) (mCons (mLst (mCons (mC (.int 0)) (mNil))) (mNil)))))))))) (mSeq (mFrz 5) (mSeq (mSet 5 (mBin fAdd (mNm 5) (mLst (mCons (mTup (mCons (mC (.int 0)) (mCons (mC .non) (mNil)))) (mCons (mTup (mCons (mC (.str "0")) (mNil))) (mNil)))))) (mSeq (mFrz 5) (mSeq (mFor (mRng (mCons (mC (.int 6)) (mNil))) (pNm 6) (mSeq (mSet 7 (mCall sem__law_any (mCons (mNm 0) (mCons (mNm 5) (mNil))))) (mSeq (mFrz 7) (mSeq (mIfS (mBin fNe3 (mB fRepr (mCons (mCall sem_is_mark (mCons (mNm 1) (mCons (mNm 7) (mNil)))) (mNil))) (mB fRepr (mCons (mCall sem__law_is_mark_of (mCons (mNm 2) (mCons (mNm 7) (mNil)))) (mNil)))) (mRet (mC (.bl false))) (mNext)) (mIfS (mBin fNe3 (mB fRepr (mCons (mCall sem_is_row (mCons (mNm 1) (mCons (mNm 7) (mNil)))) (mNil))) (mB fRepr (mCons (mCall sem__law_is_row_of (mCons (mB fLen (mCons (mNm 3) (mNil))) (mCons (mNm 7) (mNil)))) (mNil)))) (mRet (mC (.bl false))) (mNext)))))) (mRet (mC (.bl true)))))))))))
def sem__law_is_judged : Sem1 := semD 8 m__law_is_judged
noncomputable def m__law_word_of : MS := mRet (mLamC sem__law_word (mCall sem_done (mCons (mNm 0) (mCons (mNm 1) (mCons (mNm 2) (mNil))))))
noncomputable def sem__law_word_of : Sem1 := semD 3 m__law_word_of
def m_new_Net : MS := mSeq (mIfS (mNot (mTru (mCall sem_is_within (mCons (mNm 1) (mCons (mC (.int 0)) (mCons (mC (.int 12)) (mNil))))))) (mRaise1 2 (mC (.str "places"))) (mNext)) (mSeq (mIfS (mNot (mTru (mCall sem_is_tuple (mCons (mNm 2) (mCons (mC (.int 0)) (mCons (mC (.int 16)) (mNil))))))) (mRaise1 2 (mC (.str "deeds"))) (mNext)) (mSeq (mFor (mArgI fEnum (mCons (mNm 2) (mNil))) (pTup (pCons (pNm 3) (pCons (pNm 4) (pNil)))) (mIfS (mOr (mNot (mTru (mCall sem_is_tuple (mCons (mNm 4) (mCons (mC (.int 2)) (mCons (mC (.int 2)) (mNil))))))) (mNot (mTru (mB fAll (mCons (mLc (mSeqI (mNm 4)) (pNm 5) (mC (.bl true)) (mCall sem_is_counts (mCons (mNm 1) (mCons (mNm 5) (mNil)))) [5]) (mNil)))))) (mRaise1 2 (mNm 3)) (mNext))) (mSeq (mFldS nC fn_places (mNm 1)) (mSeq (mFldS nC fn_deeds (mNm 2)) (mNext)))))
def sem_new_Net : Sem1 := semI 0 6 m_new_Net
noncomputable def m__law_is_bad : MS := mSeq (mSet 3 (mCall sem__law_any (mCons (mNm 0) (mCons (mLst (mCons (mNeg (mC (.int 1))) (mCons (mC (.int 13)) (mCons (mC .non) (mCons (mC (.bl true)) (mCons (mC (.str "1")) (mCons (mTup (mCons (mC (.int 1)) (mNil))) (mCons (mLst (mCons (mC (.int 1)) (mNil))) (mCons (mDct0) (mNil)))))))))) (mNil))))) (mSeq (mFrz 3) (mSeq (mIfS (mBin fNe3 (mLamC sem__law_word (mNew sem_new_Net (mCons (mNm 3) (mCons (mC .non) (mNil))))) (mTup (mCons (mC (.str "net")) (mCons (mC (.str "places")) (mNil))))) (mRet (mC (.bl false))) (mNext)) (mSeq (mSet 4 (mCall sem__law_any (mCons (mNm 0) (mCons (mLst (mCons (mC .non) (mCons (mC (.int 0)) (mCons (mB fList (mCons (mNm 2) (mNil))) (mCons (mDct0) (mCons (mC (.str "deeds")) (mCons (mBin fMul3 (mTup (mCons (mTup (mCons (mBin fMul3 (mTup (mCons (mC (.int 0)) (mNil))) (mNm 1)) (mCons (mBin fMul3 (mTup (mCons (mC (.int 0)) (mNil))) (mNm 1)) (mNil)))) (mNil))) (mC (.int 17))) (mNil)))))))) (mNil))))) (mSeq (mFrz 4) (mSeq (mIfS (mBin fNe3 (mLamC sem__law_word (mNew sem_new_Net (mCons (mNm 1) (mCons (mNm 4) (mNil))))) (mTup (mCons (mC (.str "net")) (mCons (mC (.str "deeds")) (mNil))))) (mRet (mC (.bl false))) (mNext)) (mSeq (mSet 5 (mLst (mCons (mC .non) (mCons (mTup (mNil)) (mCons (mTup (mCons (mBin fMul3 (mTup (mCons (mC (.int 0)) (mNil))) (mNm 1)) (mNil))) (mCons (mLst (mCons (mBin fMul3 (mTup (mCons (mC (.int 0)) (mNil))) (mNm 1)) (mCons (mBin fMul3 (mTup (mCons (mC (.int 0)) (mNil))) (mNm 1)) (mNil)))) (mCons (mTup (mCons (mBin fMul3 (mTup (mCons (mC (.int 0)) (mNil))) (mNm 1)) (mCons (mBin fMul3 (mLst (mCons (mC (.int 0)) (mNil))) (mNm 1)) (mNil)))) (mNil)))))))) (mSeq (mSet 5 (mBin fAdd (mNm 5) (mLst (mCons (mTup (mCons (mBin fMul3 (mTup (mCons (mC (.int 0)) (mNil))) (mNm 1)) (mCons (mBin fMul3 (mTup (mCons (mC (.int 0)) (mNil))) (mBin fAdd (mNm 1) (mC (.int 1)))) (mNil)))) (mCons (mC (.int 0)) (mNil)))))) (mSeq (mIfS (mBin fGt (mNm 1) (mC (.int 0))) (mSeq (mSet 5 (mBin fAdd (mNm 5) (mLst (mCons (mTup (mCons (mBin fMul3 (mTup (mCons (mC (.int 10)) (mNil))) (mNm 1)) (mCons (mBin fMul3 (mTup (mCons (mC (.int 0)) (mNil))) (mNm 1)) (mNil)))) (mCons (mTup (mCons (mBin fMul3 (mTup (mCons (mC (.int 0)) (mNil))) (mNm 1)) (mCons (mBin fMul3 (mTup (mCons (mNeg (mC (.int 1))) (mNil))) (mNm 1)) (mNil)))) (mCons (mTup (mCons (mBin fMul3 (mTup (mCons (mC (.bl true)) (mNil))) (mNm 1)) (mCons (mBin fMul3 (mTup (mCons (mC (.int 0)) (mNil))) (mNm 1)) (mNil)))) (mNil))))))) (mMut 5 uApp (mTup (mCons (mBin fMul3 (mTup (mCons (mC (.int 0)) (mNil))) (mNm 1)) (mCons (mBin fMul3 (mTup (mCons (mC (.str "0")) (mNil))) (mNm 1)) (mNil)))))) (mNext)) (mSeq (mPar [6, 7] (mKc (mCall sem__law_pick (mCons (mNm 0) (mCons (mBin fAdd (mB fLen (mCons (mNm 2) (mNil))) (mC (.int 1))) (mNil)))) (mKc (mCall sem__law_any (mCons (mNm 0) (mCons (mNm 5) (mNil)))) (mKn)))) (mSeq (mFrz 7) (mSeq (mFrz 6) (mSeq (mSet 8 (mBin fAdd (mBin fAdd (mSl (mNm 2) (mC .non) (mInt (mNm 6))) (mTup (mCons (mNm 7) (mNil)))) (mSl (mNm 2) (mInt (mNm 6)) (mC .non)))) (mSeq (mFrz 8) (mRet (mBin fEq3 (mLamC sem__law_word (mNew sem_new_Net (mCons (mNm 1) (mCons (mBin fAdd (mNm 8) (mTup (mCons (mC .non) (mNil)))) (mNil))))) (mTup (mCons (mC (.str "net")) (mCons (mNm 6) (mNil)))))))))))))))))))
noncomputable def sem__law_is_bad : Sem1 := semD 9 m__law_is_bad
noncomputable def m__law_is_right : MS := mSeq (mPar [3, 4] (mKc (mNew sem_new_Net (mCons (mNm 1) (mCons (mNm 2) (mNil)))) (mKc (mCall sem__law_mark (mCons (mNm 0) (mCons (mNm 1) (mCons (mC (.int 6)) (mNil))))) (mKn)))) (mSeq (mFrz 4) (mSeq (mFrz 3) (mSeq (mIfS (mOr (mBin fNe3 (mB fRepr (mCons (mLst (mCons (mFld fi_places (mNm 3)) (mCons (mFld fi_deeds (mNm 3)) (mNil)))) (mNil))) (mB fRepr (mCons (mLst (mCons (mNm 1) (mCons (mNm 2) (mNil)))) (mNil)))) (mEqO 0 sem_eq_Net true (mNm 3) (mNew sem_new_Net (mCons (mNm 1) (mCons (mNm 2) (mNil)))))) (mRet (mC (.bl false))) (mNext)) (mSeq (mIfS (mOr (mEqO 0 sem_eq_Net false (mNm 3) (mNew sem_new_Net (mCons (mNm 1) (mCons (mBin fAdd (mNm 2) (mTup (mCons (mTup (mCons (mBin fMul3 (mTup (mCons (mC (.int 0)) (mNil))) (mNm 1)) (mCons (mBin fMul3 (mTup (mCons (mC (.int 0)) (mNil))) (mNm 1)) (mNil)))) (mNil)))) (mNil))))) (mEqO 0 sem_eq_Net false (mNm 3) (mNew sem_new_Net (mCons (mBin fAdd (mNm 1) (mC (.int 1))) (mCons (mTup (mNil)) (mNil)))))) (mRet (mC (.bl false))) (mNext)) (mSeq (mIfS (mEqT 0 sem_eq_Net (mNm 3) (mTup (mCons (mNm 1) (mCons (mNm 2) (mNil))))) (mRet (mC (.bl false))) (mNext)) (mSeq (mSet 5 (mCall sem__law_ready (mCons (mNm 2) (mCons (mNm 4) (mNil))))) (mSeq (mFrz 5) (mSeq (mIfS (mBin fNe3 (mB fRepr (mCons (mCall sem_ready (mCons (mNm 3) (mCons (mNm 4) (mNil)))) (mNil))) (mB fRepr (mCons (mNm 5) (mNil)))) (mRet (mC (.bl false))) (mNext)) (mSeq (mFor (mRng (mCons (mB fLen (mCons (mNm 2) (mNil))) (mNil))) (pNm 6) (mIfS (mBin (fIn3 false) (mNm 6) (mNm 5)) (mIfS (mBin fNe3 (mB fRepr (mCons (mCall sem_done (mCons (mNm 3) (mCons (mNm 4) (mCons (mNm 6) (mNil))))) (mNil))) (mB fRepr (mCons (mCall sem__law_behind (mCons (mNm 2) (mCons (mNm 4) (mCons (mNm 6) (mNil))))) (mNil)))) (mRet (mC (.bl false))) (mNext)) (mIfS (mBin fNe3 (mLamC sem__law_word (mCall sem_done (mCons (mNm 3) (mCons (mNm 4) (mCons (mNm 6) (mNil)))))) (mTup (mCons (mC (.str "ready")) (mCons (mNm 6) (mNil))))) (mRet (mC (.bl false))) (mNext)))) (mSeq (mPar [7, 8] (mKc (mCall sem__law_no_mark (mCons (mNm 0) (mCons (mNm 1) (mNil)))) (mKc (mCall sem__law_any (mCons (mNm 0) (mCons (mLst (mCons (mB fLen (mCons (mNm 2) (mNil))) (mCons (mNeg (mC (.int 1))) (mCons (mC .non) (mCons (mC (.bl true)) (mCons (mC (.str "0")) (mCons (mTup (mCons (mC (.int 0)) (mNil))) (mCons (mDct0) (mNil))))))))) (mNil)))) (mKn)))) (mSeq (mFrz 8) (mSeq (mFrz 7) (mSeq (mSet 9 (mLst (mCons (mLamC sem__law_word (mCall sem_ready (mCons (mNm 3) (mCons (mNm 7) (mNil))))) (mCons (mCall sem__law_word_of (mCons (mNm 3) (mCons (mNm 7) (mCons (mNm 8) (mNil))))) (mCons (mCall sem__law_word_of (mCons (mNm 3) (mCons (mNm 4) (mCons (mNm 8) (mNil))))) (mNil)))))) (mSeq (mFrz 9) (mRet (mAnd (mBin fEq3 (mNm 9) (mLst (mCons (mC (.str "mark")) (mCons (mC (.str "mark")) (mCons (mC (.str "deed")) (mNil)))))) (mCall sem__law_is_judged (mCons (mNm 0) (mCons (mNm 3) (mCons (mNm 1) (mCons (mNm 2) (mCons (mNm 4) (mNil)))))))))))))))))))))))
noncomputable def sem__law_is_right : Sem1 := semD 10 m__law_is_right
noncomputable def m_law_0 : MS := mSet 2 (mNew sem_new_Net (mCons (mC (.int 2)) (mCons (mTup (mCons (mTup (mCons (mTup (mCons (mC (.int 1)) (mCons (mC (.int 0)) (mNil)))) (mCons (mTup (mCons (mC (.int 0)) (mCons (mC (.int 2)) (mNil)))) (mNil)))) (mCons (mTup (mCons (mTup (mCons (mC (.int 0)) (mCons (mC (.int 0)) (mNil)))) (mCons (mTup (mCons (mC (.int 1)) (mCons (mC (.int 0)) (mNil)))) (mNil)))) (mNil)))) (mNil))))
noncomputable def m_law_1 : MS := mIfS (mOr (mBin fNe3 (mCall sem_ready (mCons (mNm 2) (mCons (mTup (mCons (mC (.int 0)) (mCons (mC (.int 0)) (mNil)))) (mNil)))) (mLst (mCons (mC (.int 1)) (mNil)))) (mOr (mBin fNe3 (mCall sem_done (mCons (mNm 2) (mCons (mTup (mCons (mC (.int 1)) (mCons (mC (.int 1)) (mNil)))) (mCons (mC (.int 0)) (mNil))))) (mTup (mCons (mC (.int 0)) (mCons (mC (.int 3)) (mNil))))) (mBin fNe3 (mCall sem__law_word_of (mCons (mNm 2) (mCons (mTup (mCons (mBin fPow (mC (.int 10)) (mC (.int 6))) (mCons (mC (.int 0)) (mNil)))) (mCons (mC (.int 1)) (mNil))))) (mC (.str "great"))))) (mRet (mC (.bl false))) (mNext)
noncomputable def m_law_2 : MS := mSet 4 (mCall sem__law_pick (mCons (mNm 1) (mCons (mC (.int 5)) (mNil))))
noncomputable def m_law_3 : MS := mSet 5 (mCall sem__law_deeds (mCons (mNm 1) (mCons (mNm 4) (mCons (mC (.bl false)) (mNil)))))
noncomputable def m_law_4 : MS := mIfS (mOr (mNot (mTru (mCall sem__law_is_right (mCons (mNm 1) (mCons (mNm 4) (mCons (mNm 5) (mNil))))))) (mNot (mTru (mCall sem__law_is_bad (mCons (mNm 1) (mCons (mNm 4) (mCons (mNm 5) (mNil)))))))) (mRet (mC (.bl false))) (mNext)
noncomputable def m_law_5 : MS := mRet (mC (.bl true))
def m0_law : MS := mSet 1 (mCall sem__law_tape (mCons (mNm 0) (mNil)))
noncomputable def m_law : MS := mSeq (m_law_0) (mSeq (mFrz 2) (mSeq (m_law_1) (mSeq (mFor (mRng (mCons (mC (.int 4)) (mNil))) (pNm 3) (mSeq (m_law_2) (mSeq (mFrz 4) (mSeq (m_law_3) (mSeq (mFrz 5) (m_law_4)))))) (m_law_5))))
end K01

namespace K01
open PySem L2 PV
def top (i : Nat) : Stmt := PySem.Challenge.pw_tokennets_k01_whole_nets_marks_and_deeds.main.body.getD i (.Pass ⟨0, 0, 0, 0⟩)
def meth (i j : Nat) : Stmt := match top i with
  | .ClassDef _ _ _ b _ _ _ _ _ _ _ => b.getD j (.Pass ⟨0, 0, 0, 0⟩)
  | s => s
def forB : Stmt → List Stmt
  | .For _ _ b _ _ => b
  | _ => []
def nth (l : List Stmt) (i : Nat) : Stmt := l.getD i (.Pass ⟨0, 0, 0, 0⟩)
structure Tx (G : Gx) : Prop where
  isi : IsiF G nC
  cf : ∀ c, c < nC → G.cf c = cfT c
  hs_places : ∀ c j, (fn_places c j).isSome = true → c < nC → (G.cf c)[j]? = some "places" ∧ j < 1000
  hs_deeds : ∀ c j, (fn_deeds c j).isSome = true → c < nC → (G.cf c)[j]? = some "deeds" ∧ j < 1000
  h_places : ∀ c i, fi_places c = some i → c < nC ∧ (G.cf c)[i]? = some "places"
  h_deeds : ∀ c i, fi_deeds c = some i → c < nC ∧ (G.cf c)[i]? = some "deeds"
  i_Net : ∃ f fd, FunD G.K "__init__" "Net.__init__" (defArgs (meth 16 0)) (defBody (meth 16 0)) (defScope (meth 16 0)) [] [] f fd ∧ Mk G.K (G.ca 0) f
  e_Net : ∃ f fd, FunD G.K "__eq__" "Net.__eq__" (defArgs (meth 16 1)) (defBody (meth 16 1)) (defScope (meth 16 1)) [] [] f fd ∧ EqF G 0 f
  f_is_integer : HasD G "is_integer" (top 1)
  f_is_within : HasD G "is_within" (top 2)
  f_is_tuple : HasD G "is_tuple" (top 3)
  f_is_counts : HasD G "is_counts" (top 17)
  f_is_mark : HasD G "is_mark" (top 18)
  f_check_mark : HasD G "check_mark" (top 19)
  f_check_deed : HasD G "check_deed" (top 20)
  f_is_row : HasD G "is_row" (top 21)
  f_can_do : HasD G "can_do" (top 22)
  f_behind : HasD G "behind" (top 23)
  f_ready_of : HasD G "ready_of" (top 24)
  f_ready : HasD G "ready" (top 25)
  f_done : HasD G "done" (top 26)
  f__law_tape : HasD G "_law_tape" (top 28)
  f__law_pick : HasD G "_law_pick" (top 29)
  f__law_any : HasD G "_law_any" (top 30)
  f__law_deeds : HasD G "_law_deeds" (top 31)
  f__law_mark : HasD G "_law_mark" (top 32)
  f__law_ready : HasD G "_law_ready" (top 33)
  f__law_behind : HasD G "_law_behind" (top 34)
  f__law_no_mark : HasD G "_law_no_mark" (top 35)
  f__law_word : HasD G "_law_word" (top 36)
  f__law_is_mark_of : HasD G "_law_is_mark_of" (top 37)
  f__law_is_row_of : HasD G "_law_is_row_of" (top 38)
  f__law_is_judged : HasD G "_law_is_judged" (top 40)
  f__law_word_of : HasD G "_law_word_of" (top 42)
  f__law_is_bad : HasD G "_law_is_bad" (top 39)
  f__law_is_right : HasD G "_law_is_right" (top 41)
  f_law : HasD G "law" (top 43)
  l__law_is_bad : ∃ cc P, HasDL G "_law_is_bad" (top 39) cc ∧ TabN G "_law_is_bad" cc P
  l__law_is_right : ∃ cc P, HasDL G "_law_is_right" (top 41) cc ∧ TabN G "_law_is_right" cc P
  l__law_word_of : ∃ cc P, HasDL G "_law_word_of" (top 42) cc ∧ TabN G "_law_word_of" cc P
  b_ValueError : G.mg "ValueError" = none
  b_abs : G.mg "abs" = none
  b_all : G.mg "all" = none
  b_bool : G.mg "bool" = none
  b_enumerate : G.mg "enumerate" = none
  b_int : G.mg "int" = none
  b_isinstance : G.mg "isinstance" = none
  b_len : G.mg "len" = none
  b_list : G.mg "list" = none
  b_max : G.mg "max" = none
  b_range : G.mg "range" = none
  b_repr : G.mg "repr" = none
  b_sum : G.mg "sum" = none
  b_tuple : G.mg "tuple" = none
  b_zip : G.mg "zip" = none
  g_BadNet : G.mg "BadNet" = some (.ref (G.ca 2))
  c_MOST_DEEDS : ∃ t, G.mg "MOST_DEEDS" = some (.int 16 t)
  c_MOST_PLACES : ∃ t, G.mg "MOST_PLACES" = some (.int 12 t)
  c_MOST_TAKEN : ∃ t, G.mg "MOST_TAKEN" = some (.int 9 t)
  c_MOST_TOKENS : ∃ t, G.mg "MOST_TOKENS" = some (.int 1000000 t)
  g_Net : G.mg "Net" = some (.ref (G.ca 0))
  g_NetError : G.mg "NetError" = some (.ref (G.ca 1))
  g_NoDeed : G.mg "NoDeed" = some (.ref (G.ca 4))
  g_NoMark : G.mg "NoMark" = some (.ref (G.ca 5))
  g_NotReady : G.mg "NotReady" = some (.ref (G.ca 3))
  g_TooGreat : G.mg "TooGreat" = some (.ref (G.ca 6))
  xk : ∀ c b, exm_NetError c = some b → ExK G.K (G.ca c)
  x_NetError : ∀ c b, exm_NetError c = some b → PySem.W.exmOne G.K (.ref (G.ca c)) (.ref (G.ca 1)) = some b
  k_BadNet : ∀ c b, kt_BadNet c = some b → PySem.W.kitOne G.K (.ref (G.ca c)) (.ref (G.ca 2)) = some b
  k_NoDeed : ∀ c b, kt_NoDeed c = some b → PySem.W.kitOne G.K (.ref (G.ca c)) (.ref (G.ca 4)) = some b
  k_NoMark : ∀ c b, kt_NoMark c = some b → PySem.W.kitOne G.K (.ref (G.ca c)) (.ref (G.ca 5)) = some b
  k_NotReady : ∀ c b, kt_NotReady c = some b → PySem.W.kitOne G.K (.ref (G.ca c)) (.ref (G.ca 3)) = some b
  k_TooGreat : ∀ c b, kt_TooGreat c = some b → PySem.W.kitOne G.K (.ref (G.ca c)) (.ref (G.ca 6)) = some b
  k_ValueError : ∀ c b, kt_ValueError c = some b → PySem.W.kitOne G.K (.ref (G.ca c)) (.type "ValueError") = some b
  sn_Net : PySem.W.subIn G.K (.type "tuple") (.ref (G.ca 0)) = some false
  xf_at : ∀ c i, fx_at c = some i → i = 0 ∧ G.cf c = (["at"] : List Str) ∧ PySem.W.findIn G.K (.ref (G.ca c)) "at" = some none
  xf_part : ∀ c i, fx_part c = some i → i = 0 ∧ G.cf c = (["part"] : List Str) ∧ PySem.W.findIn G.K (.ref (G.ca c)) "part" = some none
  r_BadNet : Xc1 G 2 "BadNet" "part"
  r_NoDeed : Xc0 G 4 "NoDeed"
  r_NoMark : Xc0 G 5 "NoMark"
  r_NotReady : Xc1 G 3 "NotReady" "at"
  r_TooGreat : Xc0 G 6 "TooGreat"
theorem sc_is_integer : FnScope ["thing"] ["thing"] (defScope (top 1)) := C8.fnScope_by (by decide +kernel)
theorem ok_is_integer {G : Gx} (T : Tx G) : FnF G 1 "is_integer" ["thing"] sem_is_integer := by
  refine fnD (N := ["thing"]) (k := 0) (mb := m_is_integer) T.f_is_integer sc_is_integer (fun _ _ _ _ _ _ us hl => match us, hl with | [_], _ => rfl) fun f cdv Ar outer s H E C => ?_
  exact ss_one (s_ret (x_and (x_isiT .int C.eK T.isi (x_nm 0 rfl (by first | exact .inl rfl | exact .inr (.inl rfl) | exact .inr (.inr rfl))) rfl T.b_isinstance rfl T.b_int bt_int) (x_one (x_not (x_isiT .bl C.eK T.isi (x_nm 0 rfl (by first | exact .inl rfl | exact .inr (.inl rfl) | exact .inr (.inr rfl))) rfl T.b_isinstance rfl T.b_bool bt_bool)))))
theorem sc_is_within : FnScope ["thing", "least", "most"] ["thing", "least", "most"] (defScope (top 2)) := C8.fnScope_by (by decide +kernel)
theorem ok_is_within {G : Gx} (T : Tx G) : FnF G 2 "is_within" ["thing", "least", "most"] sem_is_within := by
  refine fnD (N := ["thing", "least", "most"]) (k := 1) (mb := m_is_within) T.f_is_within sc_is_within (fun _ _ _ _ _ _ us hl => match us, hl with | [_, _, _], _ => rfl) fun f cdv Ar outer s H E C => ?_
  exact ss_one (s_ret (x_and (x_call C (ok_is_integer T) (by decide) (noPk_semD _ _) rfl (l_cons (x_nm 0 rfl (by first | exact .inl rfl | exact .inr (.inl rfl) | exact .inr (.inr rfl))) (l_nil))) (x_one (x_chain (v_le) (v_le) (x_nm 1 rfl (by first | exact .inl rfl | exact .inr (.inl rfl) | exact .inr (.inr rfl))) (x_nm 0 rfl (by first | exact .inl rfl | exact .inr (.inl rfl) | exact .inr (.inr rfl))) (x_nm 2 rfl (by first | exact .inl rfl | exact .inr (.inl rfl) | exact .inr (.inr rfl)))))))
theorem sc_is_tuple : FnScope ["thing", "least", "most"] ["thing", "least", "most"] (defScope (top 3)) := C8.fnScope_by (by decide +kernel)
theorem ok_is_tuple {G : Gx} (T : Tx G) : FnF G 1 "is_tuple" ["thing", "least", "most"] sem_is_tuple := by
  refine fnD (N := ["thing", "least", "most"]) (k := 0) (mb := m_is_tuple) T.f_is_tuple sc_is_tuple (fun _ _ _ _ _ _ us hl => match us, hl with | [_, _, _], _ => rfl) fun f cdv Ar outer s H E C => ?_
  exact ss_one (s_ret (x_and (x_isiT .tup C.eK T.isi (x_nm 0 rfl (by first | exact .inl rfl | exact .inr (.inl rfl) | exact .inr (.inr rfl))) rfl T.b_isinstance rfl T.b_tuple bt_tuple) (x_one (x_chain (v_le) (v_le) (x_nm 1 rfl (by first | exact .inl rfl | exact .inr (.inl rfl) | exact .inr (.inr rfl))) (x_b (v_len (C.eK)) rfl T.b_len bt_len (l_cons (x_nm 0 rfl (by first | exact .inl rfl | exact .inr (.inl rfl) | exact .inr (.inr rfl))) (l_nil))) (x_nm 2 rfl (by first | exact .inl rfl | exact .inr (.inl rfl) | exact .inr (.inr rfl)))))))
theorem sc_eq_Net : FnScope ["self", "other"] ["self", "other"] (defScope (meth 16 1)) := C8.fnScope_by (by decide +kernel)
theorem ok_eq_Net {G : Gx} (T : Tx G) : FnE G 1 0 ["self", "other"] sem_eq_Net := by
  obtain ⟨f, fd, F, M⟩ := T.e_Net
  refine fnE (N := ["self", "other"]) (k := 0) (mb := m_eq_Net) F sc_eq_Net rfl M (F.bindsN fun _ _ _ _ _ _ us hl => match us, hl with | [_, _], _ => rfl) fun cdv Ar outer s H E C => ?_
  exact ss_one (s_ret (x_and (x_isiC 0 C.eK T.isi (by decide) (x_nm 1 rfl (by first | exact .inl rfl | exact .inr (.inl rfl) | exact .inr (.inr rfl))) rfl T.b_isinstance rfl T.g_Net) (x_one (x_cmp (v_eq3 (C.eK) C.u64) (x_tup (l_cons (x_fld C.eK T.isi (T.h_places) (x_nm 0 rfl (by first | exact .inl rfl | exact .inr (.inl rfl) | exact .inr (.inr rfl)))) (l_cons (x_fld C.eK T.isi (T.h_deeds) (x_nm 0 rfl (by first | exact .inl rfl | exact .inr (.inl rfl) | exact .inr (.inr rfl)))) (l_nil)))) (x_tup (l_cons (x_fld C.eK T.isi (T.h_places) (x_nm 1 rfl (by first | exact .inl rfl | exact .inr (.inl rfl) | exact .inr (.inr rfl)))) (l_cons (x_fld C.eK T.isi (T.h_deeds) (x_nm 1 rfl (by first | exact .inl rfl | exact .inr (.inl rfl) | exact .inr (.inr rfl)))) (l_nil)))) (nomark _)))))
theorem sc_is_counts : FnScope ["places", "thing", "one"] ["places", "thing"] (defScope (top 17)) := C8.fnScope_by (by decide +kernel)
theorem ok_is_counts {G : Gx} (T : Tx G) : FnF G 3 "is_counts" ["places", "thing"] sem_is_counts := by
  refine fnD (N := ["places", "thing", "one"]) (k := 2) (mb := m_is_counts) T.f_is_counts sc_is_counts (fun _ _ _ _ _ _ us hl => match us, hl with | [_, _], _ => rfl) fun f cdv Ar outer s H E C => ?_
  exact ss_one (s_ret (x_and (x_call C (ok_is_tuple T) (by decide) (noPk_semD _ _) rfl (l_cons (x_nm 1 rfl (by first | exact .inl rfl | exact .inr (.inl rfl) | exact .inr (.inr rfl))) (l_cons (x_nm 0 rfl (by first | exact .inl rfl | exact .inr (.inl rfl) | exact .inr (.inr rfl))) (l_cons (x_nm 0 rfl (by first | exact .inl rfl | exact .inr (.inl rfl) | exact .inr (.inr rfl))) (l_nil))))) (x_one (x_b (v_all (C.eK) rfl) rfl T.b_all bt_all (l_cons (x_lc rfl C.nd (by exact i_seq C.eK (by exact x_nm 1 rfl (by first | exact .inl rfl | exact .inr (.inl rfl) | exact .inr (.inr rfl)))) (blkOk_by (own := [("one", 2)]) (by rfl)) (fun _ _ _ _ _ => q_nm 2 C.blk.nd rfl (by first | exact .inl rfl | exact .inr rfl) (by decide)) (fun _ _ _ _ _ => ts_nil) (fun _ _ _ _ _ => x_call C.blk (ok_is_within T) (by decide) (noPk_semD _ _) rfl (l_cons (x_nm 2 rfl (by first | exact .inl rfl | exact .inr (.inl rfl) | exact .inr (.inr rfl))) (l_cons (x_int) (l_cons (x_gint rfl T.c_MOST_TAKEN) (l_nil)))))) (l_nil))))))
theorem sc_is_mark : FnScope ["net", "thing", "one"] ["net", "thing"] (defScope (top 18)) := C8.fnScope_by (by decide +kernel)
theorem ok_is_mark {G : Gx} (T : Tx G) : FnF G 3 "is_mark" ["net", "thing"] sem_is_mark := by
  refine fnD (N := ["net", "thing", "one"]) (k := 2) (mb := m_is_mark) T.f_is_mark sc_is_mark (fun _ _ _ _ _ _ us hl => match us, hl with | [_, _], _ => rfl) fun f cdv Ar outer s H E C => ?_
  exact ss_one (s_ret (x_and (x_call C (ok_is_tuple T) (by decide) (noPk_semD _ _) rfl (l_cons (x_nm 1 rfl (by first | exact .inl rfl | exact .inr (.inl rfl) | exact .inr (.inr rfl))) (l_cons (x_fld C.eK T.isi (T.h_places) (x_nm 0 rfl (by first | exact .inl rfl | exact .inr (.inl rfl) | exact .inr (.inr rfl)))) (l_cons (x_fld C.eK T.isi (T.h_places) (x_nm 0 rfl (by first | exact .inl rfl | exact .inr (.inl rfl) | exact .inr (.inr rfl)))) (l_nil))))) (x_one (x_b (v_all (C.eK) rfl) rfl T.b_all bt_all (l_cons (x_lc rfl C.nd (by exact i_seq C.eK (by exact x_nm 1 rfl (by first | exact .inl rfl | exact .inr (.inl rfl) | exact .inr (.inr rfl)))) (blkOk_by (own := [("one", 2)]) (by rfl)) (fun _ _ _ _ _ => q_nm 2 C.blk.nd rfl (by first | exact .inl rfl | exact .inr rfl) (by decide)) (fun _ _ _ _ _ => ts_nil) (fun _ _ _ _ _ => x_call C.blk (ok_is_within T) (by decide) (noPk_semD _ _) rfl (l_cons (x_nm 2 rfl (by first | exact .inl rfl | exact .inr (.inl rfl) | exact .inr (.inr rfl))) (l_cons (x_int) (l_cons (x_gint rfl T.c_MOST_TOKENS) (l_nil)))))) (l_nil))))))
theorem sc_check_mark : FnScope ["net", "thing"] ["net", "thing"] (defScope (top 19)) := C8.fnScope_by (by decide +kernel)
theorem ok_check_mark {G : Gx} (T : Tx G) : FnF G 4 "check_mark" ["net", "thing"] sem_check_mark := by
  refine fnD (N := ["net", "thing"]) (k := 3) (mb := m_check_mark) T.f_check_mark sc_check_mark (fun _ _ _ _ _ _ us hl => match us, hl with | [_, _], _ => rfl) fun f cdv Ar outer s H E C => ?_
  exact ss_one (s_if (t_not (t_truth (x_call C (ok_is_mark T) (by decide) (noPk_semD _ _) rfl (l_cons (x_nm 0 rfl (by first | exact .inl rfl | exact .inr (.inl rfl) | exact .inr (.inr rfl))) (l_cons (x_nm 1 rfl (by first | exact .inl rfl | exact .inr (.inl rfl) | exact .inr (.inr rfl))) (l_nil)))) C.eK)) (ss_one (s_raise0 C (by decide) rfl T.r_NoMark rfl)) (ss_nil))
theorem sc_check_deed : FnScope ["net", "thing"] ["net", "thing"] (defScope (top 20)) := C8.fnScope_by (by decide +kernel)
theorem ok_check_deed {G : Gx} (T : Tx G) : FnF G 3 "check_deed" ["net", "thing"] sem_check_deed := by
  refine fnD (N := ["net", "thing"]) (k := 2) (mb := m_check_deed) T.f_check_deed sc_check_deed (fun _ _ _ _ _ _ us hl => match us, hl with | [_, _], _ => rfl) fun f cdv Ar outer s H E C => ?_
  exact ss_one (s_if (t_not (t_truth (x_call C (ok_is_within T) (by decide) (noPk_semD _ _) rfl (l_cons (x_nm 1 rfl (by first | exact .inl rfl | exact .inr (.inl rfl) | exact .inr (.inr rfl))) (l_cons (x_int) (l_cons (x_bin (v_sub) (x_b (v_len (C.eK)) rfl T.b_len bt_len (l_cons (x_fld C.eK T.isi (T.h_deeds) (x_nm 0 rfl (by first | exact .inl rfl | exact .inr (.inl rfl) | exact .inr (.inr rfl)))) (l_nil))) (x_int)) (l_nil))))) C.eK)) (ss_one (s_raise0 C (by decide) rfl T.r_NoDeed rfl)) (ss_nil))
theorem sc_is_row : FnScope ["net", "thing", "one"] ["net", "thing"] (defScope (top 21)) := C8.fnScope_by (by decide +kernel)
theorem ok_is_row {G : Gx} (T : Tx G) : FnF G 3 "is_row" ["net", "thing"] sem_is_row := by
  refine fnD (N := ["net", "thing", "one"]) (k := 2) (mb := m_is_row) T.f_is_row sc_is_row (fun _ _ _ _ _ _ us hl => match us, hl with | [_, _], _ => rfl) fun f cdv Ar outer s H E C => ?_
  exact ss_one (s_ret (x_and (x_call C (ok_is_tuple T) (by decide) (noPk_semD _ _) rfl (l_cons (x_nm 1 rfl (by first | exact .inl rfl | exact .inr (.inl rfl) | exact .inr (.inr rfl))) (l_cons (x_int) (l_cons (x_int) (l_nil))))) (x_one (x_b (v_all (C.eK) rfl) rfl T.b_all bt_all (l_cons (x_lc rfl C.nd (by exact i_seq C.eK (by exact x_nm 1 rfl (by first | exact .inl rfl | exact .inr (.inl rfl) | exact .inr (.inr rfl)))) (blkOk_by (own := [("one", 2)]) (by rfl)) (fun _ _ _ _ _ => q_nm 2 C.blk.nd rfl (by first | exact .inl rfl | exact .inr rfl) (by decide)) (fun _ _ _ _ _ => ts_nil) (fun _ _ _ _ _ => x_call C.blk (ok_is_within T) (by decide) (noPk_semD _ _) rfl (l_cons (x_nm 2 rfl (by first | exact .inl rfl | exact .inr (.inl rfl) | exact .inr (.inr rfl))) (l_cons (x_int) (l_cons (x_bin (v_sub) (x_b (v_len (C.blk.eK)) rfl T.b_len bt_len (l_cons (x_fld C.blk.eK T.isi (T.h_deeds) (x_nm 0 rfl (by first | exact .inl rfl | exact .inr (.inl rfl) | exact .inr (.inr rfl)))) (l_nil))) (x_int)) (l_nil)))))) (l_nil))))))
theorem sc_can_do : FnScope ["net", "mark", "deed", "held", "taken"] ["net", "mark", "deed"] (defScope (top 22)) := C8.fnScope_by (by decide +kernel)
theorem ok_can_do {G : Gx} (T : Tx G) : FnF G 1 "can_do" ["net", "mark", "deed"] sem_can_do := by
  refine fnD (N := ["net", "mark", "deed", "held", "taken"]) (k := 0) (mb := m_can_do) T.f_can_do sc_can_do (fun _ _ _ _ _ _ us hl => match us, hl with | [_, _, _], _ => rfl) fun f cdv Ar outer s H E C => ?_
  exact ss_one (s_ret (x_b (v_all (C.eK) rfl) rfl T.b_all bt_all (l_cons (x_lc rfl C.nd (by exact i_zip2 C.eK rfl T.b_zip (by exact l_cons (x_nm 1 rfl (by first | exact .inl rfl | exact .inr (.inl rfl) | exact .inr (.inr rfl))) (l_cons (x_ix (v_ix C.eK) (x_ix (v_ix C.eK) (x_fld C.eK T.isi (T.h_deeds) (x_nm 0 rfl (by first | exact .inl rfl | exact .inr (.inl rfl) | exact .inr (.inr rfl)))) (x_nm 2 rfl (by first | exact .inl rfl | exact .inr (.inl rfl) | exact .inr (.inr rfl)))) (x_int)) (l_nil)))) (blkOk_by (own := [("held", 3), ("taken", 4)]) (by rfl)) (fun _ _ _ _ _ => q_tup C.blk.eK rfl (q_cons (q_nm 3 C.blk.nd rfl (by first | exact .inl rfl | exact .inr rfl) (by decide)) (q_cons (q_nm 4 C.blk.nd rfl (by first | exact .inl rfl | exact .inr rfl) (by decide)) (q_nil))) (pl_cons (pl_cons pl_nil))) (fun _ _ _ _ _ => ts_nil) (fun _ _ _ _ _ => x_cmp (v_ge) (x_nm 3 rfl (by first | exact .inl rfl | exact .inr (.inl rfl) | exact .inr (.inr rfl))) (x_nm 4 rfl (by first | exact .inl rfl | exact .inr (.inl rfl) | exact .inr (.inr rfl))) (nomark _))) (l_nil))))
theorem sc_behind : FnScope ["net", "mark", "deed", "takes", "puts", "held", "taken", "put"] ["net", "mark", "deed"] (defScope (top 23)) := C8.fnScope_by (by decide +kernel)
theorem ok_behind {G : Gx} (T : Tx G) : FnF G 1 "behind" ["net", "mark", "deed"] sem_behind := by
  refine fnD (N := ["net", "mark", "deed", "takes", "puts", "held", "taken", "put"]) (k := 0) (mb := m_behind) T.f_behind sc_behind (fun _ _ _ _ _ _ us hl => match us, hl with | [_, _, _], _ => rfl) fun f cdv Ar outer s H E C => ?_
  exact ss_cons (s_asgP (x_ix (v_ix C.eK) (x_fld C.eK T.isi (T.h_deeds) (x_nm 0 rfl (by first | exact .inl rfl | exact .inr (.inl rfl) | exact .inr (.inr rfl)))) (x_nm 2 rfl (by first | exact .inl rfl | exact .inr (.inl rfl) | exact .inr (.inr rfl)))) (p_tup C.eK rfl (p_cons (p_nm 3 C.nd rfl (by first | exact .inl rfl | exact .inr rfl)) (p_cons (p_nm 4 C.nd rfl (by first | exact .inl rfl | exact .inr rfl)) (p_nil))) (pl_cons (pl_cons pl_nil)))) (ss_one (s_ret (x_ty (v_tuple (C.eK)) rfl T.b_tuple bt_tuple (l_cons (x_lc rfl C.nd (by exact i_zip3 C.eK rfl T.b_zip (by exact l_cons (x_nm 1 rfl (by first | exact .inl rfl | exact .inr (.inl rfl) | exact .inr (.inr rfl))) (l_cons (x_nm 3 rfl (by first | exact .inl rfl | exact .inr (.inl rfl) | exact .inr (.inr rfl))) (l_cons (x_nm 4 rfl (by first | exact .inl rfl | exact .inr (.inl rfl) | exact .inr (.inr rfl))) (l_nil))))) (blkOk_by (own := [("held", 5), ("taken", 6), ("put", 7)]) (by rfl)) (fun _ _ _ _ _ => q_tup C.blk.eK rfl (q_cons (q_nm 5 C.blk.nd rfl (by first | exact .inl rfl | exact .inr rfl) (by decide)) (q_cons (q_nm 6 C.blk.nd rfl (by first | exact .inl rfl | exact .inr rfl) (by decide)) (q_cons (q_nm 7 C.blk.nd rfl (by first | exact .inl rfl | exact .inr rfl) (by decide)) (q_nil)))) (pl_cons (pl_cons (pl_cons pl_nil)))) (fun _ _ _ _ _ => ts_nil) (fun _ _ _ _ _ => x_bin (v_add (C.blk.eK)) (x_bin (v_sub) (x_nm 5 rfl (by first | exact .inl rfl | exact .inr (.inl rfl) | exact .inr (.inr rfl))) (x_nm 6 rfl (by first | exact .inl rfl | exact .inr (.inl rfl) | exact .inr (.inr rfl)))) (x_nm 7 rfl (by first | exact .inl rfl | exact .inr (.inl rfl) | exact .inr (.inr rfl))))) (l_nil)))))
theorem sc_ready_of : FnScope ["net", "mark", "deed"] ["net", "mark"] (defScope (top 24)) := C8.fnScope_by (by decide +kernel)
theorem ok_ready_of {G : Gx} (T : Tx G) : FnF G 2 "ready_of" ["net", "mark"] sem_ready_of := by
  refine fnD (N := ["net", "mark", "deed"]) (k := 1) (mb := m_ready_of) T.f_ready_of sc_ready_of (fun _ _ _ _ _ _ us hl => match us, hl with | [_, _], _ => rfl) fun f cdv Ar outer s H E C => ?_
  exact ss_one (s_ret (x_lc rfl C.nd (by exact i_range1 rfl T.b_range (by exact l_cons (x_b (v_len (C.eK)) rfl T.b_len bt_len (l_cons (x_fld C.eK T.isi (T.h_deeds) (x_nm 0 rfl (by first | exact .inl rfl | exact .inr (.inl rfl) | exact .inr (.inr rfl)))) (l_nil))) (l_nil))) (blkOk_by (own := [("deed", 2)]) (by rfl)) (fun _ _ _ _ _ => q_nm 2 C.blk.nd rfl (by first | exact .inl rfl | exact .inr rfl) (by decide)) (fun _ _ _ _ _ => ts_one (t_truth (x_call C.blk (ok_can_do T) (by decide) (noPk_semD _ _) rfl (l_cons (x_nm 0 rfl (by first | exact .inl rfl | exact .inr (.inl rfl) | exact .inr (.inr rfl))) (l_cons (x_nm 1 rfl (by first | exact .inl rfl | exact .inr (.inl rfl) | exact .inr (.inr rfl))) (l_cons (x_nm 2 rfl (by first | exact .inl rfl | exact .inr (.inl rfl) | exact .inr (.inr rfl))) (l_nil))))) C.blk.eK) takesBlk) (fun _ _ _ _ _ => x_nm 2 rfl (by first | exact .inl rfl | exact .inr (.inl rfl) | exact .inr (.inr rfl)))))
theorem sc_ready : FnScope ["net", "mark"] ["net", "mark"] (defScope (top 25)) := C8.fnScope_by (by decide +kernel)
theorem ok_ready {G : Gx} (T : Tx G) : FnF G 5 "ready" ["net", "mark"] sem_ready := by
  refine fnD (N := ["net", "mark"]) (k := 4) (mb := m_ready) T.f_ready sc_ready (fun _ _ _ _ _ _ us hl => match us, hl with | [_, _], _ => rfl) fun f cdv Ar outer s H E C => ?_
  exact ss_cons (s_expr (x_call C (ok_check_mark T) (by decide) (noPk_semD _ _) rfl (l_cons (x_nm 0 rfl (by first | exact .inl rfl | exact .inr (.inl rfl) | exact .inr (.inr rfl))) (l_cons (x_nm 1 rfl (by first | exact .inl rfl | exact .inr (.inl rfl) | exact .inr (.inr rfl))) (l_nil))))) (ss_one (s_ret (x_call C (ok_ready_of T) (by decide) (noPk_semD _ _) rfl (l_cons (x_nm 0 rfl (by first | exact .inl rfl | exact .inr (.inl rfl) | exact .inr (.inr rfl))) (l_cons (x_nm 1 rfl (by first | exact .inl rfl | exact .inr (.inl rfl) | exact .inr (.inr rfl))) (l_nil))))))
theorem sc_done : FnScope ["net", "mark", "deed", "found"] ["net", "mark", "deed"] (defScope (top 26)) := C8.fnScope_by (by decide +kernel)
theorem ok_done {G : Gx} (T : Tx G) : FnF G 5 "done" ["net", "mark", "deed"] sem_done := by
  refine fnD (N := ["net", "mark", "deed", "found"]) (k := 4) (mb := m_done) T.f_done sc_done (fun _ _ _ _ _ _ us hl => match us, hl with | [_, _, _], _ => rfl) fun f cdv Ar outer s H E C => ?_
  exact ss_cons (s_expr (x_call C (ok_check_mark T) (by decide) (noPk_semD _ _) rfl (l_cons (x_nm 0 rfl (by first | exact .inl rfl | exact .inr (.inl rfl) | exact .inr (.inr rfl))) (l_cons (x_nm 1 rfl (by first | exact .inl rfl | exact .inr (.inl rfl) | exact .inr (.inr rfl))) (l_nil))))) (ss_cons (s_expr (x_call C (ok_check_deed T) (by decide) (noPk_semD _ _) rfl (l_cons (x_nm 0 rfl (by first | exact .inl rfl | exact .inr (.inl rfl) | exact .inr (.inr rfl))) (l_cons (x_nm 2 rfl (by first | exact .inl rfl | exact .inr (.inl rfl) | exact .inr (.inr rfl))) (l_nil))))) (ss_cons (s_if (t_not (t_truth (x_call C (ok_can_do T) (by decide) (noPk_semD _ _) rfl (l_cons (x_nm 0 rfl (by first | exact .inl rfl | exact .inr (.inl rfl) | exact .inr (.inr rfl))) (l_cons (x_nm 1 rfl (by first | exact .inl rfl | exact .inr (.inl rfl) | exact .inr (.inr rfl))) (l_cons (x_nm 2 rfl (by first | exact .inl rfl | exact .inr (.inl rfl) | exact .inr (.inr rfl))) (l_nil))))) C.eK)) (ss_one (s_raise1 C (by decide) rfl T.r_NotReady (x_nm 2 rfl (by first | exact .inl rfl | exact .inr (.inl rfl) | exact .inr (.inr rfl))) rfl)) (ss_nil)) (ss_cons (s_set 3 C.nd rfl (by first | exact .inl rfl | exact .inr rfl) (x_call C (ok_behind T) (by decide) (noPk_semD _ _) rfl (l_cons (x_nm 0 rfl (by first | exact .inl rfl | exact .inr (.inl rfl) | exact .inr (.inr rfl))) (l_cons (x_nm 1 rfl (by first | exact .inl rfl | exact .inr (.inl rfl) | exact .inr (.inr rfl))) (l_cons (x_nm 2 rfl (by first | exact .inl rfl | exact .inr (.inl rfl) | exact .inr (.inr rfl))) (l_nil)))))) (ss_frz 3 (ss_cons (s_if (t_cmp (v_gt) (x_b (v_max1 C rfl) rfl T.b_max bt_max (l_cons (x_bin (v_add (C.eK)) (x_tup (l_cons (x_int) (l_nil))) (x_nm 3 rfl (by first | exact .inl rfl | exact .inr (.inl rfl) | exact .inr (.inr rfl)))) (l_nil))) (x_gint rfl T.c_MOST_TOKENS) (nomark _)) (ss_one (s_raise0 C (by decide) rfl T.r_TooGreat rfl)) (ss_nil)) (ss_one (s_ret (x_nm 3 rfl (by first | exact .inl rfl | exact .inr (.inl rfl) | exact .inr (.inr rfl))))))))))
theorem sc__law_tape : FnScope ["script", "cells", "cell"] ["script"] (defScope (top 28)) := C8.fnScope_by (by decide +kernel)
theorem ok__law_tape {G : Gx} (T : Tx G) : FnF G 1 "_law_tape" ["script"] sem__law_tape := by
  refine fnD (N := ["script", "cells", "cell"]) (k := 0) (mb := m__law_tape) T.f__law_tape sc__law_tape (fun _ _ _ _ _ _ us hl => match us, hl with | [_], _ => rfl) fun f cdv Ar outer s H E C => ?_
  exact ss_cons (s_setLc 1 rfl C.nd rfl rfl (sw_true rfl rfl rfl rfl) (by exact i_seq C.eK (by exact x_sl C.eK (x_nm 0 rfl (by first | exact .inl rfl | exact .inr (.inl rfl) | exact .inr (.inr rfl))) (o_none) (o_some (x_int)))) (blkOk_by (own := [("cell", 2)]) (by rfl)) (fun _ _ _ _ _ => q_nm 2 C.blk.nd rfl (by first | exact .inl rfl | exact .inr rfl) (by decide)) (fun _ _ _ _ _ => ts_nil) (fun _ _ _ _ _ => x_b (v_abs) rfl T.b_abs bt_abs (l_cons (x_ty (v_int) rfl T.b_int bt_int (l_cons (x_nm 2 rfl (by first | exact .inl rfl | exact .inr (.inl rfl) | exact .inr (.inr rfl))) (l_nil))) (l_nil)))) (ss_frz 1 (ss_one (s_ret (x_lst (l_cons (x_nm 1 rfl (by first | exact .inl rfl | exact .inr (.inl rfl) | exact .inr (.inr rfl))) (l_cons (x_int) (l_cons (x_int) (l_cons (x_bin (v_add (C.eK)) (x_int) (x_b (v_len (C.eK)) rfl T.b_len bt_len (l_cons (x_nm 1 rfl (by first | exact .inl rfl | exact .inr (.inl rfl) | exact .inr (.inr rfl))) (l_nil)))) (l_cons (x_int) (l_nil))))))))))
theorem sc__law_pick : FnScope ["tape", "many", "cell", "digit", "number"] ["tape", "many"] (defScope (top 29)) := C8.fnScope_by (by decide +kernel)
theorem ok__law_pick {G : Gx} (T : Tx G) : FnF G 3 "_law_pick" ["tape", "many"] sem__law_pick := by
  refine fnD (N := ["tape", "many", "cell", "digit", "number"]) (k := 2) (mb := m__law_pick) T.f__law_pick sc__law_pick (fun _ _ _ _ _ _ us hl => match us, hl with | [_, _], _ => rfl) fun f cdv Ar outer s H E C => ?_
  exact ss_cons (s_if (t_w (t_and (t_cmp (v_eq3 (C.eK) C.u64) (x_tap 0 C.eK rfl (by first | exact .inl rfl | exact .inr (.inl rfl) | exact .inr (.inr rfl)) (x_int)) (x_int) (nomark _)) (t_and1 (t_cmp (v_lt) (x_tap 0 C.eK rfl (by first | exact .inl rfl | exact .inr (.inl rfl) | exact .inr (.inr rfl)) (x_int)) (x_b (v_len (C.eK)) rfl T.b_len bt_len (l_cons (x_tap 0 C.eK rfl (by first | exact .inl rfl | exact .inr (.inl rfl) | exact .inr (.inr rfl)) (x_int)) (l_nil))) (nomark _))))) (ss_cons (s_set 2 C.nd rfl (by first | exact .inl rfl | exact .inr rfl) (x_ix (v_ix C.eK) (x_tap 0 C.eK rfl (by first | exact .inl rfl | exact .inr (.inl rfl) | exact .inr (.inr rfl)) (x_int)) (x_tap 0 C.eK rfl (by first | exact .inl rfl | exact .inr (.inl rfl) | exact .inr (.inr rfl)) (x_int)))) (ss_cons (s_tapS 0 rfl (by first | exact .inl rfl | exact .inr (.inl rfl) | exact .inr (.inr rfl)) (x_int) (x_bin (v_add (C.eK)) (x_tap 0 C.eK rfl (by first | exact .inl rfl | exact .inr (.inl rfl) | exact .inr (.inr rfl)) (x_int)) (x_int))) (ss_cons (s_tapS 0 rfl (by first | exact .inl rfl | exact .inr (.inl rfl) | exact .inr (.inr rfl)) (x_int) (x_bin (v_mod) (x_ty (v_int) rfl T.b_int bt_int (l_cons (x_bin (v_add (C.eK)) (x_bin (v_add (C.eK)) (x_bin (v_mul3 (C.eK)) (x_tap 0 C.eK rfl (by first | exact .inl rfl | exact .inr (.inl rfl) | exact .inr (.inr rfl)) (x_int)) (x_int)) (x_nm 2 rfl (by first | exact .inl rfl | exact .inr (.inl rfl) | exact .inr (.inr rfl)))) (x_int)) (l_nil))) (x_int))) (ss_one (s_if (t_cmp (v_ge) (x_nm 2 rfl (by first | exact .inl rfl | exact .inr (.inl rfl) | exact .inr (.inr rfl))) (x_bin (v_pow) (x_int) (x_int)) (nomark _)) (ss_one (s_tapS 0 rfl (by first | exact .inl rfl | exact .inr (.inl rfl) | exact .inr (.inr rfl)) (x_int) (x_nm 2 rfl (by first | exact .inl rfl | exact .inr (.inl rfl) | exact .inr (.inr rfl))))) (ss_nil)))))) (ss_nil)) (ss_cons (s_if (t_cmp (v_gt) (x_tap 0 C.eK rfl (by first | exact .inl rfl | exact .inr (.inl rfl) | exact .inr (.inr rfl)) (x_int)) (x_int) (nomark _)) (ss_cons (s_set 3 C.nd rfl (by first | exact .inl rfl | exact .inr rfl) (x_bin (v_mod) (x_ty (v_int) rfl T.b_int bt_int (l_cons (x_tap 0 C.eK rfl (by first | exact .inl rfl | exact .inr (.inl rfl) | exact .inr (.inr rfl)) (x_int)) (l_nil))) (x_nm 1 rfl (by first | exact .inl rfl | exact .inr (.inl rfl) | exact .inr (.inr rfl))))) (ss_frz 3 (ss_cons (s_tapS 0 rfl (by first | exact .inl rfl | exact .inr (.inl rfl) | exact .inr (.inr rfl)) (x_int) (x_bin (v_fdiv) (x_tap 0 C.eK rfl (by first | exact .inl rfl | exact .inr (.inl rfl) | exact .inr (.inr rfl)) (x_int)) (x_nm 1 rfl (by first | exact .inl rfl | exact .inr (.inl rfl) | exact .inr (.inr rfl))))) (ss_one (s_ret (x_nm 3 rfl (by first | exact .inl rfl | exact .inr (.inl rfl) | exact .inr (.inr rfl)))))))) (ss_nil)) (ss_cons (s_tapS 0 rfl (by first | exact .inl rfl | exact .inr (.inl rfl) | exact .inr (.inr rfl)) (x_int) (x_bin (v_add (C.eK)) (x_tap 0 C.eK rfl (by first | exact .inl rfl | exact .inr (.inl rfl) | exact .inr (.inr rfl)) (x_int)) (x_int))) (ss_cons (s_set 4 C.nd rfl (by first | exact .inl rfl | exact .inr rfl) (x_bin (v_mod) (x_ty (v_int) rfl T.b_int bt_int (l_cons (x_bin (v_mul3 (C.eK)) (x_ty (v_int) rfl T.b_int bt_int (l_cons (x_bin (v_add (C.eK)) (x_tap 0 C.eK rfl (by first | exact .inl rfl | exact .inr (.inl rfl) | exact .inr (.inr rfl)) (x_int)) (x_bin (v_mul3 (C.eK)) (x_int) (x_tap 0 C.eK rfl (by first | exact .inl rfl | exact .inr (.inl rfl) | exact .inr (.inr rfl)) (x_int)))) (l_nil))) (x_int)) (l_nil))) (x_int))) (ss_frz 4 (ss_cons (s_set 4 C.nd rfl (by first | exact .inl rfl | exact .inr rfl) (x_bin (v_mod) (x_ty (v_int) rfl T.b_int bt_int (l_cons (x_bin (v_mul3 (C.eK)) (x_nm 4 rfl (by first | exact .inl rfl | exact .inr (.inl rfl) | exact .inr (.inr rfl))) (x_bin (v_add (C.eK)) (x_bin (v_fdiv) (x_nm 4 rfl (by first | exact .inl rfl | exact .inr (.inl rfl) | exact .inr (.inr rfl))) (x_int)) (x_int))) (l_nil))) (x_int))) (ss_frz 4 (ss_cons (s_set 4 C.nd rfl (by first | exact .inl rfl | exact .inr rfl) (x_bin (v_mod) (x_ty (v_int) rfl T.b_int bt_int (l_cons (x_bin (v_mul3 (C.eK)) (x_nm 4 rfl (by first | exact .inl rfl | exact .inr (.inl rfl) | exact .inr (.inr rfl))) (x_bin (v_add (C.eK)) (x_bin (v_fdiv) (x_nm 4 rfl (by first | exact .inl rfl | exact .inr (.inl rfl) | exact .inr (.inr rfl))) (x_int)) (x_int))) (l_nil))) (x_int))) (ss_frz 4 (ss_one (s_ret (x_bin (v_mod) (x_ty (v_int) rfl T.b_int bt_int (l_cons (x_bin (v_fdiv) (x_nm 4 rfl (by first | exact .inl rfl | exact .inr (.inl rfl) | exact .inr (.inr rfl))) (x_int)) (l_nil))) (x_nm 1 rfl (by first | exact .inl rfl | exact .inr (.inl rfl) | exact .inr (.inr rfl))))))))))))))
theorem sc__law_any : FnScope ["tape", "things"] ["tape", "things"] (defScope (top 30)) := C8.fnScope_by (by decide +kernel)
theorem ok__law_any {G : Gx} (T : Tx G) : FnF G 4 "_law_any" ["tape", "things"] sem__law_any := by
  refine fnD (N := ["tape", "things"]) (k := 3) (mb := m__law_any) T.f__law_any sc__law_any (fun _ _ _ _ _ _ us hl => match us, hl with | [_, _], _ => rfl) fun f cdv Ar outer s H E C => ?_
  exact ss_one (s_ret (x_ix (v_ix C.eK) (x_nm 1 rfl (by first | exact .inl rfl | exact .inr (.inl rfl) | exact .inr (.inr rfl))) (x_call C (ok__law_pick T) (by decide) (noPk_semD _ _) rfl (l_cons (x_nm 0 rfl (by first | exact .inl rfl | exact .inr (.inl rfl) | exact .inr (.inr rfl))) (l_cons (x_b (v_len (C.eK)) rfl T.b_len bt_len (l_cons (x_nm 1 rfl (by first | exact .inl rfl | exact .inr (.inl rfl) | exact .inr (.inr rfl))) (l_nil))) (l_nil))))))
theorem sc__law_deeds : FnScope ["tape", "many", "is_kept", "found", "turn", "takes", "puts", "token"] ["tape", "many", "is_kept"] (defScope (top 31)) := C8.fnScope_by (by decide +kernel)
theorem ok__law_deeds {G : Gx} (T : Tx G) : FnF G 4 "_law_deeds" ["tape", "many", "is_kept"] sem__law_deeds := by
  refine fnD (N := ["tape", "many", "is_kept", "found", "turn", "takes", "puts", "token"]) (k := 3) (mb := m__law_deeds) T.f__law_deeds sc__law_deeds (fun _ _ _ _ _ _ us hl => match us, hl with | [_, _, _], _ => rfl) fun f cdv Ar outer s H E C => ?_
  exact ss_cons (s_set 3 C.nd rfl (by first | exact .inl rfl | exact .inr rfl) (x_lst (l_nil))) (ss_cons (s_for (passes_of rfl) rfl (by exact i_range1 rfl T.b_range (by exact l_cons (x_bin (v_add (C.eK)) (x_call C (ok__law_pick T) (by decide) (noPk_semD _ _) rfl (l_cons (x_nm 0 rfl (by first | exact .inl rfl | exact .inr (.inl rfl) | exact .inr (.inr rfl))) (l_cons (x_int) (l_nil)))) (x_ife (t_truth (x_nm 2 rfl (by first | exact .inl rfl | exact .inr (.inl rfl) | exact .inr (.inr rfl))) C.eK) (x_int) (x_int))) (l_nil))) (by exact p_nm 4 C.nd rfl (by first | exact .inl rfl | exact .inr rfl)) (by exact ss_cons (s_par 5 6 rfl C.nd rfl rfl (by decide) rfl rfl (k_cons (x_bin (v_mul3 (C.eK)) (x_lst (l_cons (x_int) (l_nil))) (x_nm 1 rfl (by first | exact .inl rfl | exact .inr (.inl rfl) | exact .inr (.inr rfl)))) (k_cons (x_bin (v_mul3 (C.eK)) (x_lst (l_cons (x_int) (l_nil))) (x_nm 1 rfl (by first | exact .inl rfl | exact .inr (.inl rfl) | exact .inr (.inr rfl)))) (k_nil)))) (ss_cons (s_for (passes_of rfl) rfl (by exact i_range1 rfl T.b_range (by exact l_cons (x_bin (v_add (C.eK)) (x_call C (ok__law_pick T) (by decide) (noPk_semD _ _) rfl (l_cons (x_nm 0 rfl (by first | exact .inl rfl | exact .inr (.inl rfl) | exact .inr (.inr rfl))) (l_cons (x_int) (l_nil)))) (x_ife (t_truth (x_nm 2 rfl (by first | exact .inl rfl | exact .inr (.inl rfl) | exact .inr (.inr rfl))) C.eK) (x_int) (x_int))) (l_nil))) (by exact p_nm 7 C.nd rfl (by first | exact .inl rfl | exact .inr rfl)) (by exact ss_one (s_if (t_cmp (v_gt) (x_nm 1 rfl (by first | exact .inl rfl | exact .inr (.inl rfl) | exact .inr (.inr rfl))) (x_int) (nomark _)) (ss_one (s_augS ip_add 5 rfl (by first | exact .inl rfl | exact .inr (.inl rfl) | exact .inr (.inr rfl)) (x_call C (ok__law_pick T) (by decide) (noPk_semD _ _) rfl (l_cons (x_nm 0 rfl (by first | exact .inl rfl | exact .inr (.inl rfl) | exact .inr (.inr rfl))) (l_cons (x_nm 1 rfl (by first | exact .inl rfl | exact .inr (.inl rfl) | exact .inr (.inr rfl))) (l_nil)))) (x_int))) (ss_nil)))) (ss_cons (s_for (passes_of rfl) rfl (by exact i_range1 rfl T.b_range (by exact l_cons (x_ife (t_truth (x_nm 2 rfl (by first | exact .inl rfl | exact .inr (.inl rfl) | exact .inr (.inr rfl))) C.eK) (x_call C (ok__law_pick T) (by decide) (noPk_semD _ _) rfl (l_cons (x_nm 0 rfl (by first | exact .inl rfl | exact .inr (.inl rfl) | exact .inr (.inr rfl))) (l_cons (x_bin (v_add (C.eK)) (x_b (v_sum1 C rfl) rfl T.b_sum bt_sum (l_cons (x_nm 5 rfl (by first | exact .inl rfl | exact .inr (.inl rfl) | exact .inr (.inr rfl))) (l_nil))) (x_int)) (l_nil)))) (x_call C (ok__law_pick T) (by decide) (noPk_semD _ _) rfl (l_cons (x_nm 0 rfl (by first | exact .inl rfl | exact .inr (.inl rfl) | exact .inr (.inr rfl))) (l_cons (x_int) (l_nil))))) (l_nil))) (by exact p_nm 7 C.nd rfl (by first | exact .inl rfl | exact .inr rfl)) (by exact ss_one (s_if (t_cmp (v_gt) (x_nm 1 rfl (by first | exact .inl rfl | exact .inr (.inl rfl) | exact .inr (.inr rfl))) (x_int) (nomark _)) (ss_one (s_augS ip_add 6 rfl (by first | exact .inl rfl | exact .inr (.inl rfl) | exact .inr (.inr rfl)) (x_call C (ok__law_pick T) (by decide) (noPk_semD _ _) rfl (l_cons (x_nm 0 rfl (by first | exact .inl rfl | exact .inr (.inl rfl) | exact .inr (.inr rfl))) (l_cons (x_nm 1 rfl (by first | exact .inl rfl | exact .inr (.inl rfl) | exact .inr (.inr rfl))) (l_nil)))) (x_int))) (ss_nil)))) (ss_cons (s_if (t_w (t_and (t_truth (x_nm 2 rfl (by first | exact .inl rfl | exact .inr (.inl rfl) | exact .inr (.inr rfl))) C.eK) (t_and (t_cmp (v_eq3 (C.eK) C.u64) (x_call C (ok__law_pick T) (by decide) (noPk_semD _ _) rfl (l_cons (x_nm 0 rfl (by first | exact .inl rfl | exact .inr (.inl rfl) | exact .inr (.inr rfl))) (l_cons (x_int) (l_nil)))) (x_int) (nomark _)) (t_and1 (t_cmp (v_gt) (x_nm 1 rfl (by first | exact .inl rfl | exact .inr (.inl rfl) | exact .inr (.inr rfl))) (x_int) (nomark _)))))) (ss_one (s_augS ip_add 6 rfl (by first | exact .inl rfl | exact .inr (.inl rfl) | exact .inr (.inr rfl)) (x_call C (ok__law_pick T) (by decide) (noPk_semD _ _) rfl (l_cons (x_nm 0 rfl (by first | exact .inl rfl | exact .inr (.inl rfl) | exact .inr (.inr rfl))) (l_cons (x_nm 1 rfl (by first | exact .inl rfl | exact .inr (.inl rfl) | exact .inr (.inr rfl))) (l_nil)))) (x_bin (v_sub) (x_b (v_sum1 C rfl) rfl T.b_sum bt_sum (l_cons (x_nm 5 rfl (by first | exact .inl rfl | exact .inr (.inl rfl) | exact .inr (.inr rfl))) (l_nil))) (x_b (v_sum1 C rfl) rfl T.b_sum bt_sum (l_cons (x_nm 6 rfl (by first | exact .inl rfl | exact .inr (.inl rfl) | exact .inr (.inr rfl))) (l_nil)))))) (ss_nil)) (ss_one (s_append 3 rfl (by first | exact .inl rfl | exact .inr (.inl rfl) | exact .inr (.inr rfl)) (x_tup (l_cons (x_ty (v_tuple (C.eK)) rfl T.b_tuple bt_tuple (l_cons (x_nm 5 rfl (by first | exact .inl rfl | exact .inr (.inl rfl) | exact .inr (.inr rfl))) (l_nil))) (l_cons (x_ty (v_tuple (C.eK)) rfl T.b_tuple bt_tuple (l_cons (x_nm 6 rfl (by first | exact .inl rfl | exact .inr (.inl rfl) | exact .inr (.inr rfl))) (l_nil))) (l_nil))))))))))) (ss_one (s_ret (x_ty (v_tuple (C.eK)) rfl T.b_tuple bt_tuple (l_cons (x_nm 3 rfl (by first | exact .inl rfl | exact .inr (.inl rfl) | exact .inr (.inr rfl))) (l_nil))))))
theorem sc__law_mark : FnScope ["tape", "many", "most", "found", "token"] ["tape", "many", "most"] (defScope (top 32)) := C8.fnScope_by (by decide +kernel)
theorem ok__law_mark {G : Gx} (T : Tx G) : FnF G 4 "_law_mark" ["tape", "many", "most"] sem__law_mark := by
  refine fnD (N := ["tape", "many", "most", "found", "token"]) (k := 3) (mb := m__law_mark) T.f__law_mark sc__law_mark (fun _ _ _ _ _ _ us hl => match us, hl with | [_, _, _], _ => rfl) fun f cdv Ar outer s H E C => ?_
  exact ss_cons (s_set 3 C.nd rfl (by first | exact .inl rfl | exact .inr rfl) (x_bin (v_mul3 (C.eK)) (x_lst (l_cons (x_int) (l_nil))) (x_nm 1 rfl (by first | exact .inl rfl | exact .inr (.inl rfl) | exact .inr (.inr rfl))))) (ss_cons (s_for (passes_of rfl) rfl (by exact i_range1 rfl T.b_range (by exact l_cons (x_call C (ok__law_pick T) (by decide) (noPk_semD _ _) rfl (l_cons (x_nm 0 rfl (by first | exact .inl rfl | exact .inr (.inl rfl) | exact .inr (.inr rfl))) (l_cons (x_bin (v_add (C.eK)) (x_nm 2 rfl (by first | exact .inl rfl | exact .inr (.inl rfl) | exact .inr (.inr rfl))) (x_int)) (l_nil)))) (l_nil))) (by exact p_nm 4 C.nd rfl (by first | exact .inl rfl | exact .inr rfl)) (by exact ss_one (s_if (t_cmp (v_gt) (x_nm 1 rfl (by first | exact .inl rfl | exact .inr (.inl rfl) | exact .inr (.inr rfl))) (x_int) (nomark _)) (ss_one (s_augS ip_add 3 rfl (by first | exact .inl rfl | exact .inr (.inl rfl) | exact .inr (.inr rfl)) (x_call C (ok__law_pick T) (by decide) (noPk_semD _ _) rfl (l_cons (x_nm 0 rfl (by first | exact .inl rfl | exact .inr (.inl rfl) | exact .inr (.inr rfl))) (l_cons (x_nm 1 rfl (by first | exact .inl rfl | exact .inr (.inl rfl) | exact .inr (.inr rfl))) (l_nil)))) (x_int))) (ss_nil)))) (ss_one (s_ret (x_ty (v_tuple (C.eK)) rfl T.b_tuple bt_tuple (l_cons (x_nm 3 rfl (by first | exact .inl rfl | exact .inr (.inl rfl) | exact .inr (.inr rfl))) (l_nil))))))
theorem sc__law_ready : FnScope ["deeds_here", "mark", "at", "pair", "has", "take"] ["deeds_here", "mark"] (defScope (top 33)) := C8.fnScope_by (by decide +kernel)
theorem ok__law_ready {G : Gx} (T : Tx G) : FnF G 1 "_law_ready" ["deeds_here", "mark"] sem__law_ready := by
  refine fnD (N := ["deeds_here", "mark", "at", "pair", "has", "take"]) (k := 0) (mb := m__law_ready) T.f__law_ready sc__law_ready (fun _ _ _ _ _ _ us hl => match us, hl with | [_, _], _ => rfl) fun f cdv Ar outer s H E C => ?_
  exact ss_one (s_ret (x_lc rfl C.nd (by exact i_enum C.eK rfl T.b_enumerate (by exact l_cons (x_nm 0 rfl (by first | exact .inl rfl | exact .inr (.inl rfl) | exact .inr (.inr rfl))) (l_nil))) (blkOk_by (own := [("at", 2), ("pair", 3)]) (by rfl)) (fun _ _ _ _ _ => q_tup C.blk.eK rfl (q_cons (q_nm 2 C.blk.nd rfl (by first | exact .inl rfl | exact .inr rfl) (by decide)) (q_cons (q_nm 3 C.blk.nd rfl (by first | exact .inl rfl | exact .inr rfl) (by decide)) (q_nil))) (pl_cons (pl_cons pl_nil))) (fun _ _ _ _ _ => ts_one (t_truth (x_b (v_all (C.blk.eK) rfl) rfl T.b_all bt_all (l_cons (x_lc rfl C.blk.nd (by exact i_zip2 C.blk.eK rfl T.b_zip (by exact l_cons (x_nm 1 rfl (by first | exact .inl rfl | exact .inr (.inl rfl) | exact .inr (.inr rfl))) (l_cons (x_ix (v_ix C.blk.eK) (x_nm 3 rfl (by first | exact .inl rfl | exact .inr (.inl rfl) | exact .inr (.inr rfl))) (x_int)) (l_nil)))) (blkOk_by (own := [("has", 4), ("take", 5)]) (by rfl)) (fun _ _ _ _ _ => q_tup C.blk.blk.eK rfl (q_cons (q_nm 4 C.blk.blk.nd rfl (by first | exact .inl rfl | exact .inr rfl) (by decide)) (q_cons (q_nm 5 C.blk.blk.nd rfl (by first | exact .inl rfl | exact .inr rfl) (by decide)) (q_nil))) (pl_cons (pl_cons pl_nil))) (fun _ _ _ _ _ => ts_nil) (fun _ _ _ _ _ => x_cmp (v_ge) (x_nm 4 rfl (by first | exact .inl rfl | exact .inr (.inl rfl) | exact .inr (.inr rfl))) (x_nm 5 rfl (by first | exact .inl rfl | exact .inr (.inl rfl) | exact .inr (.inr rfl))) (nomark _))) (l_nil))) C.blk.eK) takesBlk) (fun _ _ _ _ _ => x_nm 2 rfl (by first | exact .inl rfl | exact .inr (.inl rfl) | exact .inr (.inr rfl)))))
theorem sc__law_behind : FnScope ["deeds_here", "mark", "at", "takes", "puts", "has", "take", "put"] ["deeds_here", "mark", "at"] (defScope (top 34)) := C8.fnScope_by (by decide +kernel)
theorem ok__law_behind {G : Gx} (T : Tx G) : FnF G 1 "_law_behind" ["deeds_here", "mark", "at"] sem__law_behind := by
  refine fnD (N := ["deeds_here", "mark", "at", "takes", "puts", "has", "take", "put"]) (k := 0) (mb := m__law_behind) T.f__law_behind sc__law_behind (fun _ _ _ _ _ _ us hl => match us, hl with | [_, _, _], _ => rfl) fun f cdv Ar outer s H E C => ?_
  exact ss_cons (s_asgP (x_ix (v_ix C.eK) (x_nm 0 rfl (by first | exact .inl rfl | exact .inr (.inl rfl) | exact .inr (.inr rfl))) (x_nm 2 rfl (by first | exact .inl rfl | exact .inr (.inl rfl) | exact .inr (.inr rfl)))) (p_tup C.eK rfl (p_cons (p_nm 3 C.nd rfl (by first | exact .inl rfl | exact .inr rfl)) (p_cons (p_nm 4 C.nd rfl (by first | exact .inl rfl | exact .inr rfl)) (p_nil))) (pl_cons (pl_cons pl_nil)))) (ss_one (s_ret (x_ty (v_tuple (C.eK)) rfl T.b_tuple bt_tuple (l_cons (x_lc rfl C.nd (by exact i_zip3 C.eK rfl T.b_zip (by exact l_cons (x_nm 1 rfl (by first | exact .inl rfl | exact .inr (.inl rfl) | exact .inr (.inr rfl))) (l_cons (x_nm 3 rfl (by first | exact .inl rfl | exact .inr (.inl rfl) | exact .inr (.inr rfl))) (l_cons (x_nm 4 rfl (by first | exact .inl rfl | exact .inr (.inl rfl) | exact .inr (.inr rfl))) (l_nil))))) (blkOk_by (own := [("has", 5), ("take", 6), ("put", 7)]) (by rfl)) (fun _ _ _ _ _ => q_tup C.blk.eK rfl (q_cons (q_nm 5 C.blk.nd rfl (by first | exact .inl rfl | exact .inr rfl) (by decide)) (q_cons (q_nm 6 C.blk.nd rfl (by first | exact .inl rfl | exact .inr rfl) (by decide)) (q_cons (q_nm 7 C.blk.nd rfl (by first | exact .inl rfl | exact .inr rfl) (by decide)) (q_nil)))) (pl_cons (pl_cons (pl_cons pl_nil)))) (fun _ _ _ _ _ => ts_nil) (fun _ _ _ _ _ => x_bin (v_add (C.blk.eK)) (x_bin (v_sub) (x_nm 5 rfl (by first | exact .inl rfl | exact .inr (.inl rfl) | exact .inr (.inr rfl))) (x_nm 6 rfl (by first | exact .inl rfl | exact .inr (.inl rfl) | exact .inr (.inr rfl)))) (x_nm 7 rfl (by first | exact .inl rfl | exact .inr (.inl rfl) | exact .inr (.inr rfl))))) (l_nil)))))
theorem sc__law_no_mark : FnScope ["tape", "many", "some"] ["tape", "many"] (defScope (top 35)) := C8.fnScope_by (by decide +kernel)
theorem ok__law_no_mark {G : Gx} (T : Tx G) : FnF G 5 "_law_no_mark" ["tape", "many"] sem__law_no_mark := by
  refine fnD (N := ["tape", "many", "some"]) (k := 4) (mb := m__law_no_mark) T.f__law_no_mark sc__law_no_mark (fun _ _ _ _ _ _ us hl => match us, hl with | [_, _], _ => rfl) fun f cdv Ar outer s H E C => ?_
  exact ss_cons (s_set 2 C.nd rfl (by first | exact .inl rfl | exact .inr rfl) (x_lst (l_cons (x_non) (l_cons (x_bin (v_mul3 (C.eK)) (x_tup (l_cons (x_int) (l_nil))) (x_bin (v_add (C.eK)) (x_nm 1 rfl (by first | exact .inl rfl | exact .inr (.inl rfl) | exact .inr (.inr rfl))) (x_int))) (l_cons (x_bin (v_mul3 (C.eK)) (x_lst (l_cons (x_int) (l_nil))) (x_nm 1 rfl (by first | exact .inl rfl | exact .inr (.inl rfl) | exact .inr (.inr rfl)))) (l_cons (x_int) (l_cons (x_dct0) (l_cons (x_str) (l_cons (x_bin (v_add (C.eK)) (x_bin (v_mul3 (C.eK)) (x_tup (l_cons (x_bin (v_add (C.eK)) (x_bin (v_pow) (x_int) (x_int)) (x_int)) (l_nil))) (x_nm 1 rfl (by first | exact .inl rfl | exact .inr (.inl rfl) | exact .inr (.inr rfl)))) (x_tup (l_cons (x_int) (l_nil)))) (l_cons (x_bin (v_mul3 (C.eK)) (x_tup (l_cons (x_non) (l_nil))) (x_bin (v_add (C.eK)) (x_nm 1 rfl (by first | exact .inl rfl | exact .inr (.inl rfl) | exact .inr (.inr rfl))) (x_int))) (l_nil))))))))))) (ss_frz 2 (ss_cons (s_if (t_cmp (v_gt) (x_nm 1 rfl (by first | exact .inl rfl | exact .inr (.inl rfl) | exact .inr (.inr rfl))) (x_int) (nomark _)) (ss_cons (s_set 2 C.nd rfl (by first | exact .inl rfl | exact .inr rfl) (x_bin (v_add (C.eK)) (x_nm 2 rfl (by first | exact .inl rfl | exact .inr (.inl rfl) | exact .inr (.inr rfl))) (x_lst (l_cons (x_bin (v_mul3 (C.eK)) (x_tup (l_cons (x_neg (x_int)) (l_nil))) (x_nm 1 rfl (by first | exact .inl rfl | exact .inr (.inl rfl) | exact .inr (.inr rfl)))) (l_cons (x_bin (v_mul3 (C.eK)) (x_tup (l_cons (x_bl) (l_nil))) (x_nm 1 rfl (by first | exact .inl rfl | exact .inr (.inl rfl) | exact .inr (.inr rfl)))) (l_cons (x_bin (v_mul3 (C.eK)) (x_tup (l_cons (x_str) (l_nil))) (x_nm 1 rfl (by first | exact .inl rfl | exact .inr (.inl rfl) | exact .inr (.inr rfl)))) (l_cons (x_bin (v_mul3 (C.eK)) (x_tup (l_cons (x_bin (v_add (C.eK)) (x_bin (v_pow) (x_int) (x_int)) (x_int)) (l_nil))) (x_nm 1 rfl (by first | exact .inl rfl | exact .inr (.inl rfl) | exact .inr (.inr rfl)))) (l_cons (x_bin (v_mul3 (C.eK)) (x_tup (l_cons (x_int) (l_nil))) (x_bin (v_sub) (x_nm 1 rfl (by first | exact .inl rfl | exact .inr (.inl rfl) | exact .inr (.inr rfl))) (x_int))) (l_nil))))))))) (ss_frz 2 (ss_nil))) (ss_nil)) (ss_one (s_ret (x_call C (ok__law_any T) (by decide) (noPk_semD _ _) rfl (l_cons (x_nm 0 rfl (by first | exact .inl rfl | exact .inr (.inl rfl) | exact .inr (.inr rfl))) (l_cons (x_nm 2 rfl (by first | exact .inl rfl | exact .inr (.inl rfl) | exact .inr (.inr rfl))) (l_nil))))))))
theorem sc__law_word : FnScope ["call", "found", "e", "flags", "tags"] ["call"] (defScope (top 36)) := C8.fnScope_by (by decide +kernel)
theorem ok__law_word {G : Gx} (T : Tx G) (k : Nat) : FnTh G k "_law_word" sem__law_word := by
  refine fnTh (N := ["call", "found", "e", "flags", "tags"]) (a := "call") (k := k) (mb := m__law_word) T.f__law_word sc__law_word rfl (by first | exact .inl rfl | exact .inr (.inl rfl) | exact .inr (.inr rfl)) (fun _ _ _ _ _ _ us hl => match us, hl with | [_], _ => rfl) fun TT th f cdv Ar outer s H E C CT => ?_
  exact ss_cons (s_set 1 C.nd rfl (by first | exact .inl rfl | exact .inr rfl) (x_str)) (ss_cons (s_tryAs (i := 2) rfl rfl C.nd rfl rfl ⟨rfl, rfl, .inl T.g_NetError⟩ C.eK T.x_NetError (fun pn xe => by exact ss_one (s_expr (CT _ _ _ _))) (fun a oe d c pn hc hz hv => by exact ss_cons (s_set 3 C.nd rfl (by first | exact .inl rfl | exact .inr rfl) (x_lst (l_cons (x_isE C.eK (T.xk _ _ hc) hz hv (.own _) (T.k_BadNet c) (x_nm 2 rfl (by first | exact .inl rfl | exact .inr (.inl rfl) | exact .inr (.inr rfl))) rfl T.b_isinstance (pe_glob rfl T.g_BadNet rfl)) (l_cons (x_isE C.eK (T.xk _ _ hc) hz hv (.own _) (T.k_NoDeed c) (x_nm 2 rfl (by first | exact .inl rfl | exact .inr (.inl rfl) | exact .inr (.inr rfl))) rfl T.b_isinstance (pe_glob rfl T.g_NoDeed rfl)) (l_cons (x_isE C.eK (T.xk _ _ hc) hz hv (.own _) (T.k_NoMark c) (x_nm 2 rfl (by first | exact .inl rfl | exact .inr (.inl rfl) | exact .inr (.inr rfl))) rfl T.b_isinstance (pe_glob rfl T.g_NoMark rfl)) (l_cons (x_isE C.eK (T.xk _ _ hc) hz hv (.own _) (T.k_NotReady c) (x_nm 2 rfl (by first | exact .inl rfl | exact .inr (.inl rfl) | exact .inr (.inr rfl))) rfl T.b_isinstance (pe_glob rfl T.g_NotReady rfl)) (l_nil))))))) (ss_cons (s_append 3 rfl (by first | exact .inl rfl | exact .inr (.inl rfl) | exact .inr (.inr rfl)) (x_isE C.eK (T.xk _ _ hc) hz hv (.own _) (T.k_TooGreat c) (x_nm 2 rfl (by first | exact .inl rfl | exact .inr (.inl rfl) | exact .inr (.inr rfl))) rfl T.b_isinstance (pe_glob rfl T.g_TooGreat rfl))) (ss_cons (s_set 4 C.nd rfl (by first | exact .inl rfl | exact .inr rfl) (x_lst (l_cons (x_str) (l_cons (x_str) (l_cons (x_str) (l_cons (x_str) (l_cons (x_str) (l_nil)))))))) (ss_frz 4 (ss_cons (s_set 1 C.nd rfl (by first | exact .inl rfl | exact .inr rfl) (x_ife (t_w (t_and (t_cmp (v_eq3 (C.eK) C.u64) (x_mth C.eK PySem.F.slot_list_count rfl (mt_cnt C.eK C.u65) (x_nm 3 rfl (by first | exact .inl rfl | exact .inr (.inl rfl) | exact .inr (.inr rfl))) (l_cons (x_bl) (l_nil))) (x_int) (nomark _)) (t_and1 (t_truth (x_isE C.eK (T.xk _ _ hc) hz hv (.ty _) (T.k_ValueError c) (x_nm 2 rfl (by first | exact .inl rfl | exact .inr (.inl rfl) | exact .inr (.inr rfl))) rfl T.b_isinstance (pe_bltn rfl T.b_ValueError bt_VE rfl)) C.eK)))) (x_ix (v_ix C.eK) (x_nm 4 rfl (by first | exact .inl rfl | exact .inr (.inl rfl) | exact .inr (.inr rfl))) (x_mth C.eK PySem.F.slot_list_index rfl (mt_idx C.eK C.u65) (x_nm 3 rfl (by first | exact .inl rfl | exact .inr (.inl rfl) | exact .inr (.inr rfl))) (l_cons (x_bl) (l_nil)))) (x_str))) (ss_cons (s_if (t_cmp (v_eq3 (C.eK) C.u64) (x_nm 1 rfl (by first | exact .inl rfl | exact .inr (.inl rfl) | exact .inr (.inr rfl))) (x_str) (nomark _)) (ss_one (s_set 1 C.nd rfl (by first | exact .inl rfl | exact .inr rfl) (x_tup (l_cons (x_str) (l_cons (x_xf C.eK (T.xk _ _ hc) hz hv (T.xf_at c) (x_nm 2 rfl (by first | exact .inl rfl | exact .inr (.inl rfl) | exact .inr (.inr rfl)))) (l_nil)))))) (ss_nil)) (ss_one (s_if (t_cmp (v_eq3 (C.eK) C.u64) (x_nm 1 rfl (by first | exact .inl rfl | exact .inr (.inl rfl) | exact .inr (.inr rfl))) (x_str) (nomark _)) (ss_one (s_set 1 C.nd rfl (by first | exact .inl rfl | exact .inr rfl) (x_tup (l_cons (x_str) (l_cons (x_xf C.eK (T.xk _ _ hc) hz hv (T.xf_part c) (x_nm 2 rfl (by first | exact .inl rfl | exact .inr (.inl rfl) | exact .inr (.inr rfl)))) (l_nil)))))) (ss_nil)))))))))) (ss_one (s_ret (x_nm 1 rfl (by first | exact .inl rfl | exact .inr (.inl rfl) | exact .inr (.inr rfl))))))
theorem sc__law_is_mark_of : FnScope ["many", "thing", "one"] ["many", "thing"] (defScope (top 37)) := C8.fnScope_by (by decide +kernel)
theorem ok__law_is_mark_of {G : Gx} (T : Tx G) : FnF G 3 "_law_is_mark_of" ["many", "thing"] sem__law_is_mark_of := by
  refine fnD (N := ["many", "thing", "one"]) (k := 2) (mb := m__law_is_mark_of) T.f__law_is_mark_of sc__law_is_mark_of (fun _ _ _ _ _ _ us hl => match us, hl with | [_, _], _ => rfl) fun f cdv Ar outer s H E C => ?_
  exact ss_cons (s_if (t_w (t_or (t_not (t_truth (x_isiT .tup C.eK T.isi (x_nm 1 rfl (by first | exact .inl rfl | exact .inr (.inl rfl) | exact .inr (.inr rfl))) rfl T.b_isinstance rfl T.b_tuple bt_tuple) C.eK)) (t_or1 (t_cmp (v_ne3 (C.eK) C.u64) (x_b (v_len (C.eK)) rfl T.b_len bt_len (l_cons (x_nm 1 rfl (by first | exact .inl rfl | exact .inr (.inl rfl) | exact .inr (.inr rfl))) (l_nil))) (x_nm 0 rfl (by first | exact .inl rfl | exact .inr (.inl rfl) | exact .inr (.inr rfl))) (nomark _))))) (ss_one (s_ret (x_bl))) (ss_nil)) (ss_one (s_ret (x_b (v_all (C.eK) rfl) rfl T.b_all bt_all (l_cons (x_lc rfl C.nd (by exact i_seq C.eK (by exact x_nm 1 rfl (by first | exact .inl rfl | exact .inr (.inl rfl) | exact .inr (.inr rfl)))) (blkOk_by (own := [("one", 2)]) (by rfl)) (fun _ _ _ _ _ => q_nm 2 C.blk.nd rfl (by first | exact .inl rfl | exact .inr rfl) (by decide)) (fun _ _ _ _ _ => ts_nil) (fun _ _ _ _ _ => x_and (x_isiT .int C.blk.eK T.isi (x_nm 2 rfl (by first | exact .inl rfl | exact .inr (.inl rfl) | exact .inr (.inr rfl))) rfl T.b_isinstance rfl T.b_int bt_int) (x_and (x_not (x_isiT .bl C.blk.eK T.isi (x_nm 2 rfl (by first | exact .inl rfl | exact .inr (.inl rfl) | exact .inr (.inr rfl))) rfl T.b_isinstance rfl T.b_bool bt_bool)) (x_one (x_chain (v_le) (v_le) (x_int) (x_nm 2 rfl (by first | exact .inl rfl | exact .inr (.inl rfl) | exact .inr (.inr rfl))) (x_bin (v_pow) (x_int) (x_int))))))) (l_nil)))))
theorem sc__law_is_row_of : FnScope ["many", "thing", "one"] ["many", "thing"] (defScope (top 38)) := C8.fnScope_by (by decide +kernel)
theorem ok__law_is_row_of {G : Gx} (T : Tx G) : FnF G 1 "_law_is_row_of" ["many", "thing"] sem__law_is_row_of := by
  refine fnD (N := ["many", "thing", "one"]) (k := 0) (mb := m__law_is_row_of) T.f__law_is_row_of sc__law_is_row_of (fun _ _ _ _ _ _ us hl => match us, hl with | [_, _], _ => rfl) fun f cdv Ar outer s H E C => ?_
  exact ss_cons (s_if (t_w (t_or (t_not (t_truth (x_isiT .tup C.eK T.isi (x_nm 1 rfl (by first | exact .inl rfl | exact .inr (.inl rfl) | exact .inr (.inr rfl))) rfl T.b_isinstance rfl T.b_tuple bt_tuple) C.eK)) (t_or1 (t_cmp (v_gt) (x_b (v_len (C.eK)) rfl T.b_len bt_len (l_cons (x_nm 1 rfl (by first | exact .inl rfl | exact .inr (.inl rfl) | exact .inr (.inr rfl))) (l_nil))) (x_int) (nomark _))))) (ss_one (s_ret (x_bl))) (ss_nil)) (ss_one (s_ret (x_b (v_all (C.eK) rfl) rfl T.b_all bt_all (l_cons (x_lc rfl C.nd (by exact i_seq C.eK (by exact x_nm 1 rfl (by first | exact .inl rfl | exact .inr (.inl rfl) | exact .inr (.inr rfl)))) (blkOk_by (own := [("one", 2)]) (by rfl)) (fun _ _ _ _ _ => q_nm 2 C.blk.nd rfl (by first | exact .inl rfl | exact .inr rfl) (by decide)) (fun _ _ _ _ _ => ts_nil) (fun _ _ _ _ _ => x_and (x_isiT .int C.blk.eK T.isi (x_nm 2 rfl (by first | exact .inl rfl | exact .inr (.inl rfl) | exact .inr (.inr rfl))) rfl T.b_isinstance rfl T.b_int bt_int) (x_and (x_not (x_isiT .bl C.blk.eK T.isi (x_nm 2 rfl (by first | exact .inl rfl | exact .inr (.inl rfl) | exact .inr (.inr rfl))) rfl T.b_isinstance rfl T.b_bool bt_bool)) (x_one (x_chain (v_le) (v_lt) (x_int) (x_nm 2 rfl (by first | exact .inl rfl | exact .inr (.inl rfl) | exact .inr (.inr rfl))) (x_nm 0 rfl (by first | exact .inl rfl | exact .inr (.inl rfl) | exact .inr (.inr rfl)))))))) (l_nil)))))
theorem sc__law_is_judged : FnScope ["tape", "net", "many", "deeds_here", "mark", "things", "turn", "thing"] ["tape", "net", "many", "deeds_here", "mark"] (defScope (top 40)) := C8.fnScope_by (by decide +kernel)
theorem ok__law_is_judged {G : Gx} (T : Tx G) : FnF G 5 "_law_is_judged" ["tape", "net", "many", "deeds_here", "mark"] sem__law_is_judged := by
  refine fnD (N := ["tape", "net", "many", "deeds_here", "mark", "things", "turn", "thing"]) (k := 4) (mb := m__law_is_judged) T.f__law_is_judged sc__law_is_judged (fun _ _ _ _ _ _ us hl => match us, hl with | [_, _, _, _, _], _ => rfl) fun f cdv Ar outer s H E C => ?_
  exact ss_cons (s_set 5 C.nd rfl (by first | exact .inl rfl | exact .inr rfl) (x_lst (l_cons (x_nm 4 rfl (by first | exact .inl rfl | exact .inr (.inl rfl) | exact .inr (.inr rfl))) (l_cons (x_bin (v_add (C.eK)) (x_nm 4 rfl (by first | exact .inl rfl | exact .inr (.inl rfl) | exact .inr (.inr rfl))) (x_tup (l_cons (x_int) (l_nil)))) (l_cons (x_sl C.eK (x_nm 4 rfl (by first | exact .inl rfl | exact .inr (.inl rfl) | exact .inr (.inr rfl))) (o_some (x_int)) (o_none)) (l_cons (x_ty (v_list (C.eK)) rfl T.b_list bt_list (l_cons (x_nm 4 rfl (by first | exact .inl rfl | exact .inr (.inl rfl) | exact .inr (.inr rfl))) (l_nil))) (l_cons (x_non) (l_cons (x_tup (l_nil)) (l_cons (x_int) (l_cons (x_dct0) (l_cons (x_str) (l_cons (x_bin (v_mul3 (C.eK)) (x_tup (l_cons (x_bin (v_pow) (x_int) (x_int)) (l_nil))) (x_nm 2 rfl (by first | exact .inl rfl | exact .inr (.inl rfl) | exact .inr (.inr rfl)))) (l_nil))))))))))))) (ss_frz 5 (ss_cons (s_set 5 C.nd rfl (by first | exact .inl rfl | exact .inr rfl) (x_bin (v_add (C.eK)) (x_nm 5 rfl (by first | exact .inl rfl | exact .inr (.inl rfl) | exact .inr (.inr rfl))) (x_lst (l_cons (x_bin (v_mul3 (C.eK)) (x_tup (l_cons (x_bin (v_add (C.eK)) (x_bin (v_pow) (x_int) (x_int)) (x_int)) (l_nil))) (x_nm 2 rfl (by first | exact .inl rfl | exact .inr (.inl rfl) | exact .inr (.inr rfl)))) (l_cons (x_bin (v_mul3 (C.eK)) (x_tup (l_cons (x_neg (x_int)) (l_nil))) (x_nm 2 rfl (by first | exact .inl rfl | exact .inr (.inl rfl) | exact .inr (.inr rfl)))) (l_nil)))))) (ss_frz 5 (ss_cons (s_set 5 C.nd rfl (by first | exact .inl rfl | exact .inr rfl) (x_bin (v_add (C.eK)) (x_nm 5 rfl (by first | exact .inl rfl | exact .inr (.inl rfl) | exact .inr (.inr rfl))) (x_lst (l_cons (x_bin (v_mul3 (C.eK)) (x_tup (l_cons (x_bl) (l_nil))) (x_nm 2 rfl (by first | exact .inl rfl | exact .inr (.inl rfl) | exact .inr (.inr rfl)))) (l_cons (x_bin (v_mul3 (C.eK)) (x_tup (l_cons (x_int) (l_nil))) (x_b (v_len (C.eK)) rfl T.b_len bt_len (l_cons (x_nm 3 rfl (by first | exact .inl rfl | exact .inr (.inl rfl) | exact .inr (.inr rfl))) (l_nil)))) (l_cons (x_tup (l_cons (x_b (v_len (C.eK)) rfl T.b_len bt_len (l_cons (x_nm 3 rfl (by first | exact .inl rfl | exact .inr (.inl rfl) | exact .inr (.inr rfl))) (l_nil))) (l_nil))) (l_cons (x_bin (v_mul3 (C.eK)) (x_tup (l_cons (x_int) (l_nil))) (x_int)) (l_cons (x_bin (v_mul3 (C.eK)) (x_tup (l_cons (x_int) (l_nil))) (x_int)) (l_cons (x_lst (l_cons (x_int) (l_nil))) (l_nil)))))))))) (ss_frz 5 (ss_cons (s_set 5 C.nd rfl (by first | exact .inl rfl | exact .inr rfl) (x_bin (v_add (C.eK)) (x_nm 5 rfl (by first | exact .inl rfl | exact .inr (.inl rfl) | exact .inr (.inr rfl))) (x_lst (l_cons (x_tup (l_cons (x_int) (l_cons (x_non) (l_nil)))) (l_cons (x_tup (l_cons (x_str) (l_nil))) (l_nil)))))) (ss_frz 5 (ss_cons (s_for (passes_of rfl) rfl (by exact i_range1 rfl T.b_range (by exact l_cons (x_int) (l_nil))) (by exact p_nm 6 C.nd rfl (by first | exact .inl rfl | exact .inr rfl)) (by exact ss_cons (s_set 7 C.nd rfl (by first | exact .inl rfl | exact .inr rfl) (x_call C (ok__law_any T) (by decide) (noPk_semD _ _) rfl (l_cons (x_nm 0 rfl (by first | exact .inl rfl | exact .inr (.inl rfl) | exact .inr (.inr rfl))) (l_cons (x_nm 5 rfl (by first | exact .inl rfl | exact .inr (.inl rfl) | exact .inr (.inr rfl))) (l_nil))))) (ss_frz 7 (ss_cons (s_if (t_cmp (v_ne3 (C.eK) C.u64) (x_b (v_repr C) rfl T.b_repr bt_repr (l_cons (x_call C (ok_is_mark T) (by decide) (noPk_semD _ _) rfl (l_cons (x_nm 1 rfl (by first | exact .inl rfl | exact .inr (.inl rfl) | exact .inr (.inr rfl))) (l_cons (x_nm 7 rfl (by first | exact .inl rfl | exact .inr (.inl rfl) | exact .inr (.inr rfl))) (l_nil)))) (l_nil))) (x_b (v_repr C) rfl T.b_repr bt_repr (l_cons (x_call C (ok__law_is_mark_of T) (by decide) (noPk_semD _ _) rfl (l_cons (x_nm 2 rfl (by first | exact .inl rfl | exact .inr (.inl rfl) | exact .inr (.inr rfl))) (l_cons (x_nm 7 rfl (by first | exact .inl rfl | exact .inr (.inl rfl) | exact .inr (.inr rfl))) (l_nil)))) (l_nil))) (nomark _)) (ss_one (s_ret (x_bl))) (ss_nil)) (ss_one (s_if (t_cmp (v_ne3 (C.eK) C.u64) (x_b (v_repr C) rfl T.b_repr bt_repr (l_cons (x_call C (ok_is_row T) (by decide) (noPk_semD _ _) rfl (l_cons (x_nm 1 rfl (by first | exact .inl rfl | exact .inr (.inl rfl) | exact .inr (.inr rfl))) (l_cons (x_nm 7 rfl (by first | exact .inl rfl | exact .inr (.inl rfl) | exact .inr (.inr rfl))) (l_nil)))) (l_nil))) (x_b (v_repr C) rfl T.b_repr bt_repr (l_cons (x_call C (ok__law_is_row_of T) (by decide) (noPk_semD _ _) rfl (l_cons (x_b (v_len (C.eK)) rfl T.b_len bt_len (l_cons (x_nm 3 rfl (by first | exact .inl rfl | exact .inr (.inl rfl) | exact .inr (.inr rfl))) (l_nil))) (l_cons (x_nm 7 rfl (by first | exact .inl rfl | exact .inr (.inl rfl) | exact .inr (.inr rfl))) (l_nil)))) (l_nil))) (nomark _)) (ss_one (s_ret (x_bl))) (ss_nil))))))) (ss_one (s_ret (x_bl)))))))))))
theorem sc__law_word_of : FnScope ["net", "mark", "at"] ["net", "mark", "at"] (defScope (top 42)) := C8.fnScope_by (by decide +kernel)
theorem ok__law_word_of {G : Gx} (T : Tx G) : FnF G 8 "_law_word_of" ["net", "mark", "at"] sem__law_word_of := by
  obtain ⟨cc, P, h, TB, HM, HU⟩ := T.l__law_word_of
  refine fnDL (N := ["net", "mark", "at"]) (k := 7) (mb := m__law_word_of) h sc__law_word_of (fun _ _ _ _ _ _ us hl => match us, hl with | [_, _, _], _ => rfl) fun f Ar outer s H E C => ?_
  exact ss_one (s_ret (x_lamcall (j := 5) C (ok__law_word T _) (by decide) rfl TB rfl HM HU (LamX.lamS_by (by rfl)) rfl (fun _ _ _ _ _ => rfl) (fun _ _ _ _ _ _ _ CL => by exact x_call CL (ok_done T) (by decide) (noPk_semD _ _) rfl (l_cons (x_nm 0 rfl (by first | exact .inl rfl | exact .inr (.inl rfl) | exact .inr (.inr rfl))) (l_cons (x_nm 1 rfl (by first | exact .inl rfl | exact .inr (.inl rfl) | exact .inr (.inr rfl))) (l_cons (x_nm 2 rfl (by first | exact .inl rfl | exact .inr (.inl rfl) | exact .inr (.inr rfl))) (l_nil)))))))
theorem sc_new_Net : FnScope ["self", "places", "deeds", "number", "deed", "part"] ["self", "places", "deeds"] (defScope (meth 16 0)) := C8.fnScope_by (by decide +kernel)
theorem ok_new_Net {G : Gx} (T : Tx G) : FnN G 4 0 "Net" ["self", "places", "deeds"] sem_new_Net := by
  obtain ⟨f, fd, F, M⟩ := T.i_Net
  refine fnN (N := ["self", "places", "deeds", "number", "deed", "part"]) (k := 3) (mb := m_new_Net) F sc_new_Net M T.g_Net (F.bindsN fun _ _ _ _ _ _ us hl => match us, hl with | [_, _, _], _ => rfl) rfl rfl fun cdv Ar outer s H E C => ?_
  exact ss_cons' (EvS.self (s_if (t_not (t_truth (x_call C (ok_is_within T) (by decide) (noPk_semD _ _) rfl (l_cons (x_nm 1 rfl (by first | exact .inl rfl | exact .inr (.inl rfl) | exact .inr (.inr rfl))) (l_cons (x_int) (l_cons (x_gint rfl T.c_MOST_PLACES) (l_nil))))) C.eK)) (ss_one (s_raise1 C (by decide) rfl T.r_BadNet (x_str) rfl)) (ss_nil))) (ss_cons' (EvS.self (s_if (t_not (t_truth (x_call C (ok_is_tuple T) (by decide) (noPk_semD _ _) rfl (l_cons (x_nm 2 rfl (by first | exact .inl rfl | exact .inr (.inl rfl) | exact .inr (.inr rfl))) (l_cons (x_int) (l_cons (x_gint rfl T.c_MOST_DEEDS) (l_nil))))) C.eK)) (ss_one (s_raise1 C (by decide) rfl T.r_BadNet (x_str) rfl)) (ss_nil))) (ss_cons' (EvS.self (s_for (passes_of rfl) rfl (by exact i_enum C.eK rfl T.b_enumerate (by exact l_cons (x_nm 2 rfl (by first | exact .inl rfl | exact .inr (.inl rfl) | exact .inr (.inr rfl))) (l_nil))) (by exact p_tup C.eK rfl (p_cons (p_nm 3 C.nd rfl (by first | exact .inl rfl | exact .inr rfl)) (p_cons (p_nm 4 C.nd rfl (by first | exact .inl rfl | exact .inr rfl)) (p_nil))) (pl_cons (pl_cons pl_nil))) (by exact ss_one (s_if (t_w (t_or (t_not (t_truth (x_call C (ok_is_tuple T) (by decide) (noPk_semD _ _) rfl (l_cons (x_nm 4 rfl (by first | exact .inl rfl | exact .inr (.inl rfl) | exact .inr (.inr rfl))) (l_cons (x_int) (l_cons (x_int) (l_nil))))) C.eK)) (t_or1 (t_not (t_truth (x_b (v_all (C.eK) rfl) rfl T.b_all bt_all (l_cons (x_lc rfl C.nd (by exact i_seq C.eK (by exact x_nm 4 rfl (by first | exact .inl rfl | exact .inr (.inl rfl) | exact .inr (.inr rfl)))) (blkOk_by (own := [("part", 5)]) (by rfl)) (fun _ _ _ _ _ => q_nm 5 C.blk.nd rfl (by first | exact .inl rfl | exact .inr rfl) (by decide)) (fun _ _ _ _ _ => ts_nil) (fun _ _ _ _ _ => x_call C.blk (ok_is_counts T) (by decide) (noPk_semD _ _) rfl (l_cons (x_nm 1 rfl (by first | exact .inl rfl | exact .inr (.inl rfl) | exact .inr (.inr rfl))) (l_cons (x_nm 5 rfl (by first | exact .inl rfl | exact .inr (.inl rfl) | exact .inr (.inr rfl))) (l_nil))))) (l_nil))) C.eK))))) (ss_one (s_raise1 C (by decide) rfl T.r_BadNet (x_nm 3 rfl (by first | exact .inl rfl | exact .inr (.inl rfl) | exact .inr (.inr rfl))) rfl)) (ss_nil))))) (ss_cons' (s_fldS C.eK T.isi T.hs_places rfl (by first | exact .inl rfl | exact .inr (.inl rfl) | exact .inr (.inr rfl)) (x_nm 1 rfl (by first | exact .inl rfl | exact .inr (.inl rfl) | exact .inr (.inr rfl)))) (ss_cons' (s_fldS C.eK T.isi T.hs_deeds rfl (by first | exact .inl rfl | exact .inr (.inl rfl) | exact .inr (.inr rfl)) (x_nm 2 rfl (by first | exact .inl rfl | exact .inr (.inl rfl) | exact .inr (.inr rfl)))) (ss_nil')))))
theorem sc__law_is_bad : FnScope ["tape", "many", "deeds_here", "odd", "bad", "none", "at", "wrong", "bent"] ["tape", "many", "deeds_here"] (defScope (top 39)) := C8.fnScope_by (by decide +kernel)
theorem ok__law_is_bad {G : Gx} (T : Tx G) : FnF G 8 "_law_is_bad" ["tape", "many", "deeds_here"] sem__law_is_bad := by
  obtain ⟨cc, P, h, TB, HM, HU⟩ := T.l__law_is_bad
  refine fnDL (N := ["tape", "many", "deeds_here", "odd", "bad", "none", "at", "wrong", "bent"]) (k := 7) (mb := m__law_is_bad) h sc__law_is_bad (fun _ _ _ _ _ _ us hl => match us, hl with | [_, _, _], _ => rfl) fun f Ar outer s H E C => ?_
  exact ss_cons (s_set 3 C.nd rfl (by first | exact .inl rfl | exact .inr rfl) (x_call C (ok__law_any T) (by decide) (noPk_semD _ _) rfl (l_cons (x_nm 0 rfl (by first | exact .inl rfl | exact .inr (.inl rfl) | exact .inr (.inr rfl))) (l_cons (x_lst (l_cons (x_neg (x_int)) (l_cons (x_int) (l_cons (x_non) (l_cons (x_bl) (l_cons (x_str) (l_cons (x_tup (l_cons (x_int) (l_nil))) (l_cons (x_lst (l_cons (x_int) (l_nil))) (l_cons (x_dct0) (l_nil)))))))))) (l_nil))))) (ss_frz 3 (ss_cons (s_if (t_cmp (v_ne3 (C.eK) C.u64) (x_lamcall (j := 5) C (ok__law_word T _) (by decide) rfl TB rfl HM HU (LamX.lamS_by (by rfl)) rfl (fun _ _ _ _ _ => rfl) (fun _ _ _ _ _ _ _ CL => by exact x_new CL (ok_new_Net T) (by decide) semI_fr rfl (l_cons (x_nm 3 rfl (by first | exact .inl rfl | exact .inr (.inl rfl) | exact .inr (.inr rfl))) (l_cons (x_non) (l_nil))))) (x_tup (l_cons (x_str) (l_cons (x_str) (l_nil)))) (nomark _)) (ss_one (s_ret (x_bl))) (ss_nil)) (ss_cons (s_set 4 C.nd rfl (by first | exact .inl rfl | exact .inr rfl) (x_call C (ok__law_any T) (by decide) (noPk_semD _ _) rfl (l_cons (x_nm 0 rfl (by first | exact .inl rfl | exact .inr (.inl rfl) | exact .inr (.inr rfl))) (l_cons (x_lst (l_cons (x_non) (l_cons (x_int) (l_cons (x_ty (v_list (C.eK)) rfl T.b_list bt_list (l_cons (x_nm 2 rfl (by first | exact .inl rfl | exact .inr (.inl rfl) | exact .inr (.inr rfl))) (l_nil))) (l_cons (x_dct0) (l_cons (x_str) (l_cons (x_bin (v_mul3 (C.eK)) (x_tup (l_cons (x_tup (l_cons (x_bin (v_mul3 (C.eK)) (x_tup (l_cons (x_int) (l_nil))) (x_nm 1 rfl (by first | exact .inl rfl | exact .inr (.inl rfl) | exact .inr (.inr rfl)))) (l_cons (x_bin (v_mul3 (C.eK)) (x_tup (l_cons (x_int) (l_nil))) (x_nm 1 rfl (by first | exact .inl rfl | exact .inr (.inl rfl) | exact .inr (.inr rfl)))) (l_nil)))) (l_nil))) (x_int)) (l_nil)))))))) (l_nil))))) (ss_frz 4 (ss_cons (s_if (t_cmp (v_ne3 (C.eK) C.u64) (x_lamcall (j := 5) C (ok__law_word T _) (by decide) rfl TB rfl HM HU (LamX.lamS_by (by rfl)) rfl (fun _ _ _ _ _ => rfl) (fun _ _ _ _ _ _ _ CL => by exact x_new CL (ok_new_Net T) (by decide) semI_fr rfl (l_cons (x_nm 1 rfl (by first | exact .inl rfl | exact .inr (.inl rfl) | exact .inr (.inr rfl))) (l_cons (x_nm 4 rfl (by first | exact .inl rfl | exact .inr (.inl rfl) | exact .inr (.inr rfl))) (l_nil))))) (x_tup (l_cons (x_str) (l_cons (x_str) (l_nil)))) (nomark _)) (ss_one (s_ret (x_bl))) (ss_nil)) (ss_cons (s_set 5 C.nd rfl (by first | exact .inl rfl | exact .inr rfl) (x_lst (l_cons (x_non) (l_cons (x_tup (l_nil)) (l_cons (x_tup (l_cons (x_bin (v_mul3 (C.eK)) (x_tup (l_cons (x_int) (l_nil))) (x_nm 1 rfl (by first | exact .inl rfl | exact .inr (.inl rfl) | exact .inr (.inr rfl)))) (l_nil))) (l_cons (x_lst (l_cons (x_bin (v_mul3 (C.eK)) (x_tup (l_cons (x_int) (l_nil))) (x_nm 1 rfl (by first | exact .inl rfl | exact .inr (.inl rfl) | exact .inr (.inr rfl)))) (l_cons (x_bin (v_mul3 (C.eK)) (x_tup (l_cons (x_int) (l_nil))) (x_nm 1 rfl (by first | exact .inl rfl | exact .inr (.inl rfl) | exact .inr (.inr rfl)))) (l_nil)))) (l_cons (x_tup (l_cons (x_bin (v_mul3 (C.eK)) (x_tup (l_cons (x_int) (l_nil))) (x_nm 1 rfl (by first | exact .inl rfl | exact .inr (.inl rfl) | exact .inr (.inr rfl)))) (l_cons (x_bin (v_mul3 (C.eK)) (x_lst (l_cons (x_int) (l_nil))) (x_nm 1 rfl (by first | exact .inl rfl | exact .inr (.inl rfl) | exact .inr (.inr rfl)))) (l_nil)))) (l_nil)))))))) (ss_cons (s_set 5 C.nd rfl (by first | exact .inl rfl | exact .inr rfl) (x_bin (v_add (C.eK)) (x_nm 5 rfl (by first | exact .inl rfl | exact .inr (.inl rfl) | exact .inr (.inr rfl))) (x_lst (l_cons (x_tup (l_cons (x_bin (v_mul3 (C.eK)) (x_tup (l_cons (x_int) (l_nil))) (x_nm 1 rfl (by first | exact .inl rfl | exact .inr (.inl rfl) | exact .inr (.inr rfl)))) (l_cons (x_bin (v_mul3 (C.eK)) (x_tup (l_cons (x_int) (l_nil))) (x_bin (v_add (C.eK)) (x_nm 1 rfl (by first | exact .inl rfl | exact .inr (.inl rfl) | exact .inr (.inr rfl))) (x_int))) (l_nil)))) (l_cons (x_int) (l_nil)))))) (ss_cons (s_if (t_cmp (v_gt) (x_nm 1 rfl (by first | exact .inl rfl | exact .inr (.inl rfl) | exact .inr (.inr rfl))) (x_int) (nomark _)) (ss_cons (s_set 5 C.nd rfl (by first | exact .inl rfl | exact .inr rfl) (x_bin (v_add (C.eK)) (x_nm 5 rfl (by first | exact .inl rfl | exact .inr (.inl rfl) | exact .inr (.inr rfl))) (x_lst (l_cons (x_tup (l_cons (x_bin (v_mul3 (C.eK)) (x_tup (l_cons (x_int) (l_nil))) (x_nm 1 rfl (by first | exact .inl rfl | exact .inr (.inl rfl) | exact .inr (.inr rfl)))) (l_cons (x_bin (v_mul3 (C.eK)) (x_tup (l_cons (x_int) (l_nil))) (x_nm 1 rfl (by first | exact .inl rfl | exact .inr (.inl rfl) | exact .inr (.inr rfl)))) (l_nil)))) (l_cons (x_tup (l_cons (x_bin (v_mul3 (C.eK)) (x_tup (l_cons (x_int) (l_nil))) (x_nm 1 rfl (by first | exact .inl rfl | exact .inr (.inl rfl) | exact .inr (.inr rfl)))) (l_cons (x_bin (v_mul3 (C.eK)) (x_tup (l_cons (x_neg (x_int)) (l_nil))) (x_nm 1 rfl (by first | exact .inl rfl | exact .inr (.inl rfl) | exact .inr (.inr rfl)))) (l_nil)))) (l_cons (x_tup (l_cons (x_bin (v_mul3 (C.eK)) (x_tup (l_cons (x_bl) (l_nil))) (x_nm 1 rfl (by first | exact .inl rfl | exact .inr (.inl rfl) | exact .inr (.inr rfl)))) (l_cons (x_bin (v_mul3 (C.eK)) (x_tup (l_cons (x_int) (l_nil))) (x_nm 1 rfl (by first | exact .inl rfl | exact .inr (.inl rfl) | exact .inr (.inr rfl)))) (l_nil)))) (l_nil))))))) (ss_one (s_append 5 rfl (by first | exact .inl rfl | exact .inr (.inl rfl) | exact .inr (.inr rfl)) (x_tup (l_cons (x_bin (v_mul3 (C.eK)) (x_tup (l_cons (x_int) (l_nil))) (x_nm 1 rfl (by first | exact .inl rfl | exact .inr (.inl rfl) | exact .inr (.inr rfl)))) (l_cons (x_bin (v_mul3 (C.eK)) (x_tup (l_cons (x_str) (l_nil))) (x_nm 1 rfl (by first | exact .inl rfl | exact .inr (.inl rfl) | exact .inr (.inr rfl)))) (l_nil))))))) (ss_nil)) (ss_cons (s_par 6 7 rfl C.nd rfl rfl (by decide) rfl rfl (k_cons (x_call C (ok__law_pick T) (by decide) (noPk_semD _ _) rfl (l_cons (x_nm 0 rfl (by first | exact .inl rfl | exact .inr (.inl rfl) | exact .inr (.inr rfl))) (l_cons (x_bin (v_add (C.eK)) (x_b (v_len (C.eK)) rfl T.b_len bt_len (l_cons (x_nm 2 rfl (by first | exact .inl rfl | exact .inr (.inl rfl) | exact .inr (.inr rfl))) (l_nil))) (x_int)) (l_nil)))) (k_cons (x_call C (ok__law_any T) (by decide) (noPk_semD _ _) rfl (l_cons (x_nm 0 rfl (by first | exact .inl rfl | exact .inr (.inl rfl) | exact .inr (.inr rfl))) (l_cons (x_nm 5 rfl (by first | exact .inl rfl | exact .inr (.inl rfl) | exact .inr (.inr rfl))) (l_nil)))) (k_nil)))) (ss_frz 7 (ss_frz 6 (ss_cons (s_set 8 C.nd rfl (by first | exact .inl rfl | exact .inr rfl) (x_bin (v_add (C.eK)) (x_bin (v_add (C.eK)) (x_sl C.eK (x_nm 2 rfl (by first | exact .inl rfl | exact .inr (.inl rfl) | exact .inr (.inr rfl))) (o_none) (o_some (x_nm 6 rfl (by first | exact .inl rfl | exact .inr (.inl rfl) | exact .inr (.inr rfl))))) (x_tup (l_cons (x_nm 7 rfl (by first | exact .inl rfl | exact .inr (.inl rfl) | exact .inr (.inr rfl))) (l_nil)))) (x_sl C.eK (x_nm 2 rfl (by first | exact .inl rfl | exact .inr (.inl rfl) | exact .inr (.inr rfl))) (o_some (x_nm 6 rfl (by first | exact .inl rfl | exact .inr (.inl rfl) | exact .inr (.inr rfl)))) (o_none)))) (ss_frz 8 (ss_one (s_ret (x_cmp (v_eq3 (C.eK) C.u64) (x_lamcall (j := 5) C (ok__law_word T _) (by decide) rfl TB rfl HM HU (LamX.lamS_by (by rfl)) rfl (fun _ _ _ _ _ => rfl) (fun _ _ _ _ _ _ _ CL => by exact x_new CL (ok_new_Net T) (by decide) semI_fr rfl (l_cons (x_nm 1 rfl (by first | exact .inl rfl | exact .inr (.inl rfl) | exact .inr (.inr rfl))) (l_cons (x_bin (v_add (CL.eK)) (x_nm 8 rfl (by first | exact .inl rfl | exact .inr (.inl rfl) | exact .inr (.inr rfl))) (x_tup (l_cons (x_non) (l_nil)))) (l_nil))))) (x_tup (l_cons (x_str) (l_cons (x_nm 6 rfl (by first | exact .inl rfl | exact .inr (.inl rfl) | exact .inr (.inr rfl))) (l_nil)))) (nomark _)))))))))))))))))
theorem sc__law_is_right : FnScope ["tape", "many", "deeds_here", "net", "mark", "due", "at", "none", "bad", "words"] ["tape", "many", "deeds_here"] (defScope (top 41)) := C8.fnScope_by (by decide +kernel)
theorem ok__law_is_right {G : Gx} (T : Tx G) : FnF G 9 "_law_is_right" ["tape", "many", "deeds_here"] sem__law_is_right := by
  obtain ⟨cc, P, h, TB, HM, HU⟩ := T.l__law_is_right
  refine fnDL (N := ["tape", "many", "deeds_here", "net", "mark", "due", "at", "none", "bad", "words"]) (k := 8) (mb := m__law_is_right) h sc__law_is_right (fun _ _ _ _ _ _ us hl => match us, hl with | [_, _, _], _ => rfl) fun f Ar outer s H E C => ?_
  exact ss_cons (s_parT [3, 4] C.eK rfl (n_cons 3 C.nd rfl (by first | exact .inl rfl | exact .inr rfl) (n_cons 4 C.nd rfl (by first | exact .inl rfl | exact .inr rfl) (n_nil))) (k_cons (x_new C (ok_new_Net T) (by decide) semI_fr rfl (l_cons (x_nm 1 rfl (by first | exact .inl rfl | exact .inr (.inl rfl) | exact .inr (.inr rfl))) (l_cons (x_nm 2 rfl (by first | exact .inl rfl | exact .inr (.inl rfl) | exact .inr (.inr rfl))) (l_nil)))) (k_cons (x_call C (ok__law_mark T) (by decide) (noPk_semD _ _) rfl (l_cons (x_nm 0 rfl (by first | exact .inl rfl | exact .inr (.inl rfl) | exact .inr (.inr rfl))) (l_cons (x_nm 1 rfl (by first | exact .inl rfl | exact .inr (.inl rfl) | exact .inr (.inr rfl))) (l_cons (x_int) (l_nil))))) (k_nil)))) (ss_frz 4 (ss_frz 3 (ss_cons (s_if (t_w (t_or (t_cmp (v_ne3 (C.eK) C.u64) (x_b (v_repr C) rfl T.b_repr bt_repr (l_cons (x_lst (l_cons (x_fld C.eK T.isi (T.h_places) (x_nm 3 rfl (by first | exact .inl rfl | exact .inr (.inl rfl) | exact .inr (.inr rfl)))) (l_cons (x_fld C.eK T.isi (T.h_deeds) (x_nm 3 rfl (by first | exact .inl rfl | exact .inr (.inl rfl) | exact .inr (.inr rfl)))) (l_nil)))) (l_nil))) (x_b (v_repr C) rfl T.b_repr bt_repr (l_cons (x_lst (l_cons (x_nm 1 rfl (by first | exact .inl rfl | exact .inr (.inl rfl) | exact .inr (.inr rfl))) (l_cons (x_nm 2 rfl (by first | exact .inl rfl | exact .inr (.inl rfl) | exact .inr (.inr rfl))) (l_nil)))) (l_nil))) (nomark _)) (t_or1 (t_neO C (ok_eq_Net T) (by decide) (x_nm 3 rfl (by first | exact .inl rfl | exact .inr (.inl rfl) | exact .inr (.inr rfl))) (x_new C (ok_new_Net T) (by decide) semI_fr rfl (l_cons (x_nm 1 rfl (by first | exact .inl rfl | exact .inr (.inl rfl) | exact .inr (.inr rfl))) (l_cons (x_nm 2 rfl (by first | exact .inl rfl | exact .inr (.inl rfl) | exact .inr (.inr rfl))) (l_nil)))))))) (ss_one (s_ret (x_bl))) (ss_nil)) (ss_cons (s_if (t_w (t_or (t_eqO C (ok_eq_Net T) (by decide) (x_nm 3 rfl (by first | exact .inl rfl | exact .inr (.inl rfl) | exact .inr (.inr rfl))) (x_new C (ok_new_Net T) (by decide) semI_fr rfl (l_cons (x_nm 1 rfl (by first | exact .inl rfl | exact .inr (.inl rfl) | exact .inr (.inr rfl))) (l_cons (x_bin (v_add (C.eK)) (x_nm 2 rfl (by first | exact .inl rfl | exact .inr (.inl rfl) | exact .inr (.inr rfl))) (x_tup (l_cons (x_tup (l_cons (x_bin (v_mul3 (C.eK)) (x_tup (l_cons (x_int) (l_nil))) (x_nm 1 rfl (by first | exact .inl rfl | exact .inr (.inl rfl) | exact .inr (.inr rfl)))) (l_cons (x_bin (v_mul3 (C.eK)) (x_tup (l_cons (x_int) (l_nil))) (x_nm 1 rfl (by first | exact .inl rfl | exact .inr (.inl rfl) | exact .inr (.inr rfl)))) (l_nil)))) (l_nil)))) (l_nil))))) (t_or1 (t_eqO C (ok_eq_Net T) (by decide) (x_nm 3 rfl (by first | exact .inl rfl | exact .inr (.inl rfl) | exact .inr (.inr rfl))) (x_new C (ok_new_Net T) (by decide) semI_fr rfl (l_cons (x_bin (v_add (C.eK)) (x_nm 1 rfl (by first | exact .inl rfl | exact .inr (.inl rfl) | exact .inr (.inr rfl))) (x_int)) (l_cons (x_tup (l_nil)) (l_nil)))))))) (ss_one (s_ret (x_bl))) (ss_nil)) (ss_cons (s_if (t_eqT C (ok_eq_Net T) (by decide) T.sn_Net (x_nm 3 rfl (by first | exact .inl rfl | exact .inr (.inl rfl) | exact .inr (.inr rfl))) (x_tup (l_cons (x_nm 1 rfl (by first | exact .inl rfl | exact .inr (.inl rfl) | exact .inr (.inr rfl))) (l_cons (x_nm 2 rfl (by first | exact .inl rfl | exact .inr (.inl rfl) | exact .inr (.inr rfl))) (l_nil))))) (ss_one (s_ret (x_bl))) (ss_nil)) (ss_cons (s_set 5 C.nd rfl (by first | exact .inl rfl | exact .inr rfl) (x_call C (ok__law_ready T) (by decide) (noPk_semD _ _) rfl (l_cons (x_nm 2 rfl (by first | exact .inl rfl | exact .inr (.inl rfl) | exact .inr (.inr rfl))) (l_cons (x_nm 4 rfl (by first | exact .inl rfl | exact .inr (.inl rfl) | exact .inr (.inr rfl))) (l_nil))))) (ss_frz 5 (ss_cons (s_if (t_cmp (v_ne3 (C.eK) C.u64) (x_b (v_repr C) rfl T.b_repr bt_repr (l_cons (x_call C (ok_ready T) (by decide) (noPk_semD _ _) rfl (l_cons (x_nm 3 rfl (by first | exact .inl rfl | exact .inr (.inl rfl) | exact .inr (.inr rfl))) (l_cons (x_nm 4 rfl (by first | exact .inl rfl | exact .inr (.inl rfl) | exact .inr (.inr rfl))) (l_nil)))) (l_nil))) (x_b (v_repr C) rfl T.b_repr bt_repr (l_cons (x_nm 5 rfl (by first | exact .inl rfl | exact .inr (.inl rfl) | exact .inr (.inr rfl))) (l_nil))) (nomark _)) (ss_one (s_ret (x_bl))) (ss_nil)) (ss_cons (s_for (passes_of rfl) rfl (by exact i_range1 rfl T.b_range (by exact l_cons (x_b (v_len (C.eK)) rfl T.b_len bt_len (l_cons (x_nm 2 rfl (by first | exact .inl rfl | exact .inr (.inl rfl) | exact .inr (.inr rfl))) (l_nil))) (l_nil))) (by exact p_nm 6 C.nd rfl (by first | exact .inl rfl | exact .inr rfl)) (by exact ss_one (s_if (t_cmp (v_in3 (C.eK) C.u65) (x_nm 6 rfl (by first | exact .inl rfl | exact .inr (.inl rfl) | exact .inr (.inr rfl))) (x_nm 5 rfl (by first | exact .inl rfl | exact .inr (.inl rfl) | exact .inr (.inr rfl))) (by with_unfolding_all rfl)) (ss_one (s_if (t_cmp (v_ne3 (C.eK) C.u64) (x_b (v_repr C) rfl T.b_repr bt_repr (l_cons (x_call C (ok_done T) (by decide) (noPk_semD _ _) rfl (l_cons (x_nm 3 rfl (by first | exact .inl rfl | exact .inr (.inl rfl) | exact .inr (.inr rfl))) (l_cons (x_nm 4 rfl (by first | exact .inl rfl | exact .inr (.inl rfl) | exact .inr (.inr rfl))) (l_cons (x_nm 6 rfl (by first | exact .inl rfl | exact .inr (.inl rfl) | exact .inr (.inr rfl))) (l_nil))))) (l_nil))) (x_b (v_repr C) rfl T.b_repr bt_repr (l_cons (x_call C (ok__law_behind T) (by decide) (noPk_semD _ _) rfl (l_cons (x_nm 2 rfl (by first | exact .inl rfl | exact .inr (.inl rfl) | exact .inr (.inr rfl))) (l_cons (x_nm 4 rfl (by first | exact .inl rfl | exact .inr (.inl rfl) | exact .inr (.inr rfl))) (l_cons (x_nm 6 rfl (by first | exact .inl rfl | exact .inr (.inl rfl) | exact .inr (.inr rfl))) (l_nil))))) (l_nil))) (nomark _)) (ss_one (s_ret (x_bl))) (ss_nil))) (ss_one (s_if (t_cmp (v_ne3 (C.eK) C.u64) (x_lamcall (j := 5) C (ok__law_word T _) (by decide) rfl TB rfl HM HU (LamX.lamS_by (by rfl)) rfl (fun _ _ _ _ _ => rfl) (fun _ _ _ _ _ _ _ CL => by exact x_call CL (ok_done T) (by decide) (noPk_semD _ _) rfl (l_cons (x_nm 3 rfl (by first | exact .inl rfl | exact .inr (.inl rfl) | exact .inr (.inr rfl))) (l_cons (x_nm 4 rfl (by first | exact .inl rfl | exact .inr (.inl rfl) | exact .inr (.inr rfl))) (l_cons (x_nm 6 rfl (by first | exact .inl rfl | exact .inr (.inl rfl) | exact .inr (.inr rfl))) (l_nil)))))) (x_tup (l_cons (x_str) (l_cons (x_nm 6 rfl (by first | exact .inl rfl | exact .inr (.inl rfl) | exact .inr (.inr rfl))) (l_nil)))) (nomark _)) (ss_one (s_ret (x_bl))) (ss_nil)))))) (ss_cons (s_parT [7, 8] C.eK rfl (n_cons 7 C.nd rfl (by first | exact .inl rfl | exact .inr rfl) (n_cons 8 C.nd rfl (by first | exact .inl rfl | exact .inr rfl) (n_nil))) (k_cons (x_call C (ok__law_no_mark T) (by decide) (noPk_semD _ _) rfl (l_cons (x_nm 0 rfl (by first | exact .inl rfl | exact .inr (.inl rfl) | exact .inr (.inr rfl))) (l_cons (x_nm 1 rfl (by first | exact .inl rfl | exact .inr (.inl rfl) | exact .inr (.inr rfl))) (l_nil)))) (k_cons (x_call C (ok__law_any T) (by decide) (noPk_semD _ _) rfl (l_cons (x_nm 0 rfl (by first | exact .inl rfl | exact .inr (.inl rfl) | exact .inr (.inr rfl))) (l_cons (x_lst (l_cons (x_b (v_len (C.eK)) rfl T.b_len bt_len (l_cons (x_nm 2 rfl (by first | exact .inl rfl | exact .inr (.inl rfl) | exact .inr (.inr rfl))) (l_nil))) (l_cons (x_neg (x_int)) (l_cons (x_non) (l_cons (x_bl) (l_cons (x_str) (l_cons (x_tup (l_cons (x_int) (l_nil))) (l_cons (x_dct0) (l_nil))))))))) (l_nil)))) (k_nil)))) (ss_frz 8 (ss_frz 7 (ss_cons (s_set 9 C.nd rfl (by first | exact .inl rfl | exact .inr rfl) (x_lst (l_cons (x_lamcall (j := 5) C (ok__law_word T _) (by decide) rfl TB rfl HM HU (LamX.lamS_by (by rfl)) rfl (fun _ _ _ _ _ => rfl) (fun _ _ _ _ _ _ _ CL => by exact x_call CL (ok_ready T) (by decide) (noPk_semD _ _) rfl (l_cons (x_nm 3 rfl (by first | exact .inl rfl | exact .inr (.inl rfl) | exact .inr (.inr rfl))) (l_cons (x_nm 7 rfl (by first | exact .inl rfl | exact .inr (.inl rfl) | exact .inr (.inr rfl))) (l_nil))))) (l_cons (x_call C (ok__law_word_of T) (by decide) (noPk_semD _ _) rfl (l_cons (x_nm 3 rfl (by first | exact .inl rfl | exact .inr (.inl rfl) | exact .inr (.inr rfl))) (l_cons (x_nm 7 rfl (by first | exact .inl rfl | exact .inr (.inl rfl) | exact .inr (.inr rfl))) (l_cons (x_nm 8 rfl (by first | exact .inl rfl | exact .inr (.inl rfl) | exact .inr (.inr rfl))) (l_nil))))) (l_cons (x_call C (ok__law_word_of T) (by decide) (noPk_semD _ _) rfl (l_cons (x_nm 3 rfl (by first | exact .inl rfl | exact .inr (.inl rfl) | exact .inr (.inr rfl))) (l_cons (x_nm 4 rfl (by first | exact .inl rfl | exact .inr (.inl rfl) | exact .inr (.inr rfl))) (l_cons (x_nm 8 rfl (by first | exact .inl rfl | exact .inr (.inl rfl) | exact .inr (.inr rfl))) (l_nil))))) (l_nil)))))) (ss_frz 9 (ss_one (s_ret (x_and (x_cmp (v_eq3 (C.eK) C.u64) (x_nm 9 rfl (by first | exact .inl rfl | exact .inr (.inl rfl) | exact .inr (.inr rfl))) (x_lst (l_cons (x_str) (l_cons (x_str) (l_cons (x_str) (l_nil))))) (nomark _)) (x_one (x_call C (ok__law_is_judged T) (by decide) (noPk_semD _ _) rfl (l_cons (x_nm 0 rfl (by first | exact .inl rfl | exact .inr (.inl rfl) | exact .inr (.inr rfl))) (l_cons (x_nm 3 rfl (by first | exact .inl rfl | exact .inr (.inl rfl) | exact .inr (.inr rfl))) (l_cons (x_nm 1 rfl (by first | exact .inl rfl | exact .inr (.inl rfl) | exact .inr (.inr rfl))) (l_cons (x_nm 2 rfl (by first | exact .inl rfl | exact .inr (.inl rfl) | exact .inr (.inr rfl))) (l_cons (x_nm 4 rfl (by first | exact .inl rfl | exact .inr (.inl rfl) | exact .inr (.inr rfl))) (l_nil)))))))))))))))))))))))))
theorem st_law_0 {G : Gx} {f cc P : Addr} {Ar : Around} {outer : List Env} {s : Shared} {H : Hp} {E : XK} (C : Cw G 9 (cxG G ["script", "tape", "net", "turn", "many", "deeds_here"] "law" (defScope (top 43)) f (.ref cc) Ar outer s H E)) (T : Tx G) (TB : LamX.TabB G.base G.mg cc P) (HM : (P, ("law" ++ ".<locals>." ++ "<lambda>" : Str)) ∈ G.tb) (HU : ∀ p ∈ G.tb, p.1 = P → p.2 = ("law" ++ ".<locals>." ++ "<lambda>" : Str)) : EvS G (cxG G ["script", "tape", "net", "turn", "many", "deeds_here"] "law" (defScope (top 43)) f (.ref cc) Ar outer s H E) (nth (defBody (top 43)).tail 0) m_law_0 := by
  exact s_set 2 C.nd rfl (by first | exact .inl rfl | exact .inr rfl) (x_new C (ok_new_Net T) (by decide) semI_fr rfl (l_cons (x_int) (l_cons (x_tup (l_cons (x_tup (l_cons (x_tup (l_cons (x_int) (l_cons (x_int) (l_nil)))) (l_cons (x_tup (l_cons (x_int) (l_cons (x_int) (l_nil)))) (l_nil)))) (l_cons (x_tup (l_cons (x_tup (l_cons (x_int) (l_cons (x_int) (l_nil)))) (l_cons (x_tup (l_cons (x_int) (l_cons (x_int) (l_nil)))) (l_nil)))) (l_nil)))) (l_nil))))
theorem st_law_1 {G : Gx} {f cc P : Addr} {Ar : Around} {outer : List Env} {s : Shared} {H : Hp} {E : XK} (C : Cw G 9 (cxG G ["script", "tape", "net", "turn", "many", "deeds_here"] "law" (defScope (top 43)) f (.ref cc) Ar outer s H E)) (T : Tx G) (TB : LamX.TabB G.base G.mg cc P) (HM : (P, ("law" ++ ".<locals>." ++ "<lambda>" : Str)) ∈ G.tb) (HU : ∀ p ∈ G.tb, p.1 = P → p.2 = ("law" ++ ".<locals>." ++ "<lambda>" : Str)) : EvS G (cxG G ["script", "tape", "net", "turn", "many", "deeds_here"] "law" (defScope (top 43)) f (.ref cc) Ar outer s H E) (nth (defBody (top 43)).tail 1) m_law_1 := by
  exact s_if (t_w (t_or (t_cmp (v_ne3 (C.eK) C.u64) (x_call C (ok_ready T) (by decide) (noPk_semD _ _) rfl (l_cons (x_nm 2 rfl (by first | exact .inl rfl | exact .inr (.inl rfl) | exact .inr (.inr rfl))) (l_cons (x_tup (l_cons (x_int) (l_cons (x_int) (l_nil)))) (l_nil)))) (x_lst (l_cons (x_int) (l_nil))) (nomark _)) (t_or (t_cmp (v_ne3 (C.eK) C.u64) (x_call C (ok_done T) (by decide) (noPk_semD _ _) rfl (l_cons (x_nm 2 rfl (by first | exact .inl rfl | exact .inr (.inl rfl) | exact .inr (.inr rfl))) (l_cons (x_tup (l_cons (x_int) (l_cons (x_int) (l_nil)))) (l_cons (x_int) (l_nil))))) (x_tup (l_cons (x_int) (l_cons (x_int) (l_nil)))) (nomark _)) (t_or1 (t_cmp (v_ne3 (C.eK) C.u64) (x_call C (ok__law_word_of T) (by decide) (noPk_semD _ _) rfl (l_cons (x_nm 2 rfl (by first | exact .inl rfl | exact .inr (.inl rfl) | exact .inr (.inr rfl))) (l_cons (x_tup (l_cons (x_bin (v_pow) (x_int) (x_int)) (l_cons (x_int) (l_nil)))) (l_cons (x_int) (l_nil))))) (x_str) (nomark _)))))) (ss_one (s_ret (x_bl))) (ss_nil)
theorem st_law_2 {G : Gx} {f cc P : Addr} {Ar : Around} {outer : List Env} {s : Shared} {H : Hp} {E : XK} (C : Cw G 9 (cxG G ["script", "tape", "net", "turn", "many", "deeds_here"] "law" (defScope (top 43)) f (.ref cc) Ar outer s H E)) (T : Tx G) (TB : LamX.TabB G.base G.mg cc P) (HM : (P, ("law" ++ ".<locals>." ++ "<lambda>" : Str)) ∈ G.tb) (HU : ∀ p ∈ G.tb, p.1 = P → p.2 = ("law" ++ ".<locals>." ++ "<lambda>" : Str)) : EvS G (cxG G ["script", "tape", "net", "turn", "many", "deeds_here"] "law" (defScope (top 43)) f (.ref cc) Ar outer s H E) (nth (forB (nth (defBody (top 43)).tail 2)) 0) m_law_2 := by
  exact s_set 4 C.nd rfl (by first | exact .inl rfl | exact .inr rfl) (x_call C (ok__law_pick T) (by decide) (noPk_semD _ _) rfl (l_cons (x_nm 1 rfl (by first | exact .inl rfl | exact .inr (.inl rfl) | exact .inr (.inr rfl))) (l_cons (x_int) (l_nil))))
theorem st_law_3 {G : Gx} {f cc P : Addr} {Ar : Around} {outer : List Env} {s : Shared} {H : Hp} {E : XK} (C : Cw G 9 (cxG G ["script", "tape", "net", "turn", "many", "deeds_here"] "law" (defScope (top 43)) f (.ref cc) Ar outer s H E)) (T : Tx G) (TB : LamX.TabB G.base G.mg cc P) (HM : (P, ("law" ++ ".<locals>." ++ "<lambda>" : Str)) ∈ G.tb) (HU : ∀ p ∈ G.tb, p.1 = P → p.2 = ("law" ++ ".<locals>." ++ "<lambda>" : Str)) : EvS G (cxG G ["script", "tape", "net", "turn", "many", "deeds_here"] "law" (defScope (top 43)) f (.ref cc) Ar outer s H E) (nth (forB (nth (defBody (top 43)).tail 2)) 1) m_law_3 := by
  exact s_set 5 C.nd rfl (by first | exact .inl rfl | exact .inr rfl) (x_call C (ok__law_deeds T) (by decide) (noPk_semD _ _) rfl (l_cons (x_nm 1 rfl (by first | exact .inl rfl | exact .inr (.inl rfl) | exact .inr (.inr rfl))) (l_cons (x_nm 4 rfl (by first | exact .inl rfl | exact .inr (.inl rfl) | exact .inr (.inr rfl))) (l_cons (x_bl) (l_nil)))))
theorem st_law_4 {G : Gx} {f cc P : Addr} {Ar : Around} {outer : List Env} {s : Shared} {H : Hp} {E : XK} (C : Cw G 9 (cxG G ["script", "tape", "net", "turn", "many", "deeds_here"] "law" (defScope (top 43)) f (.ref cc) Ar outer s H E)) (T : Tx G) (TB : LamX.TabB G.base G.mg cc P) (HM : (P, ("law" ++ ".<locals>." ++ "<lambda>" : Str)) ∈ G.tb) (HU : ∀ p ∈ G.tb, p.1 = P → p.2 = ("law" ++ ".<locals>." ++ "<lambda>" : Str)) : EvS G (cxG G ["script", "tape", "net", "turn", "many", "deeds_here"] "law" (defScope (top 43)) f (.ref cc) Ar outer s H E) (nth (forB (nth (defBody (top 43)).tail 2)) 2) m_law_4 := by
  exact s_if (t_w (t_or (t_not (t_truth (x_call C (ok__law_is_right T) (by decide) (noPk_semD _ _) rfl (l_cons (x_nm 1 rfl (by first | exact .inl rfl | exact .inr (.inl rfl) | exact .inr (.inr rfl))) (l_cons (x_nm 4 rfl (by first | exact .inl rfl | exact .inr (.inl rfl) | exact .inr (.inr rfl))) (l_cons (x_nm 5 rfl (by first | exact .inl rfl | exact .inr (.inl rfl) | exact .inr (.inr rfl))) (l_nil))))) C.eK)) (t_or1 (t_not (t_truth (x_call C (ok__law_is_bad T) (by decide) (noPk_semD _ _) rfl (l_cons (x_nm 1 rfl (by first | exact .inl rfl | exact .inr (.inl rfl) | exact .inr (.inr rfl))) (l_cons (x_nm 4 rfl (by first | exact .inl rfl | exact .inr (.inl rfl) | exact .inr (.inr rfl))) (l_cons (x_nm 5 rfl (by first | exact .inl rfl | exact .inr (.inl rfl) | exact .inr (.inr rfl))) (l_nil))))) C.eK))))) (ss_one (s_ret (x_bl))) (ss_nil)
theorem st_law_5 {G : Gx} {f cc P : Addr} {Ar : Around} {outer : List Env} {s : Shared} {H : Hp} {E : XK} (C : Cw G 9 (cxG G ["script", "tape", "net", "turn", "many", "deeds_here"] "law" (defScope (top 43)) f (.ref cc) Ar outer s H E)) (T : Tx G) (TB : LamX.TabB G.base G.mg cc P) (HM : (P, ("law" ++ ".<locals>." ++ "<lambda>" : Str)) ∈ G.tb) (HU : ∀ p ∈ G.tb, p.1 = P → p.2 = ("law" ++ ".<locals>." ++ "<lambda>" : Str)) : EvS G (cxG G ["script", "tape", "net", "turn", "many", "deeds_here"] "law" (defScope (top 43)) f (.ref cc) Ar outer s H E) (nth (defBody (top 43)).tail 3) m_law_5 := by
  exact s_ret (x_bl)
theorem sc_law : FnScope ["script", "tape", "net", "turn", "many", "deeds_here"] ["script"] (defScope (top 43)) := C8.fnScope_by (by decide +kernel)
theorem ok_law {G : Gx} (T0 : Tx G.off) (T1 : ∀ a, Tx (G.on a)) {f cc P : Addr} {fd : FuncData} {ok : List Int → Prop} (F : FunD G.K "law" "law" (defArgs (top 43)) (defBody (top 43)) (defScope (top 43)) [] [] f fd) (hcc : fd.code = .ref cc) (nT : ∀ p ∈ G.tb, G.K.lookup p.1 = none) (TB : LamX.TabB G.base G.mg cc P) (HM : (P, ("law" ++ ".<locals>." ++ "<lambda>" : Str)) ∈ G.tb) (HU : ∀ p ∈ G.tb, p.1 = P → p.2 = ("law" ++ ".<locals>." ++ "<lambda>" : Str))
    (law : ∀ ns, ok ns → LawM 4 m0_law m_law ns) : FnOkG G.P G.w G.K G.mg G.base (L2.CX G.P G.w) 10 f fd ["script"] (spL G ok) := by
  refine law_fn (N := ["script", "tape", "net", "turn", "many", "deeds_here"]) (k := 9) (m0 := m0_law) (m := m_law) (n := 4) F hcc sc_law rfl nT (fun Ar outer s H E C => ?_) (fun a Ar outer s H E C => ?_) law
  · have T := T0
    exact s_set 1 C.nd rfl (by first | exact .inl rfl | exact .inr rfl) (x_call C (ok__law_tape T) (by decide) (noPk_semD _ _) rfl (l_cons (x_nm 0 rfl (by first | exact .inl rfl | exact .inr (.inl rfl) | exact .inr (.inr rfl))) (l_nil)))
  · have T := T1 a
    exact ss_cons (st_law_0 C T TB HM HU) (ss_frz 2 (ss_cons (st_law_1 C T TB HM HU) (ss_cons (s_for (passes_of rfl) rfl (by exact i_range1 rfl T.b_range (by exact l_cons (x_int) (l_nil))) (by exact p_nm 3 C.nd rfl (by first | exact .inl rfl | exact .inr rfl)) (by exact ss_cons (st_law_2 C T TB HM HU) (ss_frz 4 (ss_cons (st_law_3 C T TB HM HU) (ss_frz 5 (ss_one (st_law_4 C T TB HM HU))))))) (ss_one (st_law_5 C T TB HM HU)))))
end K01

set_option maxHeartbeats 2000000
/-! PXa: the mirrors by simp: equations of what they are, loops and comprehensions by what holds of them. -/
namespace PV
open PySem L2

theorem nrfl {α : Sort u} {a b : α} (h : a = b) : a = b := h
def nl : Option (D × Fl) → Bool
  | some (_, .lck) => false
  | _ => true
@[simp] theorem nl_none : nl none = true := nrfl rfl
@[simp] theorem nl_frz (d : D) : nl (some (d, .frz)) = true := nrfl rfl
@[simp] theorem nl_own (d : D) : nl (some (d, .own)) = true := nrfl rfl
@[simp] theorem nl_lck (d : D) : nl (some (d, .lck)) = false := nrfl rfl
@[simp] theorem notLck_zero (a : Option (D × Fl)) (S : Slots) : notLck (a :: S) 0 = nl a := by
  match a with
  | none => rfl
  | some (_, .frz) => rfl
  | some (_, .own) => rfl
  | some (_, .lck) => rfl
@[simp] theorem notLck_succ (a : Option (D × Fl)) (S : Slots) (i : Nat) : notLck (a :: S) (i + 1) = notLck S i := nrfl rfl
@[simp] theorem isPk_frz : Kd.isPk .frz = false := nrfl rfl
@[simp] theorem isPk_fr : Kd.isPk .fr = false := nrfl rfl
@[simp] theorem isPk_pk : Kd.isPk .pk = true := nrfl rfl
@[simp] theorem bind_ok (d : D) (k : Kd) (tp : Tp) (f : D → Kd → Tp → Ot) : (Ot.ok d k tp).bind f = f d k tp := nrfl rfl
@[simp] theorem bind_ex (c : Nat) (l : List D) (tp : Tp) (f : D → Kd → Tp → Ot) : (Ot.ex c l tp).bind f = .ex c l tp := nrfl rfl
@[simp] theorem bindL_ok (d : D) (k : Kd) (tp : Tp) (f : D → Kd → Tp → Otl) : (Ot.ok d k tp).bindL f = f d k tp := nrfl rfl
@[simp] theorem bindL_ex (c : Nat) (l : List D) (tp : Tp) (f : D → Kd → Tp → Otl) : (Ot.ex c l tp).bindL f = .ex c l tp := nrfl rfl
@[simp] theorem lbind_ok (ds : List (D × Bool)) (tp : Tp) (f : List (D × Bool) → Tp → Ot) : (Otl.ok ds tp).bind f = f ds tp := nrfl rfl
@[simp] theorem lbind_ex (c : Nat) (l : List D) (tp : Tp) (f : List (D × Bool) → Tp → Ot) : (Otl.ex c l tp).bind f = .ex c l tp := nrfl rfl
@[simp] theorem lbindL_ok (ds : List (D × Bool)) (tp : Tp) (f : List (D × Bool) → Tp → Otl) : (Otl.ok ds tp).bindL f = f ds tp := nrfl rfl
@[simp] theorem lbindL_ex (c : Nat) (l : List D) (tp : Tp) (f : List (D × Bool) → Tp → Otl) : (Otl.ex c l tp).bindL f = .ex c l tp := nrfl rfl
@[simp] theorem ofO_some (d : D) (k : Kd) (tp : Tp) : ofO (some (d, k)) tp = .ok d k tp := nrfl rfl
@[simp] theorem np_frz (d : D) (tp : Tp) : (Ot.ok d .frz tp).np = .ok d .frz tp := nrfl rfl
@[simp] theorem np_fr (d : D) (tp : Tp) : (Ot.ok d .fr tp).np = .ok d .fr tp := nrfl rfl
@[simp] theorem np_ex (c : Nat) (l : List D) (tp : Tp) : (Ot.ex c l tp).np = .ex c l tp := nrfl rfl
/-! #### what each piece does with what came before, by functions of their own (no match is left open in a goal) -/
def slotE : Option (Option (D × Fl)) → Tp → Ot
  | some (some (d, .frz)), tp => .ok d .frz tp
  | some (some (d, _)), tp => .ok d .pk tp
  | _, _ => .bad
@[simp] theorem slotE_frz (d : D) (tp : Tp) : slotE (some (some (d, .frz))) tp = .ok d .frz tp := nrfl rfl
@[simp] theorem slotE_own (d : D) (tp : Tp) : slotE (some (some (d, .own))) tp = .ok d .pk tp := nrfl rfl
@[simp] theorem slotE_lck (d : D) (tp : Tp) : slotE (some (some (d, .lck))) tp = .ok d .pk tp := nrfl rfl
def bin1 (f : F2) (g : Tp → Ot) (d : D) (_ : Kd) (tp1 : Tp) : Ot := (g tp1).bind fun e _ tp2 => ofO (f d e) tp2
@[simp] theorem bin1_eq (f : F2) (g : Tp → Ot) (d : D) (k : Kd) (tp1 : Tp) : bin1 f g d k tp1 = (g tp1).bind fun e _ tp2 => ofO (f d e) tp2 := nrfl rfl
def con1 (g : Tp → Otl) (d : D) (k : Kd) (tp1 : Tp) : Otl := (g tp1).bindL fun ds tp2 => .ok ((d, k.isPk) :: ds) tp2
@[simp] theorem con1_eq (g : Tp → Otl) (d : D) (k : Kd) (tp1 : Tp) : con1 g d k tp1 = (g tp1).bindL fun ds tp2 => .ok ((d, k.isPk) :: ds) tp2 := nrfl rfl
def tupO (ds : List (D × Bool)) (tp1 : Tp) : Ot := if ds.any (·.2) = false then .ok (.tup (ds.map (·.1))) .frz tp1 else .bad
@[simp] theorem tupO_ok {ds : List (D × Bool)} {tp1 : Tp} (h : ds.any (·.2) = false) : tupO ds tp1 = .ok (.tup (ds.map (·.1))) .frz tp1 := if_pos h
def lstO (ds : List (D × Bool)) (tp1 : Tp) : Ot := if ds.any (·.2) = false then .ok (.lst (ds.map (·.1))) .fr tp1 else .bad
@[simp] theorem lstO_ok {ds : List (D × Bool)} {tp1 : Tp} (h : ds.any (·.2) = false) : lstO ds tp1 = .ok (.lst (ds.map (·.1))) .fr tp1 := if_pos h
@[simp] theorem tupO_nil (tp1 : Tp) : tupO [] tp1 = .ok (.tup []) .frz tp1 := nrfl rfl
@[simp] theorem lstO_nil (tp1 : Tp) : lstO [] tp1 = .ok (.lst []) .fr tp1 := nrfl rfl
def truO : D → Kd → Tp → Ot
  | .non, _, tp1 => .ok (.bl false) .frz tp1
  | .bl b, _, tp1 => .ok (.bl b) .frz tp1
  | .int i, _, tp1 => .ok (.bl (i != 0)) .frz tp1
  | .str x, _, tp1 => if x.length ≤ 16777216 then .ok (.bl ((x.length : Int) != 0)) .frz tp1 else .bad
  | .tup l, _, tp1 => .ok (.bl (!l.isEmpty)) .frz tp1
  | .lst l, _, tp1 => .ok (.bl (!l.isEmpty)) .frz tp1
  | .dct ks _, _, tp1 => .ok (.bl (!ks.isEmpty)) .frz tp1
  | _, _, _ => .bad
@[simp] theorem truO_non (k : Kd) (tp1 : Tp) : truO .non k tp1 = .ok (.bl false) .frz tp1 := nrfl rfl
@[simp] theorem truO_bl (b : Bool) (k : Kd) (tp1 : Tp) : truO (.bl b) k tp1 = .ok (.bl b) .frz tp1 := nrfl rfl
@[simp] theorem truO_int (i : Int) (k : Kd) (tp1 : Tp) : truO (.int i) k tp1 = .ok (.bl (i != 0)) .frz tp1 := nrfl rfl
@[simp] theorem truO_tup (l : List D) (k : Kd) (tp1 : Tp) : truO (.tup l) k tp1 = .ok (.bl (!l.isEmpty)) .frz tp1 := nrfl rfl
@[simp] theorem truO_lst (l : List D) (k : Kd) (tp1 : Tp) : truO (.lst l) k tp1 = .ok (.bl (!l.isEmpty)) .frz tp1 := nrfl rfl
@[simp] theorem truO_dct (l l' : List D) (k : Kd) (tp1 : Tp) : truO (.dct l l') k tp1 = .ok (.bl (!l.isEmpty)) .frz tp1 := nrfl rfl
def andO (g : Tp → Ot) : D → Kd → Tp → Ot
  | .bl true, _, tp1 => g tp1
  | .bl false, _, tp1 => .ok (.bl false) .frz tp1
  | _, _, _ => .bad
@[simp] theorem andO_t (g : Tp → Ot) (k : Kd) (tp1 : Tp) : andO g (.bl true) k tp1 = g tp1 := nrfl rfl
@[simp] theorem andO_f (g : Tp → Ot) (k : Kd) (tp1 : Tp) : andO g (.bl false) k tp1 = .ok (.bl false) .frz tp1 := nrfl rfl
def orO (g : Tp → Ot) : D → Kd → Tp → Ot
  | .bl true, _, tp1 => .ok (.bl true) .frz tp1
  | .bl false, _, tp1 => g tp1
  | _, _, _ => .bad
@[simp] theorem orO_t (g : Tp → Ot) (k : Kd) (tp1 : Tp) : orO g (.bl true) k tp1 = .ok (.bl true) .frz tp1 := nrfl rfl
@[simp] theorem orO_f (g : Tp → Ot) (k : Kd) (tp1 : Tp) : orO g (.bl false) k tp1 = g tp1 := nrfl rfl
def notO : D → Kd → Tp → Ot
  | .bl b, _, tp1 => .ok (.bl (!b)) .frz tp1
  | _, _, _ => .bad
@[simp] theorem notO_bl (b : Bool) (k : Kd) (tp1 : Tp) : notO (.bl b) k tp1 = .ok (.bl (!b)) .frz tp1 := nrfl rfl
def ifO (g h : Tp → Ot) : D → Kd → Tp → Ot
  | .bl true, _, tp1 => g tp1
  | .bl false, _, tp1 => h tp1
  | _, _, _ => .bad
@[simp] theorem ifO_t (g h : Tp → Ot) (k : Kd) (tp1 : Tp) : ifO g h (.bl true) k tp1 = g tp1 := nrfl rfl
@[simp] theorem ifO_f (g h : Tp → Ot) (k : Kd) (tp1 : Tp) : ifO g h (.bl false) k tp1 = h tp1 := nrfl rfl
def chO (g : F2) (h : Tp → Ot) (e : D) (tp2 : Tp) : Option (D × Kd) → Ot
  | some (.bl true, _) => (h tp2).bind fun u _ tp3 => ofO (g e u) tp3
  | some (.bl false, _) => .ok (.bl false) .frz tp2
  | _ => .bad
@[simp] theorem chO_t (g : F2) (h : Tp → Ot) (e : D) (tp2 : Tp) (k : Kd) : chO g h e tp2 (some (.bl true, k)) = (h tp2).bind fun u _ tp3 => ofO (g e u) tp3 := nrfl rfl
@[simp] theorem chO_f (g : F2) (h : Tp → Ot) (e : D) (tp2 : Tp) (k : Kd) : chO g h e tp2 (some (.bl false, k)) = .ok (.bl false) .frz tp2 := nrfl rfl
def setO (S : Slots) (i : Nat) : Ot → So
  | .ok _ .pk _ => .bad
  | .ok d k tp' => if notLck S i then .nx (setK S i d k) tp' else .bad
  | .ex c f tp' => .ex c f S tp'
  | .bad => .bad
@[simp] theorem setO_frz {S : Slots} {i : Nat} {d : D} {tp : Tp} (h : notLck S i = true) : setO S i (.ok d .frz tp) = .nx (S.set i (some (d, .frz))) tp := if_pos h
@[simp] theorem setO_fr {S : Slots} {i : Nat} {d : D} {tp : Tp} (h : notLck S i = true) : setO S i (.ok d .fr tp) = .nx (S.set i (some (d, .own))) tp := if_pos h
@[simp] theorem setO_ex {S : Slots} {i c : Nat} {l : List D} {tp : Tp} : setO S i (.ex c l tp) = .ex c l S tp := nrfl rfl
def asgO (S : Slots) (p : D → Slots → Option Slots) : Ot → So
  | .ok _ .pk _ => .bad
  | .ok d _ tp' => match p d S with
    | some S' => .nx S' tp'
    | none => .bad
  | .ex c f tp' => .ex c f S tp'
  | .bad => .bad
def asgP (tp : Tp) : Option Slots → So
  | some S' => .nx S' tp
  | none => .bad
@[simp] theorem asgP_some (tp : Tp) (S : Slots) : asgP tp (some S) = .nx S tp := nrfl rfl
@[simp] theorem asgO_frz (S : Slots) (p : D → Slots → Option Slots) (d : D) (tp : Tp) : asgO S p (.ok d .frz tp) = asgP tp (p d S) := nrfl rfl
@[simp] theorem asgO_fr (S : Slots) (p : D → Slots → Option Slots) (d : D) (tp : Tp) : asgO S p (.ok d .fr tp) = asgP tp (p d S) := nrfl rfl
@[simp] theorem asgO_ex (S : Slots) (p : D → Slots → Option Slots) (c : Nat) (l : List D) (tp : Tp) : asgO S p (.ex c l tp) = .ex c l S tp := nrfl rfl
def frzO (S : Slots) (i : Nat) (tp : Tp) : Option (Option (D × Fl)) → So
  | some (some (d, .own)) => .nx (S.set i (some (d, .frz))) tp
  | some (some (_, .frz)) => .nx S tp
  | _ => .bad
@[simp] theorem frzO_own (S : Slots) (i : Nat) (tp : Tp) (d : D) : frzO S i tp (some (some (d, .own))) = .nx (S.set i (some (d, .frz))) tp := nrfl rfl
@[simp] theorem frzO_frz (S : Slots) (i : Nat) (tp : Tp) (d : D) : frzO S i tp (some (some (d, .frz))) = .nx S tp := nrfl rfl
def mutS (S : Slots) (i : Nat) (tp : Tp) : Option (List D) → So
  | some l' => .nx (S.set i (some (.lst l', .own))) tp
  | none => .bad
@[simp] theorem mutS_some (S : Slots) (i : Nat) (tp : Tp) (l : List D) : mutS S i tp (some l) = .nx (S.set i (some (.lst l, .own))) tp := nrfl rfl
def mutL (S : Slots) (i : Nat) (tp : Tp) (f : List D → D → Option (List D)) (d : D) : Option (Option (D × Fl)) → So
  | some (some (.lst l, .own)) => mutS S i tp (f l d)
  | _ => .bad
@[simp] theorem mutL_own (S : Slots) (i : Nat) (tp : Tp) (f : List D → D → Option (List D)) (d : D) (l : List D) : mutL S i tp f d (some (some (.lst l, .own))) = mutS S i tp (f l d) := nrfl rfl
def mutO (S : Slots) (i : Nat) (f : List D → D → Option (List D)) : Ot → So
  | .ok _ .pk _ => .bad
  | .ok d _ tp1 => mutL S i tp1 f d S[i]?
  | _ => .bad
@[simp] theorem mutO_frz (S : Slots) (i : Nat) (f : List D → D → Option (List D)) (d : D) (tp : Tp) : mutO S i f (.ok d .frz tp) = mutL S i tp f d S[i]? := nrfl rfl
@[simp] theorem mutO_fr (S : Slots) (i : Nat) (f : List D → D → Option (List D)) (d : D) (tp : Tp) : mutO S i f (.ok d .fr tp) = mutL S i tp f d S[i]? := nrfl rfl
def rngP (j : Int) : Prop := -(2 ^ 62) ≤ j ∧ j < 2 ^ 62
open Classical in
noncomputable def rngO : Ot → Oi
  | .ok (.int j) _ tp' => if rngP j then .ok (rgD 0 j.toNat) false tp' else .bad
  | .ok _ _ _ => .bad
  | .ex c f tp' => .ex c f tp'
  | .bad => .bad
theorem rngO_int {j : Int} (h : 0 ≤ j) (h2 : j ≤ 1000000) (k : Kd) (tp : Tp) : rngO (.ok (.int j) k tp) = .ok (rgD 0 j.toNat) false tp := by
  unfold rngO
  exact if_pos ⟨by omega, by omega⟩
theorem rngO_nat {n : Nat} (h : n ≤ 1000000) (k : Kd) (tp : Tp) : rngO (.ok (.int (n : Int)) k tp) = .ok (rgD 0 n) false tp := rngO_int (by omega) (by omega) k tp
def argO (b : Bool) (tp : Tp) : Option (List D) → Oi
  | some es => .ok es b tp
  | none => .bad
@[simp] theorem argO_some (b : Bool) (tp : Tp) (l : List D) : argO b tp (some l) = .ok l b tp := nrfl rfl
def argI (f : List D → Option (List D)) : Otl → Oi
  | .ok ds tp' => argO (ds.any (·.2)) tp' (f (ds.map (·.1)))
  | .ex c f tp' => .ex c f tp'
  | .bad => .bad
@[simp] theorem argI_ok (f : List D → Option (List D)) (ds : List (D × Bool)) (tp : Tp) : argI f (.ok ds tp) = argO (ds.any (·.2)) tp (f (ds.map (·.1))) := nrfl rfl
def seqO (b : Bool) (tp : Tp) : Option (Bool × List D) → Oi
  | some (_, ds) => .ok ds b tp
  | none => .bad
@[simp] theorem seqO_some (b : Bool) (tp : Tp) (x : Bool) (l : List D) : seqO b tp (some (x, l)) = .ok l b tp := nrfl rfl
def seqI : Ot → Oi
  | .ok d k tp' => seqO k.isPk tp' (seqD d)
  | .ex c f tp' => .ex c f tp'
  | .bad => .bad
@[simp] theorem seqI_ok (d : D) (k : Kd) (tp : Tp) : seqI (.ok d k tp) = seqO k.isPk tp (seqD d) := nrfl rfl
def lcO : Option (List D × Tp) → Ot
  | some r => .ok (.lst r.1) .fr r.2
  | none => .bad
@[simp] theorem lcO_some (r : List D × Tp) : lcO (some r) = .ok (.lst r.1) .fr r.2 := nrfl rfl
def lcI (mp : D → Slots → Option Slots) (mt me : ME) (S : Slots) : Oi → Ot
  | .ok ds _ tp1 => if ds.length ≤ 16777216 then lcO (lcD mp mt me S ds tp1) else .bad
  | .ex c f tp1 => .ex c f tp1
  | .bad => .bad
@[simp] theorem lcI_ok {mp : D → Slots → Option Slots} {mt me : ME} {S : Slots} {ds : List D} {b : Bool} {tp : Tp} (h : ds.length ≤ 16777216) : lcI mp mt me S (.ok ds b tp) = lcO (lcD mp mt me S ds tp) := if_pos h
def isiO (tp : Tp) : Option Bool → Ot
  | some b => .ok (.bl b) .frz tp
  | none => .bad
@[simp] theorem isiO_some (tp : Tp) (b : Bool) : isiO tp (some b) = .ok (.bl b) .frz tp := nrfl rfl
def fldI (l : List D) (tp : Tp) : Option Nat → Ot
  | some i => ofO (l[i]?.map fun d => (d, .frz)) tp
  | none => .bad
@[simp] theorem fldI_some (l : List D) (tp : Tp) (i : Nat) : fldI l tp (some i) = ofO (l[i]?.map fun d => (d, .frz)) tp := nrfl rfl
def fldO (fi : Nat → Option Nat) : D → Kd → Tp → Ot
  | .ins c l, _, tp => fldI l tp (fi c)
  | _, _, _ => .bad
@[simp] theorem fldO_ins (fi : Nat → Option Nat) (c : Nat) (l : List D) (k : Kd) (tp : Tp) : fldO fi (.ins c l) k tp = fldI l tp (fi c) := nrfl rfl
def kcL (d : D) (k : Kd) : Otk → Otk
  | .ok ds tp2 => .ok ((d, k) :: ds) tp2
  | o => o
@[simp] theorem kcL_ok (d : D) (k : Kd) (ds : List (D × Kd)) (tp : Tp) : kcL d k (.ok ds tp) = .ok ((d, k) :: ds) tp := nrfl rfl
@[simp] theorem kcL_ex (d : D) (k : Kd) (c : Nat) (l : List D) (tp : Tp) : kcL d k (.ex c l tp) = .ex c l tp := nrfl rfl
def kcO (g : Tp → Otk) : Ot → Otk
  | .ok _ .pk _ => .bad
  | .ok d k tp1 => kcL d k (g tp1)
  | .ex c f tp1 => .ex c f tp1
  | .bad => .bad
@[simp] theorem kcO_frz (g : Tp → Otk) (d : D) (tp : Tp) : kcO g (.ok d .frz tp) = kcL d .frz (g tp) := nrfl rfl
@[simp] theorem kcO_fr (g : Tp → Otk) (d : D) (tp : Tp) : kcO g (.ok d .fr tp) = kcL d .fr (g tp) := nrfl rfl
@[simp] theorem kcO_ex (g : Tp → Otk) (c : Nat) (l : List D) (tp : Tp) : kcO g (.ex c l tp) = .ex c l tp := nrfl rfl
def parO (S : Slots) (is : List Nat) : Otk → So
  | .ok ds tp' => if okSet S is ds then .nx (setKs S is ds) tp' else .bad
  | .ex c f tp' => .ex c f S tp'
  | .bad => .bad
@[simp] theorem parO_ok {S : Slots} {is : List Nat} {ds : List (D × Kd)} {tp : Tp} (h : okSet S is ds = true) : parO S is (.ok ds tp) = .nx (setKs S is ds) tp := if_pos h
@[simp] theorem parO_ex (S : Slots) (is : List Nat) (c : Nat) (l : List D) (tp : Tp) : parO S is (.ex c l tp) = .ex c l S tp := nrfl rfl
def tapO : D → Kd → Tp → Ot
  | .int z, _, tp2 => ofO ((atD tp2 z).map fun d => (d, .frz)) tp2
  | _, _, _ => .bad
@[simp] theorem tapO_int (z : Int) (k : Kd) (tp : Tp) : tapO (.int z) k tp = ofO ((atD tp z).map fun d => (d, .frz)) tp := nrfl rfl
def tpsJ (S : Slots) (tp : Tp) (d : D) : Option Nat → So
  | some j => .nx S (tp.set j d)
  | none => .bad
@[simp] theorem tpsJ_some (S : Slots) (tp : Tp) (d : D) (j : Nat) : tpsJ S tp d (some j) = .nx S (tp.set j d) := nrfl rfl
def tpsI (S : Slots) (i : Nat) (d : D) : Ot → So
  | .ok (.int z) _ tp2 => if isTape S i then tpsJ S tp2 d (plD tp2.length z) else .bad
  | _ => .bad
@[simp] theorem tpsI_ok {S : Slots} {i : Nat} {d : D} {z : Int} {k : Kd} {tp : Tp} (h : isTape S i = true) : tpsI S i d (.ok (.int z) k tp) = tpsJ S tp d (plD tp.length z) := if_pos h
def tpsO (S : Slots) (i : Nat) (g : Tp → Ot) : Ot → So
  | .ok _ .pk _ => .bad
  | .ok d _ tp1 => tpsI S i d (g tp1)
  | .ex c f tp' => .ex c f S tp'
  | .bad => .bad
@[simp] theorem tpsO_frz (S : Slots) (i : Nat) (g : Tp → Ot) (d : D) (tp : Tp) : tpsO S i g (.ok d .frz tp) = tpsI S i d (g tp) := nrfl rfl
def newO (sem : Sem1) (ds : List (D × Bool)) (tp : Tp) : Ot := if ds.any (·.2) = false then sem ds tp else .bad
@[simp] theorem newO_ok {sem : Sem1} {ds : List (D × Bool)} {tp : Tp} (h : ds.any (·.2) = false) : newO sem ds tp = sem ds tp := if_pos h
def eqR (neg : Bool) : Ot → Ot
  | .ok (.bl b) .frz tp3 => .ok (.bl (xor neg b)) .frz tp3
  | _ => .bad
@[simp] theorem eqR_ok (neg b : Bool) (tp : Tp) : eqR neg (.ok (.bl b) .frz tp) = .ok (.bl (xor neg b)) .frz tp := nrfl rfl
def eqC (c : Nat) (sem : Sem1) (neg : Bool) (b b' : Bool) (tp : Tp) : D → D → Ot
  | .ins c1 l1, .ins c2 l2 => if c1 = c ∧ c2 = c then eqR neg (sem [(.ins c1 l1, b), (.ins c2 l2, b')] tp) else .bad
  | _, _ => .bad
@[simp] theorem eqC_ins (c : Nat) (sem : Sem1) (neg : Bool) (b b' : Bool) (tp : Tp) (l1 l2 : List D) : eqC c sem neg b b' tp (.ins c l1) (.ins c l2) = eqR neg (sem [(.ins c l1, b), (.ins c l2, b')] tp) := if_pos ⟨rfl, rfl⟩
def negO : D → Kd → Tp → Ot
  | .int i, _, tp1 => .ok (.int (-i)) .frz tp1
  | _, _, _ => .bad
@[simp] theorem negO_int (i : Int) (k : Kd) (tp : Tp) : negO (.int i) k tp = .ok (.int (-i)) .frz tp := nrfl rfl
def intO : D → Kd → Tp → Ot
  | .int i, _, tp1 => .ok (.int i) .frz tp1
  | _, _, _ => .bad
@[simp] theorem intO_int (i : Int) (k : Kd) (tp : Tp) : intO (.int i) k tp = .ok (.int i) .frz tp := nrfl rfl
def slB (d : D) (lo : Option Int) (tp : Tp) : Option (Option Int) → Ot
  | none => .bad
  | some hi => ofO (fSl d lo hi) tp
@[simp] theorem slB_some (d : D) (lo hi : Option Int) (tp : Tp) : slB d lo tp (some hi) = ofO (fSl d lo hi) tp := nrfl rfl
def slA (d : D) (g : Tp → Ot) (tp : Tp) : Option (Option Int) → Ot
  | none => .bad
  | some lo => (g tp).bind fun b _ tp3 => slB d lo tp3 (partD b)
@[simp] theorem slA_some (d : D) (g : Tp → Ot) (tp : Tp) (lo : Option Int) : slA d g tp (some lo) = (g tp).bind fun b _ tp3 => slB d lo tp3 (partD b) := nrfl rfl
def d1B (d e : D) (tp : Tp) : Bool → Ot
  | true => .bad
  | false => .ok (.dct [d] [e]) .fr tp
@[simp] theorem d1B_f (d e : D) (tp : Tp) : d1B d e tp false = .ok (.dct [d] [e]) .fr tp := nrfl rfl
def d1A (d : D) (g : Tp → Ot) (tp : Tp) : Option Key → Ot
  | none => .bad
  | some _ => (g tp).bind fun e k' tp2 => d1B d e tp2 k'.isPk
@[simp] theorem d1A_some (d : D) (g : Tp → Ot) (tp : Tp) (k : Key) : d1A d g tp (some k) = (g tp).bind fun e k' tp2 => d1B d e tp2 k'.isPk := nrfl rfl
@[simp] theorem keyOf_int (i : Int) : keyOf (.int i) = some (.inl i) := nrfl rfl
def sqO (b : MS) : So → So
  | .nx S' tp' => b S' tp'
  | o => o
@[simp] theorem sqO_nx (b : MS) (S : Slots) (tp : Tp) : sqO b (.nx S tp) = b S tp := nrfl rfl
@[simp] theorem sqO_rt (b : MS) (d : D) (k : Kd) (tp : Tp) : sqO b (.rt d k tp) = .rt d k tp := nrfl rfl
@[simp] theorem sqO_ex (b : MS) (c : Nat) (l : List D) (S : Slots) (tp : Tp) : sqO b (.ex c l S tp) = .ex c l S tp := nrfl rfl
@[simp] theorem sqO_ct (b : MS) (S : Slots) (tp : Tp) : sqO b (.ct S tp) = .ct S tp := nrfl rfl
@[simp] theorem sqO_bk (b : MS) (S : Slots) (tp : Tp) : sqO b (.bk S tp) = .bk S tp := nrfl rfl
def xpO (S : Slots) : Ot → So
  | .ok _ _ tp' => .nx S tp'
  | .ex c f tp' => .ex c f S tp'
  | .bad => .bad
@[simp] theorem xpO_ok (S : Slots) (d : D) (k : Kd) (tp : Tp) : xpO S (.ok d k tp) = .nx S tp := nrfl rfl
@[simp] theorem xpO_ex (S : Slots) (c : Nat) (l : List D) (tp : Tp) : xpO S (.ex c l tp) = .ex c l S tp := nrfl rfl
def retO (S : Slots) : Ot → So
  | .ok _ .pk _ => .bad
  | .ok d k tp' => .rt d k tp'
  | .ex c f tp' => .ex c f S tp'
  | .bad => .bad
@[simp] theorem retO_frz (S : Slots) (d : D) (tp : Tp) : retO S (.ok d .frz tp) = .rt d .frz tp := nrfl rfl
@[simp] theorem retO_fr (S : Slots) (d : D) (tp : Tp) : retO S (.ok d .fr tp) = .rt d .fr tp := nrfl rfl
@[simp] theorem retO_ex (S : Slots) (c : Nat) (l : List D) (tp : Tp) : retO S (.ex c l tp) = .ex c l S tp := nrfl rfl
def ifsO (S : Slots) (a b : MS) : Ot → So
  | .ok (.bl true) _ tp' => a S tp'
  | .ok (.bl false) _ tp' => b S tp'
  | .ok _ _ _ => .bad
  | .ex c f tp' => .ex c f S tp'
  | .bad => .bad
@[simp] theorem ifsO_t (S : Slots) (a b : MS) (k : Kd) (tp : Tp) : ifsO S a b (.ok (.bl true) k tp) = a S tp := nrfl rfl
@[simp] theorem ifsO_f (S : Slots) (a b : MS) (k : Kd) (tp : Tp) : ifsO S a b (.ok (.bl false) k tp) = b S tp := nrfl rfl
@[simp] theorem ifsO_ex (S : Slots) (a b : MS) (c : Nat) (l : List D) (tp : Tp) : ifsO S a b (.ex c l tp) = .ex c l S tp := nrfl rfl
def forO (S : Slots) (mp : D → Slots → Option Slots) (body : MS) : Oi → So
  | .ok ds false tp' => forD mp body ds S tp'
  | .ok _ true _ => .bad
  | .ex c f tp' => .ex c f S tp'
  | .bad => .bad
@[simp] theorem forO_ok (S : Slots) (mp : D → Slots → Option Slots) (body : MS) (ds : List D) (tp : Tp) : forO S mp body (.ok ds false tp) = forD mp body ds S tp := nrfl rfl
def rs1 (c : Nat) (S : Slots) : Ot → So
  | .ok _ .pk _ => .bad
  | .ok d _ tp1 => .ex c [d] S tp1
  | .ex e f tp1 => .ex e f S tp1
  | .bad => .bad
@[simp] theorem rs1_frz (c : Nat) (S : Slots) (d : D) (tp : Tp) : rs1 c S (.ok d .frz tp) = .ex c [d] S tp := nrfl rfl
def fdsI (n : Nat) (fn : Nat → Nat → Option Unit) (S : Slots) (d : D) (tp : Tp) : Option (Option (D × Fl)) → So
  | some (some (.ins c l, .lck)) => if c < n && (fn c l.length).isSome && freeL (S.drop 1) then .nx (S.set 0 (some (.ins c (l ++ [d]), .lck))) tp else .bad
  | _ => .bad
@[simp] theorem fdsI_ok {n : Nat} {fn : Nat → Nat → Option Unit} {S : Slots} {d : D} {tp : Tp} {c : Nat} {l : List D} (h : (c < n && (fn c l.length).isSome && freeL (S.drop 1)) = true) : fdsI n fn S d tp (some (some (.ins c l, .lck))) = .nx (S.set 0 (some (.ins c (l ++ [d]), .lck))) tp := if_pos h
def fdsO (n : Nat) (fn : Nat → Nat → Option Unit) (S : Slots) : Ot → So
  | .ok _ .pk _ => .bad
  | .ok d _ tp1 => fdsI n fn S d tp1 S[(0 : Nat)]?
  | .ex c f tp1 => .ex c f S tp1
  | .bad => .bad
@[simp] theorem fdsO_frz (n : Nat) (fn : Nat → Nat → Option Unit) (S : Slots) (d : D) (tp : Tp) : fdsO n fn S (.ok d .frz tp) = fdsI n fn S d tp S[(0 : Nat)]? := nrfl rfl
def psiO (S : Slots) (i : Nat) (d : D) : Ot → Option Slots
  | .ok n _ _ => stI S i n d
  | _ => none
@[simp] theorem psiO_ok (S : Slots) (i : Nat) (d n : D) (k : Kd) (tp : Tp) : psiO S i d (.ok n k tp) = PV.stI S i n d := nrfl rfl
section
variable (S : Slots) (tp : Tp) (i : Nat)
@[simp] theorem ev_nm : mNm i S tp = slotE S[i]? tp := by
  unfold mNm slotE
  rcases S[i]? with _ | _ | ⟨d, _ | _ | _⟩ <;> rfl
@[simp] theorem ev_c (d : D) : mC d S tp = .ok d .frz tp := nrfl rfl
@[simp] theorem ev_bin (f : F2) (a b : ME) : mBin f a b S tp = (a S tp).bind (bin1 f (b S)) := nrfl rfl
@[simp] theorem ev_nil : mNil S tp = .ok [] tp := nrfl rfl
@[simp] theorem ev_cons (m : ME) (ms : MEs) : mCons m ms S tp = (m S tp).bindL (con1 (ms S)) := nrfl rfl
@[simp] theorem ev_tup (ms : MEs) : mTup ms S tp = (ms S tp).bind tupO := nrfl rfl
@[simp] theorem ev_lst (ms : MEs) : mLst ms S tp = (ms S tp).bind lstO := nrfl rfl
@[simp] theorem ev_call (sem : Sem1) (ms : MEs) : mCall sem ms S tp = (ms S tp).bind sem := nrfl rfl
@[simp] theorem ev_tru (m : ME) : mTru m S tp = (m S tp).bind truO := by
  unfold mTru
  cases m S tp with
  | ok d k tp => cases d <;> rfl
  | _ => rfl
@[simp] theorem ev_and (a b : ME) : mAnd a b S tp = (a S tp).bind (andO (b S)) := by
  unfold mAnd
  cases a S tp with
  | ok d k tp => cases d with
    | bl b => cases b <;> rfl
    | _ => rfl
  | _ => rfl
@[simp] theorem ev_or (a b : ME) : mOr a b S tp = (a S tp).bind (orO (b S)) := by
  unfold mOr
  cases a S tp with
  | ok d k tp => cases d with
    | bl b => cases b <;> rfl
    | _ => rfl
  | _ => rfl
@[simp] theorem ev_not (a : ME) : mNot a S tp = (a S tp).bind notO := by
  unfold mNot
  cases a S tp with
  | ok d k tp => cases d <;> rfl
  | _ => rfl
@[simp] theorem ev_ife (c a b : ME) : mIf c a b S tp = (c S tp).bind (ifO (a S) (b S)) := by
  unfold mIf
  cases c S tp with
  | ok d k tp => cases d with
    | bl b => cases b <;> rfl
    | _ => rfl
  | _ => rfl
@[simp] theorem ev_chain (f g : F2) (a b c : ME) : mChain f g a b c S tp = (a S tp).bind fun d _ tp1 => (b S tp1).bind fun e _ tp2 => chO g (c S) e tp2 (f d e) := by
  unfold mChain
  cases a S tp with
  | ok d k tp1 =>
    show ((b S tp1).bind _) = ((b S tp1).bind _)
    cases b S tp1 with
    | ok e k tp2 =>
      show (match f d e with
        | some (.bl true, _) => _
        | some (.bl false, _) => _
        | _ => _) = chO g (c S) e tp2 (f d e)
      rcases f d e with _ | ⟨r, k⟩
      · rfl
      · cases r with
        | bl b => cases b <;> rfl
        | _ => rfl
    | _ => rfl
  | _ => rfl
@[simp] theorem ev_set (m : ME) : mSet i m S tp = setO S i (m S tp) := nrfl rfl
@[simp] theorem setK_fr (d : D) : setK S i d .fr = S.set i (some (d, .own)) := nrfl rfl
@[simp] theorem setK_frz (d : D) : setK S i d .frz = S.set i (some (d, .frz)) := nrfl rfl
@[simp] theorem ev_asgP (m : ME) (p : D → Slots → Option Slots) : mAsgP m p S tp = asgO S p (m S tp) := nrfl rfl
@[simp] theorem ev_frz : mFrz i S tp = frzO S i tp S[i]? := by
  unfold mFrz frzO
  rcases S[i]? with _ | _ | ⟨d, _ | _ | _⟩ <;> rfl
@[simp] theorem ev_mut (f : List D → D → Option (List D)) (m : ME) : mMut i f m S tp = mutO S i f (m S tp) := by
  unfold mMut mutO
  rcases m S tp with ⟨d, k, tp1⟩ | _ | _
  · cases k
    · dsimp only
      rcases S[i]? with _ | _ | ⟨e, fl⟩
      · rfl
      · rfl
      · cases e <;> cases fl <;> rfl
    · dsimp only
      rcases S[i]? with _ | _ | ⟨e, fl⟩
      · rfl
      · rfl
      · cases e <;> cases fl <;> rfl
    · rfl
  · rfl
  · rfl
@[simp] theorem ev_b (f : FL) (ms : MEs) : mB f ms S tp = (ms S tp).bind fun ds tp1 => ofO (f (ds.map (·.1))) tp1 := nrfl rfl
open Classical in
@[simp] theorem ev_rng1 (m : ME) : mRng (mCons m mNil) S tp = rngO (m S tp) := by
  unfold mRng mCons mNil rngO
  cases m S tp with
  | ok d k tp1 =>
    cases d with
    | int j =>
      show (if decide (-(2 ^ 62) ≤ j) && decide (j < 2 ^ 62) then Oi.ok (rgD 0 j.toNat) false tp1 else .bad) = if rngP j then Oi.ok (rgD 0 j.toNat) false tp1 else .bad
      by_cases z : rngP j
      · rw [if_pos z, decide_eq_true z.1, decide_eq_true z.2]; rfl
      · rw [if_neg z, if_neg]
        intro w
        rw [Bool.and_eq_true] at w
        exact z ⟨of_decide_eq_true w.1, of_decide_eq_true w.2⟩
    | _ => rfl
  | ex c f tp1 => rfl
  | bad => rfl
@[simp] theorem ev_argI (f : List D → Option (List D)) (ms : MEs) : mArgI f ms S tp = argI f (ms S tp) := by
  unfold mArgI argI
  cases ms S tp with
  | ok ds tp1 =>
    dsimp only
    rcases f (ds.map (·.1)) with _ | l <;> rfl
  | _ => rfl
@[simp] theorem ev_seqI (m : ME) : mSeqI m S tp = seqI (m S tp) := by
  unfold mSeqI seqI
  cases m S tp with
  | ok d k tp1 =>
    dsimp only
    rcases seqD d with _ | ⟨a, b⟩ <;> rfl
  | _ => rfl
@[simp] theorem seqD_lst (l : List D) : seqD (.lst l) = some (true, l) := nrfl rfl
@[simp] theorem seqD_tup (l : List D) : seqD (.tup l) = some (false, l) := nrfl rfl
@[simp] theorem ev_lc (mi : MI) (mp : D → Slots → Option Slots) (mt me : ME) (vs : List Nat) : mLc mi mp mt me vs S tp = lcI mp mt me (wipeS S vs) (mi S tp) := by
  unfold mLc lcI
  cases mi S tp with
  | ok ds b tp1 =>
    dsimp only
    split
    · rcases lcD mp mt me (wipeS S vs) ds tp1 with _ | r <;> rfl
    · rfl
  | _ => rfl
@[simp] theorem wipe_nil : wipeS S [] = S := nrfl rfl
@[simp] theorem wipe_cons (v : Nat) (vs : List Nat) : wipeS S (v :: vs) = (wipeS S vs).set v none := nrfl rfl
@[simp] theorem ev_isi (f : D → Option Bool) (m : ME) : mIsi f m S tp = (m S tp).bind fun d _ tp1 => isiO tp1 (f d) := by
  unfold mIsi
  cases m S tp with
  | ok d k tp1 =>
    show (match f d with
      | some b => Ot.ok (.bl b) .frz tp1
      | none => .bad) = isiO tp1 (f d)
    rcases f d with _ | b <;> rfl
  | _ => rfl
@[simp] theorem ev_fld (fi : Nat → Option Nat) (m : ME) : mFld fi m S tp = (m S tp).bind (fldO fi) := by
  unfold mFld
  cases m S tp with
  | ok d k tp1 =>
    cases d with
    | ins c l =>
      show (match fi c with
        | some i => ofO (l[i]?.map fun d => (d, .frz)) tp1
        | none => .bad) = fldI l tp1 (fi c)
      rcases fi c with _ | b <;> rfl
    | _ => rfl
  | _ => rfl
@[simp] theorem ev_kn : mKn S tp = .ok [] tp := nrfl rfl
@[simp] theorem ev_kc (m : ME) (ms : MEk) : mKc m ms S tp = kcO (ms S) (m S tp) := by
  unfold mKc kcO
  rcases m S tp with ⟨d, k, tp1⟩ | _ | _
  · cases k
    · dsimp only
      rcases ms S tp1 with _ | _ | _ <;> rfl
    · dsimp only
      rcases ms S tp1 with _ | _ | _ <;> rfl
    · rfl
  · rfl
  · rfl
@[simp] theorem ev_par (is : List Nat) (ms : MEk) : mPar is ms S tp = parO S is (ms S tp) := nrfl rfl
@[simp] theorem okSet_nil : okSet S [] [] = true := nrfl rfl
@[simp] theorem okSet_cons (is : List Nat) (d : D) (k : Kd) (ds : List (D × Kd)) : okSet S (i :: is) ((d, k) :: ds) = (notLck S i && okSet (setK S i d k) is ds) := nrfl rfl
@[simp] theorem setKs_nil : setKs S [] [] = S := nrfl rfl
@[simp] theorem setKs_cons (is : List Nat) (d : D) (k : Kd) (ds : List (D × Kd)) : setKs S (i :: is) ((d, k) :: ds) = setKs (setK S i d k) is ds := nrfl rfl
@[simp] theorem isTape_zero : isTape (some (.tape, .frz) :: S) 0 = true := nrfl rfl
@[simp] theorem isTape_succ (a : Option (D × Fl)) : isTape (a :: S) (i + 1) = isTape S i := nrfl rfl
@[simp] theorem ev_tapI {S : Slots} {tp : Tp} {i : Nat} {m : ME} (h : isTape S i = true) : mTapI i m S tp = (m S tp).bind tapO := by
  unfold mTapI
  rw [if_pos h]
  cases m S tp with
  | ok d k tp1 => cases d <;> rfl
  | _ => rfl
@[simp] theorem ev_tapS (mi m : ME) : mTapS i mi m S tp = tpsO S i (mi S) (m S tp) := by
  unfold mTapS tpsO
  rcases m S tp with ⟨d, k, tp1⟩ | _ | _
  · cases k
    · dsimp only
      rcases mi S tp1 with ⟨e, k, tp2⟩ | _ | _
      · cases e with
        | int z =>
          show (if isTape S i then _ else _) = (if isTape S i then _ else _)
          split
          · rcases plD tp2.length z with _ | j <;> rfl
          · rfl
        | _ => rfl
      · rfl
      · rfl
    · dsimp only
      rcases mi S tp1 with ⟨e, k, tp2⟩ | _ | _
      · cases e with
        | int z =>
          show (if isTape S i then _ else _) = (if isTape S i then _ else _)
          split
          · rcases plD tp2.length z with _ | j <;> rfl
          · rfl
        | _ => rfl
      · rfl
      · rfl
    · rfl
  · rfl
  · rfl
@[simp] theorem ev_new (sem : Sem1) (ms : MEs) : mNew sem ms S tp = (ms S tp).bind (newO sem) := nrfl rfl
@[simp] theorem ev_eqO (c : Nat) (sem : Sem1) (neg : Bool) (ma mb : ME) : mEqO c sem neg ma mb S tp = (ma S tp).bind fun d k tp1 => (mb S tp1).bind fun e k' tp2 => eqC c sem neg k.isPk k'.isPk tp2 d e := by
  unfold mEqO
  cases ma S tp with
  | ok d k tp1 =>
    show ((mb S tp1).bind _) = ((mb S tp1).bind _)
    cases mb S tp1 with
    | ok e k' tp2 =>
      cases d with
      | ins c1 l1 => cases e with
        | ins c2 l2 =>
          show (if c1 = c ∧ c2 = c then _ else _) = (if c1 = c ∧ c2 = c then _ else _)
          split
          · rcases sem [(.ins c1 l1, k.isPk), (.ins c2 l2, k'.isPk)] tp2 with ⟨r, k3, tp3⟩ | _ | _
            · cases r <;> cases k3 <;> rfl
            · rfl
            · rfl
          · rfl
        | _ => rfl
      | _ => rfl
    | _ => rfl
  | _ => rfl
@[simp] theorem ev_neg (m : ME) : mNeg m S tp = (m S tp).bind negO := by
  unfold mNeg
  cases m S tp with
  | ok d k tp1 => cases d <;> rfl
  | _ => rfl
@[simp] theorem ev_int (m : ME) : mInt m S tp = (m S tp).bind intO := by
  unfold mInt
  cases m S tp with
  | ok d k tp1 => cases d <;> rfl
  | _ => rfl
@[simp] theorem ev_sl (m ml mh : ME) : mSl m ml mh S tp = (m S tp).bind fun d _ tp1 => (ml S tp1).bind fun a _ tp2 => slA d (mh S) tp2 (partD a) := by
  unfold mSl
  cases m S tp with
  | ok d k tp1 =>
    show ((ml S tp1).bind _) = ((ml S tp1).bind _)
    cases ml S tp1 with
    | ok a k' tp2 =>
      show (match partD a with
        | none => _
        | some lo => _) = slA d (mh S) tp2 (partD a)
      rcases partD a with _ | lo
      · rfl
      · show ((mh S tp2).bind _) = ((mh S tp2).bind _)
        cases mh S tp2 with
        | ok b k3 tp3 =>
          show (match partD b with
            | none => _
            | some hi => _) = slB d lo tp3 (partD b)
          rcases partD b with _ | hi <;> rfl
        | _ => rfl
    | _ => rfl
  | _ => rfl
@[simp] theorem ev_dct1 (mk mv : ME) : mDct1 mk mv S tp = (mk S tp).bind fun d _ tp1 => d1A d (mv S) tp1 (keyOf d) := by
  unfold mDct1
  cases mk S tp with
  | ok d k tp1 =>
    show (match keyOf d with
      | none => _
      | some _ => _) = d1A d (mv S) tp1 (keyOf d)
    rcases keyOf d with _ | key
    · rfl
    · show ((mv S tp1).bind _) = ((mv S tp1).bind _)
      cases mv S tp1 with
      | ok e k' tp2 => cases k' <;> rfl
      | _ => rfl
  | _ => rfl
@[simp] theorem ev_next : mNext S tp = .nx S tp := nrfl rfl
@[simp] theorem ev_seq (a b : MS) : mSeq a b S tp = sqO b (a S tp) := nrfl rfl
@[simp] theorem ev_expr (m : ME) : mExpr m S tp = xpO S (m S tp) := nrfl rfl
@[simp] theorem ev_ret (m : ME) : mRet m S tp = retO S (m S tp) := nrfl rfl
@[simp] theorem ev_ifS (c : ME) (a b : MS) : mIfS c a b S tp = ifsO S a b (c S tp) := nrfl rfl
@[simp] theorem ev_for (mi : MI) (mp : D → Slots → Option Slots) (body : MS) : mFor mi mp body S tp = forO S mp body (mi S tp) := nrfl rfl
@[simp] theorem ev_raise0 (c : Nat) : mRaise0 c S tp = .ex c [] S tp := nrfl rfl
@[simp] theorem ev_raise1 (c : Nat) (m : ME) : mRaise1 c m S tp = rs1 c S (m S tp) := nrfl rfl
@[simp] theorem ev_fldS (n : Nat) (fn : Nat → Nat → Option Unit) (m : ME) : mFldS n fn m S tp = fdsO n fn S (m S tp) := by
  unfold mFldS fdsO
  rcases m S tp with ⟨d, k, tp1⟩ | _ | _
  · cases k
    · dsimp only
      rcases S[(0 : Nat)]? with _ | _ | ⟨e, fl⟩
      · rfl
      · rfl
      · cases e <;> cases fl <;> rfl
    · dsimp only
      rcases S[(0 : Nat)]? with _ | _ | ⟨e, fl⟩
      · rfl
      · rfl
      · cases e <;> cases fl <;> rfl
    · rfl
  · rfl
  · rfl
@[simp] theorem ev_pnm {S : Slots} {i : Nat} {d : D} (h : notLck S i = true) : pNm i d S = some (S.set i (some (d, .frz))) := if_pos h
@[simp] theorem ev_ptup (ps : List D → Slots → Option Slots) (ds : List D) : pTup ps (.tup ds) S = ps ds S := nrfl rfl
@[simp] theorem ev_pcons (p : D → Slots → Option Slots) (ps : List D → Slots → Option Slots) (d : D) (ds : List D) : pCons p ps (d :: ds) S = (p d S).bind (ps ds) := nrfl rfl
@[simp] theorem ev_pnil : pNil [] S = some S := nrfl rfl
@[simp] theorem ev_psetI (mi : ME) (d : D) : pSetI i mi d S = psiO S i d (mi S []) := by
  unfold pSetI psiO
  rcases mi S [] with ⟨e, k, tp2⟩ | _ | _ <;> rfl
end
@[simp] theorem freeL_nil : freeL [] = true := nrfl rfl
@[simp] theorem freeL_cons (a : Option (D × Fl)) (S : Slots) : freeL (a :: S) = (nl a && freeL S) := by
  match a with
  | none => rfl
  | some (_, .frz) => rfl
  | some (_, .own) => rfl
  | some (_, .lck) => rfl
/-! ### operations -/
@[simp] theorem fAdd_int (i j : Int) : fAdd (.int i) (.int j) = some (.int (i + j), .frz) := nrfl rfl
@[simp] theorem fSub_int (i j : Int) : fSub (.int i) (.int j) = some (.int (i - j), .frz) := nrfl rfl
@[simp] theorem fLt_int (i j : Int) : fLt (.int i) (.int j) = some (.bl (decide (i < j)), .frz) := nrfl rfl
@[simp] theorem fLe_int (i j : Int) : fLe (.int i) (.int j) = some (.bl (decide (i ≤ j)), .frz) := nrfl rfl
@[simp] theorem fGt_int (i j : Int) : fGt (.int i) (.int j) = some (.bl (decide (j < i)), .frz) := nrfl rfl
@[simp] theorem fGe_int (i j : Int) : fGe (.int i) (.int j) = some (.bl (decide (j ≤ i)), .frz) := nrfl rfl
theorem ok_int (i : Int) : (D.int i).ok = true := rfl
@[simp] theorem fEq_int (i j : Int) : fEq (.int i) (.int j) = some (.bl (i == j), .frz) := nrfl rfl
@[simp] theorem fNe_int (i j : Int) : fNe (.int i) (.int j) = some (.bl (!(i == j)), .frz) := nrfl rfl
@[simp] theorem fIx_lst (l : List D) (i : Int) : fIx (.lst l) (.int i) = (atD l i).map fun d => (d, .frz) := nrfl rfl
@[simp] theorem fIx_tup (l : List D) (i : Int) : fIx (.tup l) (.int i) = (atD l i).map fun d => (d, .frz) := nrfl rfl
@[simp] theorem fLen_lst (l : List D) : fLen [.lst l] = some (.int l.length, .frz) := nrfl rfl
@[simp] theorem fLen_tup (l : List D) : fLen [.tup l] = some (.int l.length, .frz) := nrfl rfl
@[simp] theorem fTuple_lst (l : List D) : fTuple [.lst l] = some (.tup l, .frz) := nrfl rfl
@[simp] theorem fTuple_tup (l : List D) : fTuple [.tup l] = some (.tup l, .frz) := nrfl rfl
@[simp] theorem fList_lst (l : List D) : fList [.lst l] = some (.lst l, .fr) := nrfl rfl
@[simp] theorem fList_tup (l : List D) : fList [.tup l] = some (.lst l, .fr) := nrfl rfl
@[simp] theorem fInt_int (i : Int) : fInt [.int i] = some (.int i, .frz) := nrfl rfl
@[simp] theorem fInt_bl (b : Bool) : fInt [.bl b] = some (.int (if b then 1 else 0), .frz) := nrfl rfl
@[simp] theorem fAbs_int (i : Int) : fAbs [.int i] = some (.int (if i < 0 then -i else i), .frz) := nrfl rfl
@[simp] theorem fAll_lst (l : List D) : fAll [.lst l] = (toBls l).map fun bs => (.bl (bs.all id), .frz) := nrfl rfl
@[simp] theorem fAny_lst (l : List D) : fAny [.lst l] = (toBls l).map fun bs => (.bl (bs.any id), .frz) := nrfl rfl
theorem fMod_int {i j : Int} (h : 0 < j) : fMod (.int i) (.int j) = some (.int (i % j), .frz) := if_pos h
theorem fFdiv_int {i j : Int} (h : 0 < j) (h2 : j < 1073741824) : fFdiv (.int i) (.int j) = some (.int (i / j), .frz) := by
  show (if decide (0 < j) && decide (j < 1073741824) then _ else _) = _
  rw [decide_eq_true h, decide_eq_true h2]; rfl
theorem in64_of {i : Int} (h : -(2 ^ 64) < i) (h2 : i < 2 ^ 64) : in64 i = true := by
  unfold in64
  rw [decide_eq_true h, decide_eq_true h2]; rfl
theorem fMul_int {i j : Int} (h : (in64 i || in64 j) = true) : fMul3 (.int i) (.int j) = some (.int (i * j), .frz) := by
  show (if in64 i || in64 j then _ else _) = _
  rw [h]; rfl
theorem fPow_int {i j : Int} (h : 0 ≤ j) (h2 : j ≤ 1000000) (h3 : i.natAbs < 2 ^ 64) : fPow (.int i) (.int j) = some (.int (i ^ j.toNat), .frz) := by
  show (if decide (0 ≤ j) && decide (j ≤ 1000000) && decide (i.natAbs < 2 ^ 64) then _ else _) = _
  rw [decide_eq_true h, decide_eq_true h2, decide_eq_true h3]; rfl
@[simp] theorem is2_bl (n a b : Bool) : fIs2 n (.bl a) (.bl b) = some (.bl (xor n (a == b)), .frz) := nrfl rfl
@[simp] theorem uApp_ok {l : List D} {d : D} (h : l.length < 16777216) : uApp l d = some (l ++ [d]) := if_pos h
theorem toBls_of {α : Type} (xs : List α) (p : α → Bool) : toBls (xs.map fun x => D.bl (p x)) = some (xs.map p) := by
  induction xs with
  | nil => rfl
  | cons x xs ih => simp [toBls, ih]
@[simp] theorem atD_nat (l : List D) (i : Nat) : atD l (i : Int) = l[i]? := by
  unfold atD
  rw [if_pos (Int.natCast_nonneg i)]
  rfl
/-! ### loops -/
inductive Nxt (I : Slots → Tp → Prop) : So → Prop
  | nx {S : Slots} {tp : Tp} : I S tp → Nxt I (.nx S tp)
  | ct {S : Slots} {tp : Tp} : I S tp → Nxt I (.ct S tp)
inductive NxtO (I : Slots → Tp → Prop) (f : Slots → So) : Option Slots → Prop
  | mk {S : Slots} : Nxt I (f S) → NxtO I f (some S)
@[simp] theorem Nxt_nx (I : Slots → Tp → Prop) (S : Slots) (tp : Tp) : Nxt I (.nx S tp) = I S tp := propext ⟨fun h => by cases h; assumption, .nx⟩
@[simp] theorem Nxt_ct (I : Slots → Tp → Prop) (S : Slots) (tp : Tp) : Nxt I (.ct S tp) = I S tp := propext ⟨fun h => by cases h; assumption, .ct⟩
@[simp] theorem NxtO_some (I : Slots → Tp → Prop) (f : Slots → So) (S : Slots) : NxtO I f (some S) = Nxt I (f S) := propext ⟨fun h => by cases h; assumption, .mk⟩
theorem forD_inv {α : Type} {mp : D → Slots → Option Slots} {body : MS} (g : α → D) (xs : List α) (I : Nat → Slots → Tp → Prop)
    (hs : ∀ i (h : i < xs.length) S tp, I i S tp → NxtO (I (i + 1)) (fun S1 => body S1 tp) (mp (g xs[i]) S)) :
    ∀ {S tp}, I 0 S tp → ∃ S' tp', forD mp body (xs.map g) S tp = .nx S' tp' ∧ I xs.length S' tp' := by
  have aux : ∀ (n i : Nat), i + n = xs.length → ∀ S tp, I i S tp → ∃ S' tp', forD mp body ((xs.drop i).map g) S tp = .nx S' tp' ∧ I xs.length S' tp' := by
    intro n
    induction n with
    | zero =>
      intro i e S tp h
      have e : i = xs.length := by omega
      subst e
      exact ⟨S, tp, by rw [List.drop_length]; rfl, h⟩
    | succ n ih =>
      intro i e S tp h
      have hi : i < xs.length := by omega
      have q := hs i hi S tp h
      rw [List.drop_eq_getElem_cons hi, List.map_cons]
      unfold forD
      revert q
      cases mp (g xs[i]) S with
      | none => exact fun q => nomatch q
      | some S1 =>
        rw [NxtO_some]
        dsimp only
        cases body S1 tp with
        | nx S2 tp2 => exact fun q => ih (i + 1) (by omega) S2 tp2 (by rw [Nxt_nx] at q; exact q)
        | ct S2 tp2 => exact fun q => ih (i + 1) (by omega) S2 tp2 (by rw [Nxt_ct] at q; exact q)
        | _ => exact fun q => nomatch q
  intro S tp h
  obtain ⟨S', tp', q1, q2⟩ := aux xs.length 0 (by omega) S tp h
  exact ⟨S', tp', by simpa using q1, q2⟩
theorem forD_rg {mp : D → Slots → Option Slots} {body : MS} (n : Nat) (I : Nat → Slots → Tp → Prop)
    (hs : ∀ i, i < n → ∀ S tp, I i S tp → NxtO (I (i + 1)) (fun S1 => body S1 tp) (mp (.int i) S)) {S : Slots} {tp : Tp} (h0 : I 0 S tp) :
    ∃ S' tp', forD mp body (rgD 0 n) S tp = .nx S' tp' ∧ I n S' tp' := by
  have z := forD_inv (mp := mp) (body := body) (fun (i : Nat) => D.int (0 + (i : Int))) (List.range n) I (fun i h S tp q => by
    rw [List.length_range] at h
    have := hs i h S tp q
    rw [List.getElem_range, Int.zero_add]
    exact this) h0
  rw [List.length_range] at z
  exact z
theorem lcD_map {α : Type} {mp : D → Slots → Option Slots} {mt me : ME} {S0 : Slots} {tp : Tp} (g : α → D) (p : α → Bool) (f : α → D) (xs : List α)
    (h : ∀ x ∈ xs, ∃ S1, mp (g x) S0 = some S1 ∧ (∃ k, mt S1 tp = .ok (.bl (p x)) k tp) ∧ (p x = true → ∃ k, k ≠ .pk ∧ me S1 tp = .ok (f x) k tp)) :
    lcD mp mt me S0 (xs.map g) tp = some ((xs.filter p).map f, tp) := by
  induction xs with
  | nil => rfl
  | cons x xs ih =>
    obtain ⟨S1, h1, ⟨k1, h2⟩, h3⟩ := h x (List.mem_cons_self ..)
    have ih := ih fun y hy => h y (List.mem_cons_of_mem _ hy)
    rw [List.map_cons]
    unfold lcD
    rw [h1]
    dsimp only
    rw [h2]
    cases e : p x with
    | true =>
      obtain ⟨k, hk, h4⟩ := h3 e
      dsimp only
      rw [h4]
      cases k with
      | pk => exact absurd rfl hk
      | _ => simp [e, ih]
    | false =>
      dsimp only
      rw [ih]
      simp [e]
theorem lcD_all {α : Type} {mp : D → Slots → Option Slots} {me : ME} {S0 : Slots} {tp : Tp} (g : α → D) (f : α → D) (xs : List α)
    (h : ∀ x ∈ xs, ∃ S1 k, mp (g x) S0 = some S1 ∧ k ≠ .pk ∧ me S1 tp = .ok (f x) k tp) :
    lcD mp (mC (.bl true)) me S0 (xs.map g) tp = some (xs.map f, tp) := by
  have := lcD_map (mp := mp) (mt := mC (.bl true)) (me := me) (S0 := S0) (tp := tp) g (fun _ => true) f xs fun x hx => by
    obtain ⟨S1, k, h1, h2, h3⟩ := h x hx
    exact ⟨S1, h1, ⟨_, rfl⟩, fun _ => ⟨k, h2, h3⟩⟩
  rw [this, List.filter_eq_self.mpr fun _ _ => rfl]
theorem zip2_map {α β : Type} (f : α → D) (g : β → D) (xs : List α) (ys : List β) : List.zipWith (fun x y => D.tup [x, y]) (xs.map f) (ys.map g) = (xs.zip ys).map fun p => D.tup [f p.1, g p.2] := by
  induction xs generalizing ys with
  | nil => simp
  | cons x xs ih => cases ys with
    | nil => simp
    | cons y ys => simp [ih]
def zip3 {α β γ : Type} : List α → List β → List γ → List (α × β × γ)
  | x :: xs, y :: ys, z :: zs => (x, y, z) :: zip3 xs ys zs
  | _, _, _ => []
theorem zip3_map {α β γ : Type} (f : α → D) (g : β → D) (h : γ → D) : ∀ (xs : List α) (ys : List β) (zs : List γ), zip3D (xs.map f) (ys.map g) (zs.map h) = (zip3 xs ys zs).map fun p => D.tup [f p.1, g p.2.1, h p.2.2]
  | [], _, _ => by simp [zip3D, zip3]
  | _ :: _, [], _ => by simp [zip3D, zip3]
  | _ :: _, _ :: _, [] => by simp [zip3D, zip3]
  | _ :: xs, _ :: ys, _ :: zs => by simp [zip3D, zip3, zip3_map f g h xs ys zs]
/-! ### defs -/
theorem semD_rt {n : Nat} {mb : MS} {ds : List (D × Bool)} {tp tp' : Tp} {d : D} {k : Kd} (h : mb (parS ds n) tp = .rt d k tp') (hk : k ≠ .pk) : semD n mb ds tp = .ok d k tp' := by
  unfold semD
  rw [h]
  cases k with
  | pk => exact absurd rfl hk
  | _ => rfl
theorem semD_nx {n : Nat} {mb : MS} {ds : List (D × Bool)} {tp tp' : Tp} {S : Slots} (h : mb (parS ds n) tp = .nx S tp') : semD n mb ds tp = .ok .non .frz tp' := by
  unfold semD
  rw [h]
theorem semD_ex {n : Nat} {mb : MS} {ds : List (D × Bool)} {tp tp' : Tp} {S : Slots} {c : Nat} {f : List D} (h : mb (parS ds n) tp = .ex c f S tp') : semD n mb ds tp = .ex c f tp' := by
  unfold semD
  rw [h]
/-- a parameter's slot -/
def psl (p : D × Bool) : Option (D × Fl) := some (p.1, if p.2 then Fl.lck else Fl.frz)
@[simp] theorem psl_f (d : D) : psl (d, false) = some (d, .frz) := nrfl rfl
@[simp] theorem psl_t (d : D) : psl (d, true) = some (d, .lck) := nrfl rfl
theorem mSeq_nx {a b : MS} {S S1 : Slots} {tp tp1 : Tp} (h : a S tp = .nx S1 tp1) : mSeq a b S tp = b S1 tp1 := by
  unfold mSeq
  rw [h]
end PV

/-! PXb: == of plain data, places in lists. -/
namespace PV
open PySem L2
mutual
theorem D.eqb_refl : ∀ d : D, d.pl0 = true → D.eqb d d = true
  | .non, _ => rfl
  | .bl b, _ => by simp [D.eqb]
  | .int i, _ => by simp [D.eqb]
  | .str x, _ => by simp [D.eqb]
  | .tup l, h => by
    unfold D.eqb
    exact D.eqbs_refl l h
  | .lst l, h => by
    unfold D.eqb
    exact D.eqbs_refl l h
  | .dct _ _, h => nomatch h
  | .ins _ _, h => nomatch h
  | .exc _ _ _ _, h => nomatch h
  | .scr _, h => nomatch h
  | .tape, h => nomatch h
  | .thk _, h => nomatch h
theorem D.eqbs_refl : ∀ l : List D, D.pls0 l = true → D.eqbs l l = true
  | [], _ => rfl
  | d :: l, h => by
    unfold D.pls0 at h
    rw [Bool.and_eq_true] at h
    unfold D.eqbs
    rw [D.eqb_refl d h.1, D.eqbs_refl l h.2]; rfl
end
theorem D.eqbs_len : ∀ {l l' : List D}, D.eqbs l l' = true → l.length = l'.length
  | [], [], _ => rfl
  | [], _ :: _, h => by simp [D.eqbs] at h
  | _ :: _, [], h => by simp [D.eqbs] at h
  | a :: l, b :: l', h => by
    unfold D.eqbs at h
    rw [Bool.and_eq_true] at h
    simp [D.eqbs_len h.2]
theorem pls0_map {α : Type} (f : α → D) (xs : List α) (h : ∀ x ∈ xs, (f x).pl0 = true) : D.pls0 (xs.map f) = true := by
  induction xs with
  | nil => rfl
  | cons x xs ih =>
    rw [List.map_cons]
    unfold D.pls0
    rw [h x (List.mem_cons_self ..), ih fun y hy => h y (List.mem_cons_of_mem _ hy)]; rfl
theorem deps_map {α : Type} (f : α → D) (n : Nat) (xs : List α) (h : ∀ x ∈ xs, (f x).dep ≤ n) : D.deps (xs.map f) ≤ n := by
  induction xs with
  | nil => exact Nat.zero_le _
  | cons x xs ih =>
    rw [List.map_cons]
    unfold D.deps
    have h1 := h x (List.mem_cons_self ..)
    have h2 := ih fun y hy => h y (List.mem_cons_of_mem _ hy)
    omega
theorem ok_of {d : D} (h : d.pl0 = true) (h2 : d.dep ≤ 60) : d.ok = true := by
  unfold D.ok
  rw [h, decide_eq_true h2]; rfl
theorem fEq_of {d e : D} (h : d.ok = true) (h2 : e.ok = true) : fEq d e = some (.bl (D.eqb d e), .frz) := by
  unfold fEq
  rw [h, h2]; rfl
theorem fNe_of {d e : D} (h : d.ok = true) (h2 : e.ok = true) : fNe d e = some (.bl (!D.eqb d e), .frz) := by
  unfold fNe
  rw [h, h2]; rfl
theorem fEq_refl {d : D} (h : d.ok = true) : fEq d d = some (.bl true, .frz) := by
  rw [fEq_of h h, D.eqb_refl]
  unfold D.ok at h
  exact (Bool.and_eq_true_iff.mp h).1
theorem fNe_refl {d : D} (h : d.ok = true) : fNe d d = some (.bl false, .frz) := by
  rw [fNe_of h h, D.eqb_refl]
  · rfl
  unfold D.ok at h
  exact (Bool.and_eq_true_iff.mp h).1
theorem pl0_ints (xs : List Int) : (D.tup (xs.map D.int)).pl0 = true := by
  unfold D.pl0
  exact pls0_map _ _ fun _ _ => rfl
theorem dep_ints (xs : List Int) : (D.tup (xs.map D.int)).dep ≤ 1 := by
  unfold D.dep
  have := deps_map D.int 0 xs fun _ _ => Nat.le_refl _
  omega
theorem ok_ints (xs : List Int) : (D.tup (xs.map D.int)).ok = true := ok_of (pl0_ints xs) (Nat.le_trans (dep_ints xs) (by decide))
@[simp] theorem atD_0 (a : D) (l : List D) : atD (a :: l) 0 = some a := nrfl rfl
@[simp] theorem atD_1 (a b : D) (l : List D) : atD (a :: b :: l) 1 = some b := nrfl rfl
@[simp] theorem atD_2 (a b c : D) (l : List D) : atD (a :: b :: c :: l) 2 = some c := nrfl rfl
@[simp] theorem atD_3 (a b c d : D) (l : List D) : atD (a :: b :: c :: d :: l) 3 = some d := nrfl rfl
@[simp] theorem atD_4 (a b c d e : D) (l : List D) : atD (a :: b :: c :: d :: e :: l) 4 = some e := nrfl rfl
@[simp] theorem plD_51 : plD 5 1 = some 1 := nrfl rfl
@[simp] theorem plD_52 : plD 5 2 = some 2 := nrfl rfl
@[simp] theorem plD_53 : plD 5 3 = some 3 := nrfl rfl
@[simp] theorem plD_54 : plD 5 4 = some 4 := nrfl rfl
theorem atD_pos {l : List D} {i : Int} (h : 0 ≤ i) : atD l i = l[i.toNat]? := if_pos h
theorem atD_in {l : List D} {i : Int} (h : 0 ≤ i) (h2 : i < l.length) : ∃ d ∈ l, atD l i = some d := by
  rw [atD_pos h]
  have h3 : i.toNat < l.length := by omega
  exact ⟨l[i.toNat], List.getElem_mem h3, List.getElem?_eq_getElem h3⟩
theorem atD_last (l : List D) (d : D) : atD (l ++ [d]) (-1) = some d := by
  unfold atD
  rw [if_neg (by decide), if_pos (by simp; omega)]
  have : (-1 + ((l ++ [d]).length : Int)).toNat = l.length := by simp; omega
  rw [this]
  simp
/-! ### draws -/
def Tape (tp : Tp) : Prop := ∃ (cells : List Int) (a : Nat) (b c e : Int), tp = [.lst (cells.map D.int), .int a, .int b, .int c, .int e]
theorem pow_18 : fPow (.int 10) (.int 18) = some (.int 1000000000000000000, .frz) := rfl
theorem pow_9 : fPow (.int 10) (.int 9) = some (.int 1000000000, .frz) := rfl
theorem pow_19 : fPow (.int 10) (.int 19) = some (.int 10000000000000000000, .frz) := rfl
def drawA : MS := mIfS (mAnd (mBin fEq (mTapI 0 (mC (.int 2))) (mC (.int 0))) (mBin fLt (mTapI 0 (mC (.int 1))) (mB fLen (mCons (mTapI 0 (mC (.int 0))) (mNil))))) (mSeq (mSet 2 (mBin fIx (mTapI 0 (mC (.int 0))) (mTapI 0 (mC (.int 1))))) (mSeq (mTapS 0 (mC (.int 1)) (mBin fAdd (mTapI 0 (mC (.int 1))) (mC (.int 1)))) (mSeq (mTapS 0 (mC (.int 3)) (mBin fMod (mB fInt (mCons (mBin fAdd (mBin fAdd (mBin fMul3 (mTapI 0 (mC (.int 3))) (mC (.int 48271))) (mBin fMul3 (mNm 2) (mC (.int 5)))) (mC (.int 29))) (mNil))) (mC (.int 2147483587)))) (mTapS 0 (mC (.int 2)) (mIf (mBin fGe (mNm 2) (mBin fPow (mC (.int 10)) (mC (.int 18)))) (mNm 2) (mC (.int 0))))))) (mNext)
def drawB : MS := mIfS (mBin fGt (mTapI 0 (mC (.int 2))) (mC (.int 0))) (mSeq (mSet 3 (mBin fMod (mB fInt (mCons (mTapI 0 (mC (.int 2))) (mNil))) (mNm 1))) (mSeq (mFrz 3) (mSeq (mTapS 0 (mC (.int 2)) (mBin fFdiv (mTapI 0 (mC (.int 2))) (mNm 1))) (mRet (mNm 3))))) (mNext)
def drawC : MS := mSeq (mTapS 0 (mC (.int 4)) (mBin fAdd (mTapI 0 (mC (.int 4))) (mC (.int 1)))) (mSeq (mSet 4 (mBin fMod (mB fInt (mCons (mBin fMul3 (mB fInt (mCons (mBin fAdd (mTapI 0 (mC (.int 3))) (mBin fMul3 (mC (.int 7877)) (mTapI 0 (mC (.int 4))))) (mNil))) (mC (.int 69621))) (mNil))) (mC (.int 2147483647)))) (mSeq (mFrz 4) (mSeq (mSet 4 (mBin fMod (mB fInt (mCons (mBin fMul3 (mNm 4) (mBin fAdd (mBin fFdiv (mNm 4) (mC (.int 1103))) (mC (.int 40692)))) (mNil))) (mC (.int 2147483399)))) (mSeq (mFrz 4) (mSeq (mSet 4 (mBin fMod (mB fInt (mCons (mBin fMul3 (mNm 4) (mBin fAdd (mBin fFdiv (mNm 4) (mC (.int 2311))) (mC (.int 48271)))) (mNil))) (mC (.int 2147483629)))) (mSeq (mFrz 4) (mRet (mBin fMod (mB fInt (mCons (mBin fFdiv (mNm 4) (mC (.int 16))) (mNil))) (mNm 1)))))))))
/-- the draw of every law -/
def semDraw : Sem1 := semD 5 (mSeq drawA (mSeq drawB drawC))
theorem in64_lit1 : in64 48271 = true := rfl
theorem in64_lit2 : in64 5 = true := rfl
theorem in64_lit3 : in64 7877 = true := rfl
theorem in64_lit4 : in64 69621 = true := rfl
theorem drawA_ok {many : Int} {tp : Tp} (h : Tape tp) : ∃ x tp', nl x = true ∧ Tape tp' ∧ drawA [some (.tape, .frz), some (.int many, .frz), none, none, none] tp = .nx [some (.tape, .frz), some (.int many, .frz), x, none, none] tp' := by
  obtain ⟨cells, a, b, c, e, rfl⟩ := h
  by_cases h1 : b = 0
  · by_cases h2 : a < cells.length
    · subst h1
      have e1 := fMul_int (i := c) (j := 48271) (by rw [in64_lit1, Bool.or_true])
      have e2 := fMul_int (i := cells[a]) (j := 5) (by rw [in64_lit2, Bool.or_true])
      by_cases h3 : 1000000000000000000 ≤ cells[a]
      · refine ⟨some (.int cells[a], .frz), _, rfl, ⟨cells, a + 1, cells[a], (c * 48271 + cells[a] * 5 + 29) % 2147483587, e, rfl⟩, ?_⟩
        simp [drawA, h2, atD_nat, e1, e2, fMod_int, pow_18, h3]
      · refine ⟨some (.int cells[a], .frz), _, rfl, ⟨cells, a + 1, 0, (c * 48271 + cells[a] * 5 + 29) % 2147483587, e, rfl⟩, ?_⟩
        simp [drawA, h2, atD_nat, e1, e2, fMod_int, pow_18, h3]
    · subst h1
      refine ⟨none, _, rfl, ⟨cells, a, 0, c, e, rfl⟩, ?_⟩
      simp [drawA, h2]
  · refine ⟨none, _, rfl, ⟨cells, a, b, c, e, rfl⟩, ?_⟩
    have hb : (b == 0) = false := by simp [h1]
    simp [drawA, hb]
def drawN (c e : Int) : Int :=
  let n1 := ((c + 7877 * (e + 1)) * 69621) % 2147483647
  let n2 := (n1 * (n1 / 1103 + 40692)) % 2147483399
  (n2 * (n2 / 2311 + 48271)) % 2147483629
theorem draw_ok {many : Int} {tp : Tp} (h : Tape tp) (h0 : 0 < many) (h1 : many < 1073741824) : ∃ r tp', semDraw [(.tape, false), (.int many, false)] tp = .ok (.int r) .frz tp' ∧ 0 ≤ r ∧ r < many ∧ Tape tp' := by
  obtain ⟨x, tp1, hx, hT, eA⟩ := drawA_ok (many := many) h
  obtain ⟨cells, a, b, c, e, rfl⟩ := hT
  by_cases hb : 0 < b
  · refine ⟨b % many, _, semD_rt (k := .frz) ?_ (by decide), Int.emod_nonneg _ (by omega), Int.emod_lt_of_pos _ h0, ⟨cells, a, b / many, c, e, rfl⟩⟩
    simp [parS, eA, drawB, hb, fMod_int h0, fFdiv_int h0 h1]
  · have m1 : ∀ n, fMul3 (.int 7877) (.int n) = some (.int (7877 * n), .frz) := fun n => fMul_int (by rw [in64_lit3]; rfl)
    have m2 : ∀ n, fMul3 (.int n) (.int 69621) = some (.int (n * 69621), .frz) := fun n => fMul_int (by rw [in64_lit4, Bool.or_true])
    have m3 : ∀ n m q : Int, 0 < q → q ≤ 2147483647 → fMul3 (.int (n % q)) (.int m) = some (.int (n % q * m), .frz) := fun n m q h h2 => fMul_int (by
      have z1 := Int.emod_nonneg n (show q ≠ 0 by omega)
      have z2 := Int.emod_lt_of_pos n h
      rw [in64_of (by omega) (by omega)]; rfl)
    have m4 := m3 ((c + 7877 * (e + 1)) * 69621)
    refine ⟨drawN c e / 16 % many, _, semD_rt (k := .frz) ?_ (by decide), Int.emod_nonneg _ (by omega), Int.emod_lt_of_pos _ h0, ⟨cells, a, b, c, e + 1, rfl⟩⟩
    simp [parS, eA, drawB, drawC, hb, fMod_int, fMod_int h0, fFdiv_int, m1, m2, m3, drawN]
end PV

/-! PXc: the simp equations of PWu's and PWv's mirrors. -/
namespace PV
open PySem L2
@[simp] theorem fEq3_int (i j : Int) : fEq3 (.int i) (.int j) = some (.bl (i == j), .frz) := nrfl rfl
@[simp] theorem fNe3_int (i j : Int) : fNe3 (.int i) (.int j) = some (.bl (!(i == j)), .frz) := nrfl rfl
@[simp] theorem fEq3_str (x y : Str) : fEq3 (.str x) (.str y) = some (.bl (x == y), .frz) := nrfl rfl
@[simp] theorem fNe3_str (x y : Str) : fNe3 (.str x) (.str y) = some (.bl (!(x == y)), .frz) := nrfl rfl
theorem fRepr_of {d : D} (h : d.showB = true) : fRepr [d] = some (.str d.py.shown, .frz) := if_pos h
theorem fIn3_tup {n : Bool} {d : D} {l : List D} (h : d.ok = true) (h2 : (D.tup l).ok = true) : fIn3 n d (.tup l) = some (.bl (xor n (l.any fun z => D.eqb z d)), .frz) := if_pos (by rw [h, h2]; rfl)
theorem fIn3_lst {n : Bool} {d : D} {l : List D} (h : d.ok = true) (h2 : (D.lst l).ok = true) : fIn3 n d (.lst l) = some (.bl (xor n (l.any fun z => D.eqb z d)), .frz) := if_pos (by rw [h, h2]; rfl)
@[simp] theorem ev_mth (f : FM) (mo : ME) (ms : MEs) (S : Slots) (tp : Tp) : mMth f mo ms S tp = (mo S tp).bind fun d _ tp1 => mMthR f d ms S tp1 := nrfl rfl
@[simp] theorem mthR_lst (f : FM) (l : List D) (ms : MEs) (S : Slots) (tp : Tp) : mMthR f (.lst l) ms S tp = (ms S tp).bind fun ds tp2 => ofO (f (.lst l) (ds.map (·.1))) tp2 := nrfl rfl
theorem fMax1_tup (i : Int) (is : List Int) : fMax1 [.tup ((i :: is).map D.int)] = some (.int (is.foldl max i), .frz) := by
  show (match toInts ((i :: is).map D.int) with
    | some (i :: is) => some (D.int (is.foldl max i), Kd.frz)
    | _ => none) = _
  rw [toInts_map]
theorem fMax1_lst (i : Int) (is : List Int) : fMax1 [.lst ((i :: is).map D.int)] = some (.int (is.foldl max i), .frz) := by
  show (match toInts ((i :: is).map D.int) with
    | some (i :: is) => some (D.int (is.foldl max i), Kd.frz)
    | _ => none) = _
  rw [toInts_map]
theorem fSum1_tup (is : List Int) : fSum1 [.tup (is.map D.int)] = some (.int is.sum, .frz) := by
  show (toInts (is.map D.int)).map (fun is => (D.int is.sum, Kd.frz)) = _
  rw [toInts_map]; rfl
theorem fSum1_lst (is : List Int) : fSum1 [.lst (is.map D.int)] = some (.int is.sum, .frz) := by
  show (toInts (is.map D.int)).map (fun is => (D.int is.sum, Kd.frz)) = _
  rw [toInts_map]; rfl
theorem eqb_ints (a b : Int) : D.eqb (.int a) (.int b) = (a == b) := by simp [D.eqb]
end PV

/-! PXd: data that repr shows in full. -/
namespace PV
open PySem L2
mutual
/-- plain, ints of at most twelve digits -/
def D.sml : D → Bool
  | .non => true
  | .bl _ => true
  | .int i => decide (i.natAbs < 1000000000000)
  | .str x => PyData.strOk x
  | .tup l => D.smls l
  | .lst l => D.smls l
  | _ => false
def D.smls : List D → Bool
  | [] => true
  | d :: ds => d.sml && D.smls ds
end
theorem log_small {n : Nat} (h : n < 1000000000000) : decide (n.log2 < 1920) = true := by
  apply decide_eq_true
  by_cases z : n = 0
  · subst z; decide
  · rw [Nat.log2_lt z]
    exact Nat.lt_of_lt_of_le h (Nat.le_trans (show 1000000000000 ≤ 2 ^ 40 by decide) (Nat.pow_le_pow_right (by decide) (by decide)))
mutual
theorem D.sml_ok : ∀ d : D, d.sml = true → d.pl0 = true ∧ d.py.showable = true ∧ d.py.intsShort 13 = true
  | .non, _ => ⟨rfl, rfl, rfl⟩
  | .bl b, _ => ⟨rfl, rfl, rfl⟩
  | .int i, h => by
    have h : i.natAbs < 1000000000000 := of_decide_eq_true h
    exact ⟨rfl, log_small h, decide_eq_true (PyData.shown_int_le (Nat.lt_of_lt_of_le h (by decide)))⟩
  | .str x, h => ⟨h, rfl, rfl⟩
  | .tup l, h => D.smls_ok l h
  | .lst l, h => D.smls_ok l h
  | .dct _ _, h => nomatch h
  | .ins _ _, h => nomatch h
  | .exc _ _ _ _, h => nomatch h
  | .scr _, h => nomatch h
  | .tape, h => nomatch h
  | .thk _, h => nomatch h
theorem D.smls_ok : ∀ l : List D, D.smls l = true → D.pls0 l = true ∧ PyData.showableAll (D.pys l) = true ∧ PyData.intsShortAll 13 (D.pys l) = true
  | [], _ => ⟨rfl, rfl, rfl⟩
  | d :: l, h => by
    unfold D.smls at h
    rw [Bool.and_eq_true] at h
    obtain ⟨a1, a2, a3⟩ := D.sml_ok d h.1
    obtain ⟨b1, b2, b3⟩ := D.smls_ok l h.2
    unfold D.pls0 D.pys PyData.showableAll PyData.intsShortAll
    rw [a1, a2, a3, b1, b2, b3]
    exact ⟨rfl, rfl, rfl⟩
end
/-- a cheap test of what repr shows -/
def D.shwB (d : D) : Bool := d.sml && (decide (d.dep ≤ 60) && decide (d.py.weight ≤ 1048576))
theorem D.shwB_ok {d : D} (h : d.shwB = true) : d.showB = true := by
  unfold D.shwB at h
  rw [Bool.and_eq_true, Bool.and_eq_true] at h
  obtain ⟨h1, h2, h3⟩ := h
  obtain ⟨a1, a2, a3⟩ := D.sml_ok d h1
  have h4 := PyData.shown_fits (B := 13) (by decide) (by decide) (PyData.leavesShort_of_canLay0 13 _ (D.py_lay a1).1 a3) (of_decide_eq_true h3)
  unfold D.showB
  rw [a1, a2, h2, decide_eq_true (show d.py.shown.length ≤ 16777216 from h4)]
  rfl
end PV

/-! PXe: equations of PWw's and PWx's mirrors. -/
namespace PV
open PySem L2
theorem ev_augS {op : Int → Int → Int} {S : Slots} {i : Nat} {mi m : ME} {l : List D} {tp : Tp} (h : S[i]? = some (some (.lst l, .own))) : mAugS i op mi m S tp = augO op S i m l (mi S tp) := by
  unfold mAugS
  rw [h]
def augS' (op : Int → Int → Int) (i : Nat) (mi m : ME) (S : Slots) (tp : Tp) : Option (Option (D × Fl)) → So
  | some (some (.lst l, .own)) => augO op S i m l (mi S tp)
  | _ => .bad
@[simp] theorem ev_augS' (op : Int → Int → Int) (i : Nat) (mi m : ME) (S : Slots) (tp : Tp) : mAugS i op mi m S tp = augS' op i mi m S tp S[i]? := by
  unfold mAugS augS'
  rcases S[i]? with _ | _ | ⟨d, fl⟩
  · rfl
  · rfl
  · cases d <;> cases fl <;> rfl
@[simp] theorem augS'_own (op : Int → Int → Int) (i : Nat) (mi m : ME) (S : Slots) (tp : Tp) (l : List D) : augS' op i mi m S tp (some (some (.lst l, .own))) = augO op S i m l (mi S tp) := nrfl rfl
@[simp] theorem augO_int (op : Int → Int → Int) (S : Slots) (i : Nat) (m : ME) (l : List D) (z : Int) (k : Kd) (tp : Tp) : augO op S i m l (.ok (.int z) k tp) = augD op S i m l z tp (atD l z) := nrfl rfl
@[simp] theorem augD_int (op : Int → Int → Int) (S : Slots) (i : Nat) (m : ME) (l : List D) (z a : Int) (tp : Tp) : augD op S i m l z tp (some (.int a)) = augL op S i l z a (m S tp) := nrfl rfl
def augP (op : Int → Int → Int) (S : Slots) (i : Nat) (l : List D) (a b : Int) (tp : Tp) : Option Nat → So
  | some j => .nx (S.set i (some (.lst (l.set j (.int (op a b))), .own))) tp
  | none => .bad
@[simp] theorem augP_some (op : Int → Int → Int) (S : Slots) (i : Nat) (l : List D) (a b : Int) (tp : Tp) (j : Nat) : augP op S i l a b tp (some j) = .nx (S.set i (some (.lst (l.set j (.int (op a b))), .own))) tp := nrfl rfl
@[simp] theorem augL_int (op : Int → Int → Int) (S : Slots) (i : Nat) (l : List D) (z a b : Int) (k : Kd) (tp : Tp) : augL op S i l z a (.ok (.int b) k tp) = augP op S i l a b tp (plD l.length z) := by
  show (match plD l.length z with
    | some j => _
    | none => _) = _
  rcases plD l.length z with _ | j <;> rfl
def augI' (op : Int → Int → Int) (i : Nat) (S : Slots) (a : Int) : Ot → So
  | .ok (.int b) _ tp' => .nx (S.set i (some (.int (op a b), .frz))) tp'
  | .ok _ _ _ => .bad
  | .ex c f tp' => .ex c f S tp'
  | .bad => .bad
@[simp] theorem augI'_int (op : Int → Int → Int) (i : Nat) (S : Slots) (a b : Int) (k : Kd) (tp : Tp) : augI' op i S a (.ok (.int b) k tp) = .nx (S.set i (some (.int (op a b), .frz))) tp := nrfl rfl
def augI2 (op : Int → Int → Int) (i : Nat) (m : ME) (S : Slots) (tp : Tp) : Option (Option (D × Fl)) → So
  | some (some (.int a, .frz)) => augI' op i S a (m S tp)
  | _ => .bad
@[simp] theorem augI2_int (op : Int → Int → Int) (i : Nat) (m : ME) (S : Slots) (tp : Tp) (a : Int) : augI2 op i m S tp (some (some (.int a, .frz))) = augI' op i S a (m S tp) := nrfl rfl
@[simp] theorem ev_augI (op : Int → Int → Int) (i : Nat) (m : ME) (S : Slots) (tp : Tp) : mAugI i op m S tp = augI2 op i m S tp S[i]? := by
  unfold mAugI augI2
  rcases S[i]? with _ | _ | ⟨d, fl⟩
  · rfl
  · rfl
  · cases d with
    | int a => cases fl with
      | frz =>
        dsimp only
        unfold augI'
        cases m S tp with
        | ok d k tp' => cases d <;> rfl
        | _ => rfl
      | _ => rfl
    | _ => cases fl <;> rfl
theorem plD_in {n : Nat} {z : Int} (h : 0 ≤ z) (h2 : z < n) : plD n z = some z.toNat := by
  unfold plD
  rw [if_pos h, if_pos h2]
def eqtR : Ot → Ot
  | .ok (.bl b) .frz tp3 => .ok (.bl b) .frz tp3
  | _ => .bad
@[simp] theorem eqtR_ok (b : Bool) (tp : Tp) : eqtR (.ok (.bl b) .frz tp) = .ok (.bl b) .frz tp := nrfl rfl
def eqtC (c : Nat) (sem : Sem1) (b b' : Bool) (tp : Tp) : D → D → Ot
  | .ins c1 l1, .tup l2 => if c1 = c then eqtR (sem [(.ins c1 l1, b), (.tup l2, b')] tp) else .bad
  | _, _ => .bad
@[simp] theorem eqtC_ins (c : Nat) (sem : Sem1) (b b' : Bool) (tp : Tp) (l1 l2 : List D) : eqtC c sem b b' tp (.ins c l1) (.tup l2) = eqtR (sem [(.ins c l1, b), (.tup l2, b')] tp) := if_pos rfl
@[simp] theorem ev_eqT (c : Nat) (sem : Sem1) (ma mb : ME) (S : Slots) (tp : Tp) : mEqT c sem ma mb S tp = (ma S tp).bind fun d k tp1 => (mb S tp1).bind fun e k' tp2 => eqtC c sem k.isPk k'.isPk tp2 d e := by
  unfold mEqT
  cases ma S tp with
  | ok d k tp1 =>
    show ((mb S tp1).bind _) = ((mb S tp1).bind _)
    cases mb S tp1 with
    | ok e k' tp2 =>
      cases d with
      | ins c1 l1 => cases e with
        | tup l2 =>
          show (if c1 = c then _ else _) = (if c1 = c then _ else _)
          split
          · rcases sem [(.ins c1 l1, k.isPk), (.tup l2, k'.isPk)] tp2 with ⟨r, k3, tp3⟩ | _ | _
            · cases r <;> cases k3 <;> rfl
            · rfl
            · rfl
          · rfl
        | _ => rfl
      | _ => rfl
    | _ => rfl
  | _ => rfl
@[simp] theorem ev_dct0 (S : Slots) (tp : Tp) : mDct0 S tp = .ok (.dct [] []) .fr tp := nrfl rfl
theorem fAdd_lst {xs ys : List D} (h : xs.length + ys.length ≤ 16777216) : fAdd (.lst xs) (.lst ys) = some (.lst (xs ++ ys), .fr) := if_pos h
theorem fAdd_tup {xs ys : List D} (h : xs.length + ys.length ≤ 16777216) : fAdd (.tup xs) (.tup ys) = some (.tup (xs ++ ys), .frz) := if_pos h
/-! ### weights, for repr -/
theorem wt_int {i : Int} (h : i.natAbs < 1000000000000) : (D.int i).py.weight ≤ 41 := by
  show (if i == 0 then 0 else i.natAbs.log2 + 1) ≤ 41
  split
  · omega
  · rename_i z
    have z : i.natAbs ≠ 0 := by simpa using z
    have := (Nat.log2_lt z (k := 40)).mpr (Nat.lt_of_lt_of_le h (by decide))
    omega
theorem wt_map {α : Type} (f : α → D) (B : Nat) (xs : List α) (h : ∀ x ∈ xs, (f x).py.weight ≤ B) : PyData.weightAll (D.pys (xs.map f)) ≤ xs.length * (B + 1) := by
  induction xs with
  | nil => simp [D.pys, PyData.weightAll]
  | cons x xs ih =>
    rw [List.map_cons]
    unfold D.pys PyData.weightAll
    have h1 := h x (List.mem_cons_self ..)
    have h2 := ih fun y hy => h y (List.mem_cons_of_mem _ hy)
    rw [List.length_cons, Nat.succ_mul]
    omega
theorem smls_map {α : Type} (f : α → D) (xs : List α) (h : ∀ x ∈ xs, (f x).sml = true) : D.smls (xs.map f) = true := by
  induction xs with
  | nil => rfl
  | cons x xs ih =>
    rw [List.map_cons]
    unfold D.smls
    rw [h x (List.mem_cons_self ..), ih fun y hy => h y (List.mem_cons_of_mem _ hy)]; rfl
theorem sml_int {i : Int} (h : i.natAbs < 1000000000000) : (D.int i).sml = true := decide_eq_true h
theorem shwB_of {d : D} (h : d.sml = true) (h2 : d.dep ≤ 60) (h3 : d.py.weight ≤ 1048576) : d.showB = true := by
  apply D.shwB_ok
  unfold D.shwB
  rw [h, decide_eq_true h2, decide_eq_true h3]; rfl
theorem sml_ints {m : List Int} (h : ∀ x ∈ m, x.natAbs < 1000000000000) : (D.tup (m.map D.int)).sml = true := smls_map _ _ fun x hx => sml_int (h x hx)
theorem wt_ints {m : List Int} (h : ∀ x ∈ m, x.natAbs < 1000000000000) : (D.tup (m.map D.int)).py.weight ≤ m.length * 42 := wt_map D.int 41 m fun x hx => wt_int (h x hx)
theorem show_ints {m : List Int} (h : ∀ x ∈ m, x.natAbs < 1000000000000) (hl : m.length ≤ 1000) : (D.tup (m.map D.int)).showB = true :=
  shwB_of (sml_ints h) (Nat.le_trans (dep_ints m) (by decide)) (by have := wt_ints h; omega)
theorem show_lints {m : List Int} (h : ∀ x ∈ m, x.natAbs < 1000000000000) (hl : m.length ≤ 1000) : (D.lst (m.map D.int)).showB = true :=
  shwB_of (sml_ints h) (Nat.le_trans (dep_ints m) (by decide)) (by
    have : (D.lst (m.map D.int)).py.weight ≤ m.length * 42 := wt_ints h
    omega)
theorem show_bl (b : Bool) : (D.bl b).showB = true := by
  refine shwB_of rfl (Nat.zero_le _) ?_
  cases b <;> decide
end PV

set_option maxHeartbeats 4000000
/-! K01a: what the small defs answer. -/
namespace K01
open PySem L2 PV

abbrev tI (xs : List Int) : D := .tup (xs.map D.int)
abbrev Dd := List (List Int × List Int)
abbrev dD (ds : Dd) : D := .tup (ds.map fun p => D.tup [tI p.1, tI p.2])
abbrev nD (p : Int) (ds : Dd) : D := .ins 0 [.int p, dD ds]
def nice (d : D) : Prop := (isiT nC .int d).isSome = true
def isI : D → Bool
  | .int _ => true
  | _ => false
def inn (lo hi : Int) : D → Bool
  | .int i => decide (lo ≤ i) && decide (i ≤ hi)
  | _ => false
variable {tp : Tp}
theorem q_integer {d : D} (h : nice d) : sem_is_integer [(d, false)] tp = .ok (.bl (isI d)) .frz tp := by
  refine semD_rt (k := .frz) ?_ (by decide)
  unfold nice at h
  cases d with
  | ins c l =>
    match c, h with
    | 0, h => simp [m_is_integer, parS, isiT, isI]
    | c + 1, h => simp [isiT] at h
  | exc a dd c l => cases h
  | tape => cases h
  | thk T => cases h
  | _ => simp [m_is_integer, parS, isiT, D.ty, Ty.isi, isI]
theorem q_within {d : D} (h : nice d) {lo hi : Int} : sem_is_within [(d, false), (.int lo, false), (.int hi, false)] tp = .ok (.bl (inn lo hi d)) .frz tp := by
  refine semD_rt (k := .frz) ?_ (by decide)
  have e : ∀ tp, sem_is_integer [(d, false)] tp = .ok (.bl (isI d)) .frz tp := fun tp => q_integer h
  cases d with
  | int i =>
    by_cases z : lo ≤ i <;> simp [m_is_within, parS, e, isI, inn, z]
  | _ => simp [m_is_within, parS, e, isI, inn]
theorem nice_int (i : Int) : nice (.int i) := rfl
theorem inn_int {lo hi i : Int} (h : lo ≤ i) (h2 : i ≤ hi) : inn lo hi (.int i) = true := by
  show (decide (lo ≤ i) && decide (i ≤ hi)) = true
  rw [decide_eq_true h, decide_eq_true h2]; rfl
theorem q_tuple {l : List D} {lo hi : Int} : sem_is_tuple [(.tup l, false), (.int lo, false), (.int hi, false)] tp = .ok (.bl (decide (lo ≤ (l.length : Int)) && decide ((l.length : Int) ≤ hi))) .frz tp := by
  refine semD_rt (k := .frz) ?_ (by decide)
  by_cases z : lo ≤ (l.length : Int) <;> simp [m_is_tuple, parS, isiT, D.ty, Ty.isi, z]
def okC (p : Int) (xs : List Int) : Prop := (xs.length : Int) = p ∧ ∀ x ∈ xs, 0 ≤ x ∧ x ≤ 9
theorem lc_within {S0 : Slots} {lo hi : Int} (xs : List Int) (n1 n2 n3 : Nat) : ∀ {mp : D → Slots → Option Slots} {me : ME}, (∀ i : Int, ∃ S1, mp (.int i) S0 = some S1 ∧ me S1 tp = .ok (.bl (inn lo hi (.int i))) .frz tp) →
    lcD mp (mC (.bl true)) me S0 (xs.map D.int) tp = some (xs.map fun x => D.bl (inn lo hi (.int x)), tp) := fun h =>
  lcD_all _ _ xs fun x _ => by
    obtain ⟨S1, h1, h2⟩ := h x
    exact ⟨S1, .frz, h1, by decide, h2⟩
theorem all_inn {lo hi : Int} {xs : List Int} (h : ∀ x ∈ xs, lo ≤ x ∧ x ≤ hi) : ((xs.map fun x => inn lo hi (.int x)).all id) = true := by
  rw [List.all_eq_true]
  intro b hb
  obtain ⟨x, hx, rfl⟩ := List.mem_map.mp hb
  exact inn_int (h x hx).1 (h x hx).2
theorem q_counts {p : Int} {xs : List Int} (h : okC p xs) (hp : p ≤ 1000) : sem_is_counts [(.int p, false), (tI xs, false)] tp = .ok (.bl true) .frz tp := by
  obtain ⟨rfl, h⟩ := h
  refine semD_rt (k := .frz) ?_ (by decide)
  have e : lcD (pNm 2) (mC (.bl true)) (mCall sem_is_within (mCons (mNm 2) (mCons (mC (.int 0)) (mCons (mC (.int 9)) mNil)))) [some (.int (xs.length : Int), .frz), some (tI xs, .frz), none] (xs.map D.int) tp = some (xs.map fun x => D.bl (inn 0 9 (.int x)), tp) :=
    lc_within xs 0 0 0 fun i => ⟨_, rfl, by simp [q_within (nice_int i)]⟩
  have hl : xs.length ≤ 16777216 := by omega
  simp [m_is_counts, parS, q_tuple, e, hl, toBls_of, all_inn h]
theorem q_mark {p : Int} {ds : Dd} {xs : List Int} (hl : (xs.length : Int) = p) (h : ∀ x ∈ xs, 0 ≤ x ∧ x ≤ 1000000) (hp : p ≤ 1000) : sem_is_mark [(nD p ds, false), (tI xs, false)] tp = .ok (.bl true) .frz tp := by
  subst hl
  refine semD_rt (k := .frz) ?_ (by decide)
  have e : lcD (pNm 2) (mC (.bl true)) (mCall sem_is_within (mCons (mNm 2) (mCons (mC (.int 0)) (mCons (mC (.int 1000000)) mNil)))) [some (nD xs.length ds, .frz), some (tI xs, .frz), none] (xs.map D.int) tp = some (xs.map fun x => D.bl (inn 0 1000000 (.int x)), tp) :=
    lc_within xs 0 0 0 fun i => ⟨_, rfl, by simp [q_within (nice_int i)]⟩
  have hl : xs.length ≤ 16777216 := by omega
  simp [m_is_mark, parS, q_tuple, fi_places, e, hl, toBls_of, all_inn h]
theorem q_check_mark {p : Int} {ds : Dd} {xs : List Int} (hl : (xs.length : Int) = p) (h : ∀ x ∈ xs, 0 ≤ x ∧ x ≤ 1000000) (hp : p ≤ 1000) : sem_check_mark [(nD p ds, false), (tI xs, false)] tp = .ok .non .frz tp := by
  refine semD_nx (S := [some (nD p ds, .frz), some (tI xs, .frz)]) ?_
  simp [m_check_mark, parS, q_mark hl h hp]
def okD (p : Int) (ds : Dd) : Prop := ∀ d ∈ ds, okC p d.1 ∧ okC p d.2
theorem enumD_eq {α : Type} (g : α → D) : ∀ (xs : List α) (k : Nat), enumD (k : Int) (xs.map g) = (xs.zipIdx k).map fun q => D.tup [.int (q.2 : Int), g q.1]
  | [], k => rfl
  | x :: xs, k => by
    have := enumD_eq g xs (k + 1)
    rw [List.map_cons, List.zipIdx_cons, List.map_cons, ← this]
    rfl
theorem fEnum_tup {α : Type} (g : α → D) (xs : List α) : fEnum [.tup (xs.map g)] = some ((xs.zipIdx).map fun q => D.tup [.int (q.2 : Int), g q.1]) := by
  have := enumD_eq g xs 0
  show some (enumD 0 (xs.map g)) = _
  rw [← this]; rfl
theorem q_new {p : Int} {ds : Dd} (hp0 : 0 ≤ p) (hp : p ≤ 12) (hd : ds.length ≤ 16) (h : okD p ds) : sem_new_Net [(.int p, false), (dD ds, false)] tp = .ok (nD p ds) .fr tp := by
  have e1 : inn 0 12 (.int p) = true := inn_int hp0 hp
  obtain ⟨S', tp', f1, x3, x4, n3, n4, rfl, rfl⟩ := forD_inv (mp := pTup (pCons (pNm 3) (pCons (pNm 4) pNil)))
    (body := mIfS (mOr (mNot (mTru (mCall sem_is_tuple (mCons (mNm 4) (mCons (mC (.int 2)) (mCons (mC (.int 2)) (mNil))))))) (mNot (mTru (mB fAll (mCons (mLc (mSeqI (mNm 4)) (pNm 5) (mC (.bl true)) (mCall sem_is_counts (mCons (mNm 1) (mCons (mNm 5) (mNil)))) [5]) (mNil)))))) (mRaise1 2 (mNm 3)) (mNext))
    (fun q => D.tup [.int (q.2 : Int), D.tup [tI q.1.1, tI q.1.2]]) (ds.zipIdx)
    (fun _ S t => ∃ x3 x4, nl x3 = true ∧ nl x4 = true ∧ S = [some (.ins 0 [], .lck), some (.int p, .frz), some (dD ds, .frz), x3, x4, none] ∧ t = tp)
    (fun i hi S t ⟨x3, x4, h3, h4, e, et⟩ => by
      subst e et
      have hm : (ds.zipIdx)[i].1 ∈ ds := by
        rw [List.getElem_zipIdx]
        exact List.getElem_mem _
      obtain ⟨c1, c2⟩ := h _ hm
      generalize (ds.zipIdx)[i] = q at c1 c2
      have e : lcD (pNm 5) (mC (.bl true)) (mCall sem_is_counts (mCons (mNm 1) (mCons (mNm 5) mNil))) [some (.ins 0 [], .lck), some (.int p, .frz), some (dD ds, .frz), some (.int q.2, .frz), some (D.tup [tI q.1.1, tI q.1.2], .frz), none] [tI q.1.1, tI q.1.2] t = some ([.bl true, .bl true], t) :=
        lcD_all (fun x => tI x) (fun x => D.bl true) [q.1.1, q.1.2] fun x hx => ⟨_, .frz, rfl, by decide, by
          have : okC p x := by
            rcases List.mem_cons.mp hx with z | z
            · rw [z]; exact c1
            · rw [List.mem_singleton.mp z]; exact c2
          simp [q_counts this (by omega)]⟩
      simp [h3, h4, q_tuple, e, toBls])
    (S := [some (.ins 0 [], .lck), some (.int p, .frz), some (dD ds, .frz), none, none, none]) (tp := tp) ⟨none, none, rfl, rfl, rfl, rfl⟩
  have hl : decide ((ds.length : Int) ≤ 16) = true := decide_eq_true (by omega)
  unfold sem_new_Net semI
  simp [m_new_Net, parS, q_within (nice_int _), e1, q_tuple, hl, fEnum_tup, f1, n3, n4, fn_places, fn_deeds]
end K01

/-! K01b: draws, things of any kind. -/
namespace K01
open PySem L2 PV
variable {tp : Tp}
/-! ### draws -/
def drawA : MS := mIfS (mAnd (mBin fEq3 (mTapI 0 (mC (.int 2))) (mC (.int 0))) (mBin fLt (mTapI 0 (mC (.int 1))) (mB fLen (mCons (mTapI 0 (mC (.int 0))) (mNil))))) (mSeq (mSet 2 (mBin fIx (mTapI 0 (mC (.int 0))) (mTapI 0 (mC (.int 1))))) (mSeq (mTapS 0 (mC (.int 1)) (mBin fAdd (mTapI 0 (mC (.int 1))) (mC (.int 1)))) (mSeq (mTapS 0 (mC (.int 3)) (mBin fMod (mB fInt (mCons (mBin fAdd (mBin fAdd (mBin fMul3 (mTapI 0 (mC (.int 3))) (mC (.int 69621))) (mNm 2)) (mC (.int 11))) (mNil))) (mC (.int 2147483629)))) (mIfS (mBin fGe (mNm 2) (mBin fPow (mC (.int 10)) (mC (.int 18)))) (mTapS 0 (mC (.int 2)) (mNm 2)) (mNext))))) (mNext)
def drawB : MS := mIfS (mBin fGt (mTapI 0 (mC (.int 2))) (mC (.int 0))) (mSeq (mSet 3 (mBin fMod (mB fInt (mCons (mTapI 0 (mC (.int 2))) (mNil))) (mNm 1))) (mSeq (mFrz 3) (mSeq (mTapS 0 (mC (.int 2)) (mBin fFdiv (mTapI 0 (mC (.int 2))) (mNm 1))) (mRet (mNm 3))))) (mNext)
def drawC : MS := (mSeq (mTapS 0 (mC (.int 4)) (mBin fAdd (mTapI 0 (mC (.int 4))) (mC (.int 1)))) (mSeq (mSet 4 (mBin fMod (mB fInt (mCons (mBin fMul3 (mB fInt (mCons (mBin fAdd (mTapI 0 (mC (.int 3))) (mBin fMul3 (mC (.int 7919)) (mTapI 0 (mC (.int 4))))) (mNil))) (mC (.int 48271))) (mNil))) (mC (.int 2147483647)))) (mSeq (mFrz 4) (mSeq (mSet 4 (mBin fMod (mB fInt (mCons (mBin fMul3 (mNm 4) (mBin fAdd (mBin fFdiv (mNm 4) (mC (.int 1009))) (mC (.int 69621)))) (mNil))) (mC (.int 2147483647)))) (mSeq (mFrz 4) (mSeq (mSet 4 (mBin fMod (mB fInt (mCons (mBin fMul3 (mNm 4) (mBin fAdd (mBin fFdiv (mNm 4) (mC (.int 2003))) (mC (.int 40692)))) (mNil))) (mC (.int 2147483399)))) (mSeq (mFrz 4) (mRet (mBin fMod (mB fInt (mCons (mBin fFdiv (mNm 4) (mC (.int 16))) (mNil))) (mNm 1))))))))))
theorem draw_eq : sem__law_pick = semD 5 (mSeq drawA (mSeq drawB drawC)) := rfl
theorem drawA_ok {many : Int} {tp : Tp} (h : Tape tp) : ∃ x tp', nl x = true ∧ Tape tp' ∧ drawA [some (.tape, .frz), some (.int many, .frz), none, none, none] tp = .nx [some (.tape, .frz), some (.int many, .frz), x, none, none] tp' := by
  obtain ⟨cells, a, b, c, e, rfl⟩ := h
  by_cases h1 : b = 0
  · by_cases h2 : a < cells.length
    · subst h1
      have e1 := fMul_int (i := c) (j := 69621) (by rw [show in64 69621 = true from rfl, Bool.or_true])
      have e2 := fun (i : Int) => fMul_int (i := i) (j := 40692) (by rw [show in64 40692 = true from rfl, Bool.or_true])
      by_cases h3 : 1000000000000000000 ≤ cells[a]
      · refine ⟨some (.int cells[a], .frz), _, rfl, ⟨cells, a + 1, cells[a], (c * 69621 + cells[a] + 11) % 2147483629, e, rfl⟩, ?_⟩
        simp [drawA, h2, atD_nat, e1, e2, fMod_int, pow_18, h3]
      · refine ⟨some (.int cells[a], .frz), _, rfl, ⟨cells, a + 1, 0, (c * 69621 + cells[a] + 11) % 2147483629, e, rfl⟩, ?_⟩
        simp [drawA, h2, atD_nat, e1, e2, fMod_int, pow_18, h3]
    · subst h1
      refine ⟨none, _, rfl, ⟨cells, a, 0, c, e, rfl⟩, ?_⟩
      simp [drawA, h2]
  · refine ⟨none, _, rfl, ⟨cells, a, b, c, e, rfl⟩, ?_⟩
    have hb : (b == 0) = false := by simp [h1]
    simp [drawA, hb]
def drawN (c e : Int) : Int :=
  let n1 := ((c + 7919 * (e + 1)) * 48271) % 2147483647
  let n2 := (n1 * (n1 / 1009 + 69621)) % 2147483647
  (n2 * (n2 / 2003 + 40692)) % 2147483399
theorem draw_ok {many : Int} {tp : Tp} (h : Tape tp) (h0 : 0 < many) (h1 : many < 1073741824) : ∃ r tp', sem__law_pick [(.tape, false), (.int many, false)] tp = .ok (.int r) .frz tp' ∧ 0 ≤ r ∧ r < many ∧ Tape tp' := by
  rw [draw_eq]
  obtain ⟨x, tp1, hx, hT, eA⟩ := drawA_ok (many := many) h
  obtain ⟨cells, a, b, c, e, rfl⟩ := hT
  by_cases hb : 0 < b
  · refine ⟨b % many, _, semD_rt (k := .frz) ?_ (by decide), Int.emod_nonneg _ (by omega), Int.emod_lt_of_pos _ h0, ⟨cells, a, b / many, c, e, rfl⟩⟩
    simp [parS, eA, drawB, hb, fMod_int h0, fFdiv_int h0 h1]
  · have m1 : ∀ n, fMul3 (.int 7919) (.int n) = some (.int (7919 * n), .frz) := fun n => fMul_int (by rw [show in64 7919 = true from rfl]; rfl)
    have m2 : ∀ n, fMul3 (.int n) (.int 48271) = some (.int (n * 48271), .frz) := fun n => fMul_int (by rw [show in64 48271 = true from rfl, Bool.or_true])
    have m3 : ∀ n m q : Int, 0 < q → q ≤ 2147483647 → fMul3 (.int (n % q)) (.int m) = some (.int (n % q * m), .frz) := fun n m q h h2 => fMul_int (by
      have z1 := Int.emod_nonneg n (show q ≠ 0 by omega)
      have z2 := Int.emod_lt_of_pos n h
      rw [in64_of (by omega) (by omega)]; rfl)
    refine ⟨drawN c e / 16 % many, _, semD_rt (k := .frz) ?_ (by decide), Int.emod_nonneg _ (by omega), Int.emod_lt_of_pos _ h0, ⟨cells, a, b, c, e + 1, rfl⟩⟩
    simp [parS, eA, drawB, drawC, hb, fMod_int, fMod_int h0, fFdiv_int, m1, m2, m3, drawN]
theorem any_ok {l : List D} (h : Tape tp) (h0 : 0 < l.length) (h1 : l.length < 1073741824) : ∃ d ∈ l, ∃ tp', sem__law_any [(.tape, false), (.lst l, false)] tp = .ok d .frz tp' ∧ Tape tp' := by
  obtain ⟨r, tp', e, r0, r1, hT⟩ := draw_ok (many := (l.length : Int)) h (by omega) (by omega)
  obtain ⟨d, hd, ed⟩ := atD_in r0 r1
  refine ⟨d, hd, tp', semD_rt (k := .frz) ?_ (by decide), hT⟩
  simp [m__law_any, parS, e, ed]
theorem rg_len (n : Nat) (h : n ≤ 1000000) : (rgD 0 n).length ≤ 16777216 := by
  unfold rgD
  rw [List.length_map, List.length_range]
  omega
theorem rep_lst {n : Int} (l : List D) (h0 : 0 ≤ n) (h1 : n ≤ 1000) (h2 : l.length ≤ 1000) : fMul3 (.lst l) (.int n) = some (.lst (List.replicate n.toNat l).flatten, .fr) := by
  show (if decide (-(2 ^ 63) ≤ n) && decide (n < 2 ^ 63) && decide (l.length * n.toNat ≤ 16777216) then _ else _) = _
  have : l.length * n.toNat ≤ 1000 * 1000 := Nat.mul_le_mul h2 (by omega)
  rw [decide_eq_true (by omega), decide_eq_true (by omega), decide_eq_true (by omega)]; rfl

theorem int_nat {r n : Int} (h : 0 ≤ r) (h2 : r < n) : ∃ k : Nat, r = k ∧ (k : Int) < n := ⟨r.toNat, by omega, by omega⟩
theorem rep_tup (x : D) (n : Nat) (h : n ≤ 1000) : fMul3 (.tup [x]) (.int n) = some (.tup (List.replicate n x), .frz) := by
  match n, h with
  | 0, _ => rfl
  | 1, _ => rfl
  | n + 2, h =>
    have e : (List.replicate ((n + 2 : Nat) : Int).toNat [x]).flatten = List.replicate (n + 2) x := by
      rw [show ((n + 2 : Nat) : Int).toNat = n + 2 from by omega]
      simp [List.flatten_replicate_singleton]
    show (if (((n + 2 : Nat) : Int) = 1) then some (D.tup [x], Kd.frz) else if decide (-(2 ^ 63) ≤ ((n + 2 : Nat) : Int)) && decide (((n + 2 : Nat) : Int) ≤ 0) && ![x].isEmpty then some (D.tup [], Kd.frz) else (if decide (2 ≤ ((n + 2 : Nat) : Int)) && decide (((n + 2 : Nat) : Int) ≤ 1000) && decide ([x].length ≤ 1000) && ![x].isEmpty then some (D.tup (List.replicate ((n + 2 : Nat) : Int).toNat [x]).flatten, Kd.frz) else none)) = _
    rw [if_neg (by omega), e]
    have h1 : decide (((n + 2 : Nat) : Int) ≤ 0) = false := decide_eq_false (by omega)
    have h2 : decide (2 ≤ ((n + 2 : Nat) : Int)) = true := decide_eq_true (by omega)
    have h3 : decide (((n + 2 : Nat) : Int) ≤ 1000) = true := decide_eq_true (by omega)
    rw [h1, h2, h3]
    simp
theorem rep_lst1 (x : D) (n : Nat) (h : n ≤ 1000) : fMul3 (.lst [x]) (.int n) = some (.lst (List.replicate n x), .fr) := by
  rw [rep_lst [x] (by omega) (by omega) (by simp)]
  simp [List.flatten_replicate_singleton]
/-! ### things -/
/-- a tuple of a to b ints of lo to hi -/
def tupB (a b lo hi : Int) : D → Bool
  | .tup l => decide (a ≤ (l.length : Int)) && decide ((l.length : Int) ≤ b) && l.all (inn lo hi)
  | _ => false
def isTup (a b : Int) : D → Bool
  | .tup l => decide (a ≤ (l.length : Int)) && decide ((l.length : Int) ≤ b)
  | _ => false
/-- a thing that may be looked at, and its items -/
def nice2 (d : D) : Prop := nice d ∧ ∀ l, d = .tup l → (∀ x ∈ l, nice x) ∧ l.length ≤ 1000
theorem isiT_tup {d : D} (h : nice d) : isiT nC .tup d = some (match d with | .tup _ => true | _ => false) := by
  unfold nice at h
  cases d with
  | ins c l =>
    match c, h with
    | 0, _ => rfl
    | c + 1, h => simp [isiT] at h
  | exc a dd c l => cases h
  | tape => cases h
  | thk T => cases h
  | _ => rfl
theorem q_tupleG {d : D} (h : nice d) {a b : Int} : sem_is_tuple [(d, false), (.int a, false), (.int b, false)] tp = .ok (.bl (isTup a b d)) .frz tp := by
  cases d with
  | tup l => exact q_tuple
  | _ =>
    refine semD_rt (k := .frz) ?_ (by decide)
    have e := isiT_tup h
    simp [m_is_tuple, parS, e, isTup]
theorem lc_items {S0 : Slots} {lo hi : Int} {l : List D} (hl : ∀ x ∈ l, nice x) {mp : D → Slots → Option Slots} {me : ME} (h : ∀ d : D, nice d → ∃ S1, mp d S0 = some S1 ∧ me S1 tp = .ok (.bl (inn lo hi d)) .frz tp) :
    lcD mp (mC (.bl true)) me S0 l tp = some (l.map fun x => D.bl (inn lo hi x), tp) := by
  have := lcD_all (mp := mp) (me := me) (S0 := S0) (tp := tp) (fun x : D => x) (fun x => D.bl (inn lo hi x)) l fun x hx => by
    obtain ⟨S1, h1, h2⟩ := h x (hl x hx)
    exact ⟨S1, .frz, h1, by decide, h2⟩
  simpa using this
theorem bls_items (l : List D) (lo hi : Int) : toBls (l.map fun x => D.bl (inn lo hi x)) = some (l.map (inn lo hi)) := toBls_of _ _
theorem all_items (l : List D) (lo hi : Int) : (l.map (inn lo hi)).all id = l.all (inn lo hi) := by rw [List.all_map]; rfl
theorem q_countsG {p : Int} {d : D} (h : nice2 d) : sem_is_counts [(.int p, false), (d, false)] tp = .ok (.bl (tupB p p 0 9 d)) .frz tp := by
  refine semD_rt (k := .frz) ?_ (by decide)
  have e1 := fun tp => q_tupleG (tp := tp) h.1 (a := p) (b := p)
  cases d with
  | tup l =>
    obtain ⟨h2, h3⟩ := h.2 l rfl
    have e : lcD (pNm 2) (mC (.bl true)) (mCall sem_is_within (mCons (mNm 2) (mCons (mC (.int 0)) (mCons (mC (.int 9)) (mNil))))) [some (.int p, .frz), some (.tup l, .frz), none] l tp = some (l.map fun x => D.bl (inn 0 9 x), tp) :=
      lc_items h2 fun d hd => ⟨_, rfl, by simp [q_within hd]⟩
    have hl : l.length ≤ 16777216 := by omega
    have e2 := bls_items l 0 9
    have e3 := all_items l 0 9
    generalize l.map (inn 0 9) = bs at *
    generalize (l.map fun x => D.bl (inn 0 9 x)) = ll at *
    cases hz : isTup p p (.tup l) with
    | true =>
      have hz' : (decide (p ≤ (l.length : Int)) && decide ((l.length : Int) ≤ p)) = true := hz
      simp only [tupB, hz', Bool.true_and]
      rw [← e3]
      simp [m_is_counts, parS, e1, hz, hl, e, e2]
    | false =>
      have hz' : (decide (p ≤ (l.length : Int)) && decide ((l.length : Int) ≤ p)) = false := hz
      simp only [tupB, hz', Bool.false_and]
      simp [m_is_counts, parS, e1, hz]
  | _ => simp [m_is_counts, parS, e1, isTup, tupB]
theorem q_markG {p : Int} {ds : Dd} {d : D} (h : nice2 d) : sem_is_mark [(nD p ds, false), (d, false)] tp = .ok (.bl (tupB p p 0 1000000 d)) .frz tp := by
  refine semD_rt (k := .frz) ?_ (by decide)
  have e1 := fun tp => q_tupleG (tp := tp) h.1 (a := p) (b := p)
  have f1 : fi_places 0 = some 0 := rfl
  cases d with
  | tup l =>
    obtain ⟨h2, h3⟩ := h.2 l rfl
    have e : lcD (pNm 2) (mC (.bl true)) (mCall sem_is_within (mCons (mNm 2) (mCons (mC (.int 0)) (mCons (mC (.int 1000000)) (mNil))))) [some (nD p ds, .frz), some (.tup l, .frz), none] l tp = some (l.map fun x => D.bl (inn 0 1000000 x), tp) :=
      lc_items h2 fun d hd => ⟨_, rfl, by simp [q_within hd]⟩
    have hl : l.length ≤ 16777216 := by omega
    have e2 := bls_items l 0 1000000
    have e3 := all_items l 0 1000000
    generalize l.map (inn 0 1000000) = bs at *
    generalize (l.map fun x => D.bl (inn 0 1000000 x)) = ll at *
    cases hz : isTup p p (.tup l) with
    | true =>
      have hz' : (decide (p ≤ (l.length : Int)) && decide ((l.length : Int) ≤ p)) = true := hz
      simp only [tupB, hz', Bool.true_and]
      rw [← e3]
      simp [m_is_mark, parS, f1, e1, hz, hl, e, e2]
    | false =>
      have hz' : (decide (p ≤ (l.length : Int)) && decide ((l.length : Int) ≤ p)) = false := hz
      simp only [tupB, hz', Bool.false_and]
      simp [m_is_mark, parS, f1, e1, hz]
  | _ => simp [m_is_mark, parS, f1, e1, isTup, tupB]
theorem q_rowG {p : Int} {ds : Dd} {d : D} (h : nice2 d) : sem_is_row [(nD p ds, false), (d, false)] tp = .ok (.bl (tupB 0 200 0 ((ds.length : Int) - 1) d)) .frz tp := by
  refine semD_rt (k := .frz) ?_ (by decide)
  have e1 := fun tp => q_tupleG (tp := tp) h.1 (a := 0) (b := 200)
  have f1 : fi_deeds 0 = some 1 := rfl
  cases d with
  | tup l =>
    obtain ⟨h2, h3⟩ := h.2 l rfl
    have e : lcD (pNm 2) (mC (.bl true)) (mCall sem_is_within (mCons (mNm 2) (mCons (mC (.int 0)) (mCons (mBin fSub (mB fLen (mCons (mFld fi_deeds (mNm 0)) (mNil))) (mC (.int 1))) (mNil))))) [some (nD p ds, .frz), some (.tup l, .frz), none] l tp = some (l.map fun x => D.bl (inn 0 ((ds.length : Int) - 1) x), tp) :=
      lc_items h2 fun d hd => ⟨_, rfl, by simp [q_within hd, f1]⟩
    have hl : l.length ≤ 16777216 := by omega
    have e2 := bls_items l 0 ((ds.length : Int) - 1)
    have e3 := all_items l 0 ((ds.length : Int) - 1)
    generalize l.map (inn 0 ((ds.length : Int) - 1)) = bs at *
    generalize (l.map fun x => D.bl (inn 0 ((ds.length : Int) - 1) x)) = ll at *
    cases hz : isTup 0 200 (.tup l) with
    | true =>
      have hz' : (decide (0 ≤ (l.length : Int)) && decide ((l.length : Int) ≤ 200)) = true := hz
      simp only [tupB, hz', Bool.true_and]
      rw [← e3]
      simp [m_is_row, parS, f1, e1, hz, hl, e, e2]
    | false =>
      have hz' : (decide (0 ≤ (l.length : Int)) && decide ((l.length : Int) ≤ 200)) = false := hz
      simp only [tupB, hz', Bool.false_and]
      simp [m_is_row, parS, f1, e1, hz]
  | _ => simp [m_is_row, parS, f1, e1, isTup, tupB]
end K01

/-! K01c: drawn marks and deeds. -/
namespace K01
open PySem L2 PV
variable {tp : Tp}
abbrev dRow (p : List Int × List Int) : D := D.tup [tI p.1, tI p.2]
/-- n ints of 0 to j -/
def few (n : Nat) (j : Int) (xs : List Int) : Prop := xs.length = n ∧ ∀ x ∈ xs, 0 ≤ x ∧ x ≤ j
theorem few_rep (n : Nat) : few n 0 (List.replicate n 0) := ⟨by simp, fun x hx => by rw [(List.mem_replicate.mp hx).2]; omega⟩
theorem few_set {n : Nat} {j : Int} {xs : List Int} (h : few n j xs) (i : Nat) : few n (j + 1) (xs.set i (xs.getD i 0 + 1)) := by
  refine ⟨by rw [List.length_set]; exact h.1, fun x hx => ?_⟩
  rcases List.mem_or_eq_of_mem_set hx with z | z
  · have := h.2 x z; omega
  · subst z
    rw [List.getD_eq_getElem?_getD]
    cases e : xs[i]? with
    | none =>
      by_cases hi : i < xs.length
      · rw [List.getElem?_eq_getElem hi] at e; cases e
      · rw [List.set_eq_of_length_le (by omega)] at hx
        have := h.2 _ hx
        rw [List.getD_eq_getElem?_getD, e] at this
        omega
    | some y =>
      have := h.2 y (List.mem_of_getElem? e)
      simp; omega
theorem few_mono {n : Nat} {j k : Int} {xs : List Int} (h : few n j xs) (hk : j ≤ k) : few n k xs := ⟨h.1, fun x hx => by have := h.2 x hx; omega⟩
theorem at_few {n : Nat} {j : Int} {xs : List Int} (h : few n j xs) {r : Int} (h0 : 0 ≤ r) (h1 : r < n) : atD (xs.map D.int) r = some (.int (xs.getD r.toNat 0)) ∧ plD (xs.map D.int).length r = some r.toNat := by
  have hl : r.toNat < xs.length := by rw [h.1]; omega
  refine ⟨?_, plD_in h0 (by rw [List.length_map, h.1]; exact h1)⟩
  rw [atD_pos h0, List.getElem?_map, List.getElem?_eq_getElem hl, List.getD_eq_getElem?_getD, List.getElem?_eq_getElem hl]; rfl
theorem set_D (xs : List Int) (i : Nat) (v : Int) : (xs.map D.int).set i (.int v) = (xs.set i v).map D.int := by rw [List.map_set]
def InvM (n : Nat) (most : D) (j : Nat) (S : Slots) (t : Tp) : Prop := ∃ xs x4, S = [some (.tape, .frz), some (.int n, .frz), some (most, .frz), some (.lst (xs.map D.int), .own), x4] ∧ few n j xs ∧ Tape t ∧ nl x4 = true
theorem q_lmark {n : Nat} {most : Int} (hn : n ≤ 1000) (h0 : 0 ≤ most) (h1 : most ≤ 1000) (hT : Tape tp) : ∃ xs tp', sem__law_mark [(.tape, false), (.int n, false), (.int most, false)] tp = .ok (tI xs) .frz tp' ∧ few n most xs ∧ Tape tp' := by
  obtain ⟨r, tp1, e1, r0, r1, hT1⟩ := draw_ok (many := most + 1) hT (by omega) (by omega)
  obtain ⟨S', tp', f1, xs, x4, rfl, hf, hT', n4⟩ := forD_rg (mp := pNm 4) (body := (mIfS (mBin fGt (mNm 1) (mC (.int 0))) (mAugS 3 (fun i j => i + j) (mCall sem__law_pick (mCons (mNm 0) (mCons (mNm 1) (mNil)))) (mC (.int 1))) (mNext))) r.toNat (InvM n (.int most))
    (fun i hi S t ⟨xs, x4, eS, hf, hT, n4⟩ => by
      subst eS
      by_cases hz : n = 0
      · subst hz
        have hx : ∃ ys y4, [some (.tape, .frz), some (.int 0, .frz), some (.int most, .frz), some (.lst (xs.map D.int), .own), some (D.int i, .frz)] = [some (.tape, .frz), some (.int 0, .frz), some (.int most, .frz), some (.lst (ys.map D.int), .own), y4] ∧ few 0 ((i : Int) + 1) ys ∧ Tape t ∧ nl y4 = true := ⟨xs, _, rfl, few_mono hf (by omega), hT, rfl⟩
        simp [n4, InvM]
        simpa using hx
      · obtain ⟨q, t2, e2, q0, q1, hT2⟩ := draw_ok (many := (n : Int)) hT (by omega) (by omega)
        obtain ⟨a1, a2⟩ := at_few hf q0 q1
        have a3 := set_D xs q.toNat (xs.getD q.toNat 0 + 1)
        have hf2 := few_set hf q.toNat
        have hz' : 0 < n := by omega
        have hx : InvM n (.int most) (i + 1) [some (.tape, .frz), some (.int n, .frz), some (.int most, .frz), some (.lst ((xs.set q.toNat (xs.getD q.toNat 0 + 1)).map D.int), .own), some (D.int i, .frz)] t2 := ⟨_, _, rfl, by simpa using hf2, hT2, rfl⟩
        generalize (xs.set q.toNat (xs.getD q.toNat 0 + 1)).map D.int = yy at *
        generalize xs.map D.int = ll at *
        generalize xs.getD q.toNat 0 = v at *
        simp [n4, hz', e2, a1, a2, a3]
        exact hx)
    (S := [some (.tape, .frz), some (.int n, .frz), some (.int most, .frz), some (.lst ((List.replicate n (0 : Int)).map D.int), .own), none]) (tp := tp1) ⟨_, none, rfl, few_rep n, hT1, rfl⟩
  refine ⟨xs, tp', semD_rt (k := .frz) ?_ (by decide), few_mono hf (by omega), hT'⟩
  have m1 : fMul3 (.lst [.int 0]) (.int n) = some (.lst ((List.replicate n (0 : Int)).map D.int), .fr) := by rw [rep_lst1 _ _ hn, List.map_replicate]
  have e5 := fun k tp => rngO_int r0 (show r ≤ 1000000 by omega) k tp
  generalize (List.replicate n (0 : Int)).map D.int = zz at *
  simp [m__law_mark, parS, m1, e1, e5, f1]
end K01

/-! K01d: drawn deeds. -/
namespace K01
open PySem L2 PV
variable {tp : Tp}
/-- the head of a state of _law_deeds -/
def InvT (n : Nat) (rr : List D) (xd : D) (x6 : Option (D × Fl)) (j : Nat) (S : Slots) (t : Tp) : Prop := ∃ xs x7, S = [some (.tape, .frz), some (.int n, .frz), some (.bl false, .frz), some (.lst rr, .own), some (xd, .frz), some (.lst (xs.map D.int), .own), x6, x7] ∧ few n j xs ∧ Tape t ∧ nl x7 = true
def InvP (n : Nat) (rr : List D) (xd : D) (x5 : Option (D × Fl)) (j : Nat) (S : Slots) (t : Tp) : Prop := ∃ xs x7, S = [some (.tape, .frz), some (.int n, .frz), some (.bl false, .frz), some (.lst rr, .own), some (xd, .frz), x5, some (.lst (xs.map D.int), .own), x7] ∧ few n j xs ∧ Tape t ∧ nl x7 = true
def InvO (n : Nat) (j : Nat) (S : Slots) (t : Tp) : Prop := ∃ ds x4 x5 x6 x7, S = [some (.tape, .frz), some (.int n, .frz), some (.bl false, .frz), some (.lst (ds.map dRow), .own), x4, x5, x6, x7] ∧ (ds.length = j ∧ okD n ds) ∧ Tape t ∧ nl x4 = true ∧ nl x5 = true ∧ nl x6 = true ∧ nl x7 = true
theorem stepT {n : Nat} {rr : List D} {xd : D} {x6 : Option (D × Fl)} {i : Nat} {S : Slots} {t : Tp} (h : InvT n rr xd x6 i S t) (hn : n ≤ 1000) : NxtO (InvT n rr xd x6 (i + 1)) (fun S1 => (mIfS (mBin fGt (mNm 1) (mC (.int 0))) (mAugS 5 (fun i j => i + j) (mCall sem__law_pick (mCons (mNm 0) (mCons (mNm 1) (mNil)))) (mC (.int 1))) (mNext)) S1 t) (pNm 7 (.int i) S) := by
  obtain ⟨xs, x7, eS, hf, hT, n7⟩ := h
  subst eS
  by_cases hz : n = 0
  · subst hz
    have hx : InvT 0 rr xd x6 (i + 1) [some (.tape, .frz), some (.int (0 : Nat), .frz), some (.bl false, .frz), some (.lst rr, .own), some (xd, .frz), some (.lst (xs.map D.int), .own), x6, some (D.int i, .frz)] t := ⟨xs, _, rfl, few_mono hf (by omega), hT, rfl⟩
    simp [n7]
    exact hx
  · obtain ⟨q, t2, e2, q0, q1, hT2⟩ := draw_ok (many := (n : Int)) hT (by omega) (by omega)
    obtain ⟨a1, a2⟩ := at_few hf q0 q1
    have a3 := set_D xs q.toNat (xs.getD q.toNat 0 + 1)
    have hf2 := few_set hf q.toNat
    have hz' : 0 < n := by omega
    have hx : InvT n rr xd x6 (i + 1) [some (.tape, .frz), some (.int n, .frz), some (.bl false, .frz), some (.lst rr, .own), some (xd, .frz), some (.lst ((xs.set q.toNat (xs.getD q.toNat 0 + 1)).map D.int), .own), x6, some (D.int i, .frz)] t2 := ⟨_, _, rfl, by simpa using hf2, hT2, rfl⟩
    generalize (xs.set q.toNat (xs.getD q.toNat 0 + 1)).map D.int = yy at *
    generalize xs.map D.int = ll at *
    generalize xs.getD q.toNat 0 = v at *
    simp [n7, hz', e2, a1, a2, a3]
    exact hx
theorem stepP {n : Nat} {rr : List D} {xd : D} {x5 : Option (D × Fl)} {i : Nat} {S : Slots} {t : Tp} (h : InvP n rr xd x5 i S t) (hn : n ≤ 1000) : NxtO (InvP n rr xd x5 (i + 1)) (fun S1 => (mIfS (mBin fGt (mNm 1) (mC (.int 0))) (mAugS 6 (fun i j => i + j) (mCall sem__law_pick (mCons (mNm 0) (mCons (mNm 1) (mNil)))) (mC (.int 1))) (mNext)) S1 t) (pNm 7 (.int i) S) := by
  obtain ⟨xs, x7, eS, hf, hT, n7⟩ := h
  subst eS
  by_cases hz : n = 0
  · subst hz
    have hx : InvP 0 rr xd x5 (i + 1) [some (.tape, .frz), some (.int (0 : Nat), .frz), some (.bl false, .frz), some (.lst rr, .own), some (xd, .frz), x5, some (.lst (xs.map D.int), .own), some (D.int i, .frz)] t := ⟨xs, _, rfl, few_mono hf (by omega), hT, rfl⟩
    simp [n7]
    exact hx
  · obtain ⟨q, t2, e2, q0, q1, hT2⟩ := draw_ok (many := (n : Int)) hT (by omega) (by omega)
    obtain ⟨a1, a2⟩ := at_few hf q0 q1
    have a3 := set_D xs q.toNat (xs.getD q.toNat 0 + 1)
    have hf2 := few_set hf q.toNat
    have hz' : 0 < n := by omega
    have hx : InvP n rr xd x5 (i + 1) [some (.tape, .frz), some (.int n, .frz), some (.bl false, .frz), some (.lst rr, .own), some (xd, .frz), x5, some (.lst ((xs.set q.toNat (xs.getD q.toNat 0 + 1)).map D.int), .own), some (D.int i, .frz)] t2 := ⟨_, _, rfl, by simpa using hf2, hT2, rfl⟩
    generalize (xs.set q.toNat (xs.getD q.toNat 0 + 1)).map D.int = yy at *
    generalize xs.map D.int = ll at *
    generalize xs.getD q.toNat 0 = v at *
    simp [n7, hz', e2, a1, a2, a3]
    exact hx
theorem okC_few {n : Nat} {j : Int} {xs : List Int} (h : few n j xs) (hj : j ≤ 9) : okC n xs := ⟨by rw [h.1], fun x hx => by have := h.2 x hx; omega⟩
theorem q_ldeeds {n : Nat} (hn : n ≤ 12) (hT : Tape tp) : ∃ ds tp', sem__law_deeds [(.tape, false), (.int n, false), (.bl false, false)] tp = .ok (dD ds) .frz tp' ∧ ds.length ≤ 4 ∧ okD n ds ∧ Tape tp' := by
  obtain ⟨r, tp1, e1, r0, r1, hT1⟩ := draw_ok (many := 5) hT (by decide) (by decide)
  have m1 : fMul3 (.lst [.int 0]) (.int n) = some (.lst ((List.replicate n (0 : Int)).map D.int), .fr) := by rw [rep_lst1 _ _ (by omega), List.map_replicate]
  obtain ⟨S', tp', f1, ds, x4, x5, x6, x7, rfl, ⟨hl, hd⟩, hT', n4, n5, n6, n7⟩ := forD_rg (mp := pNm 4) (body := (mSeq (mPar [5, 6] (mKc (mBin fMul3 (mLst (mCons (mC (.int 0)) (mNil))) (mNm 1)) (mKc (mBin fMul3 (mLst (mCons (mC (.int 0)) (mNil))) (mNm 1)) (mKn)))) (mSeq (mFor (mRng (mCons (mBin fAdd (mCall sem__law_pick (mCons (mNm 0) (mCons (mC (.int 3)) (mNil)))) (mIf (mTru (mNm 2)) (mC (.int 1)) (mC (.int 0)))) (mNil))) (pNm 7) (mIfS (mBin fGt (mNm 1) (mC (.int 0))) (mAugS 5 (fun i j => i + j) (mCall sem__law_pick (mCons (mNm 0) (mCons (mNm 1) (mNil)))) (mC (.int 1))) (mNext))) (mSeq (mFor (mRng (mCons (mIf (mTru (mNm 2)) (mCall sem__law_pick (mCons (mNm 0) (mCons (mBin fAdd (mB fSum1 (mCons (mNm 5) (mNil))) (mC (.int 1))) (mNil)))) (mCall sem__law_pick (mCons (mNm 0) (mCons (mC (.int 4)) (mNil))))) (mNil))) (pNm 7) (mIfS (mBin fGt (mNm 1) (mC (.int 0))) (mAugS 6 (fun i j => i + j) (mCall sem__law_pick (mCons (mNm 0) (mCons (mNm 1) (mNil)))) (mC (.int 1))) (mNext))) (mSeq (mIfS (mAnd (mTru (mNm 2)) (mAnd (mBin fEq3 (mCall sem__law_pick (mCons (mNm 0) (mCons (mC (.int 2)) (mNil)))) (mC (.int 0))) (mBin fGt (mNm 1) (mC (.int 0))))) (mAugS 6 (fun i j => i + j) (mCall sem__law_pick (mCons (mNm 0) (mCons (mNm 1) (mNil)))) (mBin fSub (mB fSum1 (mCons (mNm 5) (mNil))) (mB fSum1 (mCons (mNm 6) (mNil))))) (mNext)) (mMut 3 uApp (mTup (mCons (mB fTuple (mCons (mNm 5) (mNil))) (mCons (mB fTuple (mCons (mNm 6) (mNil))) (mNil)))))))))) r.toNat (InvO n)
    (fun i hi S t ⟨ds, x4, x5, x6, x7, eS, ⟨hl, hd⟩, hT, n4, n5, n6, n7⟩ => by
      subst eS
      obtain ⟨q1, t1, d1, u0, u1, hT1⟩ := draw_ok (many := 3) hT (by decide) (by decide)
      have hlD : (ds.map dRow).length = i := by rw [List.length_map, hl]
      obtain ⟨S1, t2, g1, xs, y7, rfl, hf1, hT2, n7⟩ := forD_rg (mp := pNm 7) (body := (mIfS (mBin fGt (mNm 1) (mC (.int 0))) (mAugS 5 (fun i j => i + j) (mCall sem__law_pick (mCons (mNm 0) (mCons (mNm 1) (mNil)))) (mC (.int 1))) (mNext))) q1.toNat (InvT n (ds.map dRow) (.int i) (some (.lst ((List.replicate n (0 : Int)).map D.int), .own))) (fun j hj S t h => stepT h (by omega))
        (S := [some (.tape, .frz), some (.int n, .frz), some (.bl false, .frz), some (.lst (ds.map dRow), .own), some (.int i, .frz), some (.lst ((List.replicate n (0 : Int)).map D.int), .own), some (.lst ((List.replicate n (0 : Int)).map D.int), .own), x7]) (tp := t1) ⟨_, _, rfl, few_rep n, hT1, n7⟩
      obtain ⟨q2, t3, d2, v0, v1, hT3⟩ := draw_ok (many := 4) hT2 (by decide) (by decide)
      obtain ⟨S2, t4, g2, ys, z7, rfl, hf2, hT4, n7'⟩ := forD_rg (mp := pNm 7) (body := (mIfS (mBin fGt (mNm 1) (mC (.int 0))) (mAugS 6 (fun i j => i + j) (mCall sem__law_pick (mCons (mNm 0) (mCons (mNm 1) (mNil)))) (mC (.int 1))) (mNext))) q2.toNat (InvP n (ds.map dRow) (.int i) (some (.lst (xs.map D.int), .own))) (fun j hj S t h => stepP h (by omega))
        (S := [some (.tape, .frz), some (.int n, .frz), some (.bl false, .frz), some (.lst (ds.map dRow), .own), some (.int i, .frz), some (.lst (xs.map D.int), .own), some (.lst ((List.replicate n (0 : Int)).map D.int), .own), y7]) (tp := t3) ⟨_, _, rfl, few_rep n, hT3, n7⟩
      have w1 := fun k tp => rngO_int u0 (show q1 ≤ 1000000 by omega) k tp
      have w2 := fun k tp => rngO_int v0 (show q2 ≤ 1000000 by omega) k tp
      have hx : InvO n (i + 1) [some (.tape, .frz), some (.int n, .frz), some (.bl false, .frz), some (.lst (ds.map dRow ++ [dRow (xs, ys)]), .own), some (.int i, .frz), some (.lst (xs.map D.int), .own), some (.lst (ys.map D.int), .own), z7] t4 :=
        ⟨ds ++ [(xs, ys)], _, _, _, _, by rw [List.map_append]; rfl, ⟨by simp [hl], fun d hd' => by
          rcases List.mem_append.mp hd' with z | z
          · exact hd d z
          · rw [List.mem_singleton.mp z]
            exact ⟨okC_few hf1 (by omega), okC_few hf2 (by omega)⟩⟩, hT4, rfl, rfl, rfl, n7'⟩
      simp only [dRow, tI] at hx ⊢
      generalize ds.map dRow = rr at *
      generalize (List.replicate n (0 : Int)).map D.int = zz at *
      generalize xs.map D.int = x1 at *
      generalize ys.map D.int = x2 at *
      have ul : rr.length < 16777216 := by omega
      simp [n4, n5, n6, m1, d1, d2, w1, w2, g1, g2, ul]
      exact hx)
    (S := [some (.tape, .frz), some (.int n, .frz), some (.bl false, .frz), some (.lst [], .own), none, none, none, none]) (tp := tp1) ⟨[], _, _, _, _, rfl, ⟨rfl, fun d hd => nomatch hd⟩, hT1, rfl, rfl, rfl, rfl⟩
  refine ⟨ds, tp', semD_rt (k := .frz) ?_ (by decide), by omega, hd, hT'⟩
  have e5 := fun k tp => rngO_int r0 (show r ≤ 1000000 by omega) k tp
  have hD : dD ds = .tup (ds.map dRow) := rfl
  rw [hD]
  generalize ds.map dRow = rr at *
  simp [m__law_deeds, parS, e1, e5, f1]
end K01

/-! K01e: deeds, done, words. -/
namespace K01
open PySem L2 PV
variable {tp : Tp}
theorem isiC_ins (l : List D) : isiC nC 0 (.ins 0 l) = some true := rfl
@[simp] theorem fi_p : fi_places 0 = some 0 := rfl
@[simp] theorem fi_d : fi_deeds 0 = some 1 := rfl
/-! ### deeds -/
def can (dd : Dd) (m : List Int) (i : Nat) : Bool := (m.zip (dd.getD i ([], [])).1).all fun p => decide (p.2 ≤ p.1)
def rdy (dd : Dd) (m : List Int) : List Nat := (List.range dd.length).filter (can dd m)
def beh (dd : Dd) (m : List Int) (i : Nat) : List Int := (zip3 m (dd.getD i ([], [])).1 (dd.getD i ([], [])).2).map fun p => p.1 - p.2.1 + p.2.2
theorem deed_at {dd : Dd} {i : Nat} (h : i < dd.length) : atD (dd.map fun p => D.tup [tI p.1, tI p.2]) (i : Int) = some (.tup [tI (dd.getD i ([], [])).1, tI (dd.getD i ([], [])).2]) := by
  rw [atD_nat, List.getElem?_map, List.getElem?_eq_getElem h, List.getD_eq_getElem?_getD, List.getElem?_eq_getElem h]; rfl
theorem fZip2_tt (a b : List Int) : fZip2 [tI a, tI b] = some ((a.zip b).map fun p => D.tup [.int p.1, .int p.2]) := congrArg some (zip2_map D.int D.int a b)
theorem fZip3_tt (a b c : List Int) : fZip3 [tI a, tI b, tI c] = some ((zip3 a b c).map fun p => D.tup [.int p.1, .int p.2.1, .int p.2.2]) := congrArg some (zip3_map D.int D.int D.int a b c)
theorem zip_len {a b : List Int} (h : a.length ≤ 1000) : (a.zip b).length ≤ 16777216 := by rw [List.length_zip]; omega
theorem zip3_len {α β γ : Type} : ∀ (a : List α) (b : List β) (c : List γ), (zip3 a b c).length ≤ a.length
  | [], _, _ => by simp [zip3]
  | _ :: _, [], _ => by simp [zip3]
  | _ :: _, _ :: _, [] => by simp [zip3]
  | _ :: a, _ :: b, _ :: c => by
    have := zip3_len a b c
    simp [zip3, this]
theorem beh_len (dd : Dd) (m : List Int) (i : Nat) : (beh dd m i).length ≤ m.length := by
  unfold beh
  rw [List.length_map]
  exact zip3_len _ _ _
theorem lc_ge {S0 : Slots} {i j : Nat} {tp : Tp} (xs : List (Int × Int)) {mp : D → Slots → Option Slots} {me : ME} (h : ∀ a b : Int, ∃ S1, mp (.tup [.int a, .int b]) S0 = some S1 ∧ me S1 tp = .ok (.bl (decide (b ≤ a))) .frz tp) :
    lcD mp (mC (.bl true)) me S0 (xs.map fun p => D.tup [.int p.1, .int p.2]) tp = some (xs.map fun p => D.bl (decide (p.2 ≤ p.1)), tp) :=
  lcD_all _ _ xs fun x _ => by
    obtain ⟨S1, h1, h2⟩ := h x.1 x.2
    exact ⟨S1, .frz, h1, by decide, h2⟩
theorem all_map {α : Type} (xs : List α) (p : α → Bool) : ((xs.map p).all id) = xs.all p := by
  rw [List.all_map]; rfl
theorem q_can {p : Int} {dd : Dd} {m : List Int} {i : Nat} (hi : i < dd.length) (hm : m.length ≤ 1000) : sem_can_do [(nD p dd, false), (tI m, false), (.int i, false)] tp = .ok (.bl (can dd m i)) .frz tp := by
  refine semD_rt (k := .frz) ?_ (by decide)
  have d1 := deed_at hi
  unfold can
  generalize dd.getD i ([], []) = q at d1 ⊢
  have hz := zip_len (b := q.1) hm
  have e : lcD (pTup (pCons (pNm 3) (pCons (pNm 4) pNil))) (mC (.bl true)) (mBin fGe (mNm 3) (mNm 4)) [some (nD p dd, .frz), some (tI m, .frz), some (.int i, .frz), none, none] ((m.zip q.1).map fun p => D.tup [.int p.1, .int p.2]) tp = some ((m.zip q.1).map fun p => D.bl (decide (p.2 ≤ p.1)), tp) :=
    lc_ge (i := 0) (j := 0) _ fun a b => ⟨_, rfl, by simp⟩
  have e2 := fZip2_tt m q.1
  generalize m.zip q.1 = z at hz e e2 ⊢
  simp [m_can_do, parS, d1, e2, hz, e, toBls_of, all_map, -List.all_map]
theorem q_behind {p : Int} {dd : Dd} {m : List Int} {i : Nat} (hi : i < dd.length) (hm : m.length ≤ 1000) : sem_behind [(nD p dd, false), (tI m, false), (.int i, false)] tp = .ok (tI (beh dd m i)) .frz tp := by
  refine semD_rt (k := .frz) ?_ (by decide)
  have d1 := deed_at hi
  unfold beh
  generalize dd.getD i ([], []) = q at d1 ⊢
  have hz := Nat.le_trans (zip3_len m q.1 q.2) hm
  have e2 := fZip3_tt m q.1 q.2
  have e : lcD (pTup (pCons (pNm 5) (pCons (pNm 6) (pCons (pNm 7) (pNil))))) (mC (.bl true)) (mBin fAdd (mBin fSub (mNm 5) (mNm 6)) (mNm 7)) [some (nD p dd, .frz), some (tI m, .frz), some (.int i, .frz), some (tI q.1, .frz), some (tI q.2, .frz), none, none, none] ((zip3 m q.1 q.2).map fun p => D.tup [.int p.1, .int p.2.1, .int p.2.2]) tp = some ((zip3 m q.1 q.2).map fun p => D.int (p.1 - p.2.1 + p.2.2), tp) :=
    lcD_all _ _ _ fun x _ => ⟨_, .frz, rfl, by decide, by simp⟩
  generalize zip3 m q.1 q.2 = z at hz e e2 ⊢
  have hz : z.length ≤ 16777216 := by omega
  simp [m_behind, parS, d1, e2, hz, e, Function.comp_def]
theorem q_ready {p : Int} {dd : Dd} {m : List Int} (hd : dd.length ≤ 1000) (hm : m.length ≤ 1000) : sem_ready_of [(nD p dd, false), (tI m, false)] tp = .ok (.lst ((rdy dd m).map fun i : Nat => D.int i)) .fr tp := by
  refine semD_rt (k := .fr) ?_ (by decide)
  have e : lcD (pNm 2) (mTru (mCall sem_can_do (mCons (mNm 0) (mCons (mNm 1) (mCons (mNm 2) (mNil)))))) (mNm 2) [some (nD p dd, .frz), some (tI m, .frz), none] (rgD 0 dd.length) tp = some ((rdy dd m).map fun i : Nat => D.int i, tp) := by
    refine lcD_map (fun i : Nat => D.int (0 + (i : Int))) (can dd m) (fun i : Nat => D.int i) _ fun i hi => ⟨_, rfl, ⟨.frz, ?_⟩, fun _ => ⟨.frz, by decide, ?_⟩⟩
    · have hi := List.mem_range.mp hi
      simp [q_can hi hm]
    · simp
  have hl : dd.length ≤ 1000000 := by omega
  have hl2 : (rgD 0 dd.length).length ≤ 16777216 := by
    unfold rgD
    rw [List.length_map, List.length_range]
    omega
  simp [m_ready_of, parS, rngO_nat hl, hl2, e]
def okM (p : Int) (m : List Int) : Prop := (m.length : Int) = p ∧ ∀ x ∈ m, 0 ≤ x ∧ x ≤ 1000000
theorem q_readyA {p : Int} {dd : Dd} {m : List Int} (hd : dd.length ≤ 1000) (hm : okM p m) (hp : p ≤ 1000) : sem_ready [(nD p dd, false), (tI m, false)] tp = .ok (.lst ((rdy dd m).map fun i : Nat => D.int i)) .fr tp := by
  refine semD_rt (k := .fr) ?_ (by decide)
  have hl := hm.1
  have e1 := fun tp => q_check_mark (tp := tp) (ds := dd) hm.1 hm.2 hp
  have e2 := fun tp => q_ready (tp := tp) (p := p) hd (show m.length ≤ 1000 by omega)
  generalize (rdy dd m).map (fun i : Nat => D.int i) = rr at *
  simp [m_ready, parS, e1, e2]
theorem foldl_max (n : Int) : ∀ (xs : List Int) (a : Int), a ≤ n → (∀ x ∈ xs, x ≤ n) → xs.foldl max a ≤ n
  | [], a, h, _ => h
  | x :: xs, a, h, h2 => foldl_max n xs (max a x) (by have := h2 x (List.mem_cons_self ..); omega) fun y hy => h2 y (List.mem_cons_of_mem _ hy)
theorem rdy_mem {dd : Dd} {m : List Int} {i : Nat} (h : i ∈ rdy dd m) : i < dd.length ∧ can dd m i = true := by
  unfold rdy at h
  rw [List.mem_filter] at h
  exact ⟨List.mem_range.mp h.1, h.2⟩
theorem q_done {p : Int} {dd : Dd} {m : List Int} {i : Nat} (hd : dd.length ≤ 1000) (hm : okM p m) (hp : p ≤ 1000) (hi : i ∈ rdy dd m) (hb : okM p (beh dd m i)) : sem_done [(nD p dd, false), (tI m, false), (.int i, false)] tp = .ok (tI (beh dd m i)) .frz tp := by
  refine semD_rt (k := .frz) ?_ (by decide)
  obtain ⟨h1, h2⟩ := rdy_mem hi
  have hl := hm.1
  have hbl := hb.1
  have e1 := fun tp => q_check_mark (tp := tp) (ds := dd) hm.1 hm.2 hp
  have e2 : ∀ tp, sem_check_deed [(nD p dd, false), (.int i, false)] tp = .ok .non .frz tp := fun tp => by
    refine semD_nx (S := [some (nD p dd, .frz), some (.int i, .frz)]) ?_
    have i1 : inn 0 ((dd.length : Int) - 1) (.int i) = true := inn_int (by omega) (by omega)
    simp [m_check_deed, parS, q_within (nice_int _), i1]
  have e3 := fun tp => q_can (tp := tp) (p := p) (m := m) h1 (by omega)
  rw [h2] at e3
  have e4 := fun tp => q_behind (tp := tp) (p := p) (m := m) h1 (by omega)
  have e5 := fMax1_tup 0 (beh dd m i)
  have e6 := foldl_max 1000000 (beh dd m i) 0 (by omega) fun x hx => (hb.2 x hx).2
  have e7 : fAdd (.tup [.int 0]) (tI (beh dd m i)) = some (.tup ((0 :: beh dd m i).map D.int), .frz) := if_pos (by simp; omega)
  have e8 : ¬ (1000000 < List.foldl max 0 (beh dd m i)) := by omega
  generalize (0 :: beh dd m i).map D.int = zz at *
  generalize List.foldl max 0 (beh dd m i) = mx at *
  generalize tI (beh dd m i) = bb at *
  generalize tI m = mm at *
  generalize nD p dd = nn at *
  simp [m_done, parS, e1, e2, e3, e4, e5, e7, e8]
theorem q_lready {dd : Dd} {m : List Int} (hd : dd.length ≤ 1000) (hm : m.length ≤ 1000) : sem__law_ready [(dD dd, false), (tI m, false)] tp = .ok (.lst ((rdy dd m).map fun i : Nat => D.int i)) .fr tp := by
  refine semD_rt (k := .fr) ?_ (by decide)
  have e : lcD (pTup (pCons (pNm 2) (pCons (pNm 3) (pNil)))) (mTru (mB fAll (mCons (mLc (mArgI fZip2 (mCons (mNm 1) (mCons (mBin fIx (mNm 3) (mC (.int 0))) (mNil)))) (pTup (pCons (pNm 4) (pCons (pNm 5) (pNil)))) (mC (.bl true)) (mBin fGe (mNm 4) (mNm 5)) [4, 5]) (mNil)))) (mNm 2) [some (dD dd, .frz), some (tI m, .frz), none, none, none, none] (dd.zipIdx.map fun q => D.tup [.int (q.2 : Int), .tup [tI q.1.1, tI q.1.2]]) tp = some ((dd.zipIdx.filter fun q => (m.zip q.1.1).all fun p => decide (p.2 ≤ p.1)).map fun q => D.int q.2, tp) := by
    refine lcD_map (fun q : (List Int × List Int) × Nat => D.tup [.int (q.2 : Int), .tup [tI q.1.1, tI q.1.2]]) (fun q => (m.zip q.1.1).all fun p => decide (p.2 ≤ p.1)) (fun q => D.int q.2) _ fun q hq => ⟨_, rfl, ⟨.frz, ?_⟩, fun _ => ⟨.frz, by decide, ?_⟩⟩
    · have hz := zip_len (b := q.1.1) hm
      have e : lcD (pTup (pCons (pNm 4) (pCons (pNm 5) pNil))) (mC (.bl true)) (mBin fGe (mNm 4) (mNm 5)) [some (dD dd, .frz), some (tI m, .frz), some (.int q.2, .frz), some (.tup [tI q.1.1, tI q.1.2], .frz), none, none] ((m.zip q.1.1).map fun p => D.tup [.int p.1, .int p.2]) tp = some ((m.zip q.1.1).map fun p => D.bl (decide (p.2 ≤ p.1)), tp) :=
        lc_ge (i := 0) (j := 0) _ fun a b => ⟨_, rfl, by simp⟩
      have e2 := fZip2_tt m q.1.1
      generalize m.zip q.1.1 = z at hz e e2 ⊢
      simp [e2, hz, e, toBls_of, all_map, -List.all_map]
    · simp
  have hl2 : dd.length ≤ 16777216 := by omega
  have e4 : (dd.zipIdx.filter fun q => (m.zip q.1.1).all fun p => decide (p.2 ≤ p.1)).map (fun q => D.int q.2) = (rdy dd m).map fun i : Nat => D.int i := by
    have w : dd.zipIdx = (List.range dd.length).map fun i => (dd.getD i ([], []), i) := by
      apply List.ext_getElem
      · simp
      · intro i h1 h2
        have : i < dd.length := by simpa using h1
        simp [this]
    rw [w]
    unfold rdy
    rw [List.filter_map, List.map_map]
    rfl
  simp [m__law_ready, parS, fEnum_tup, hl2, e, e4]
theorem q_lbehind {dd : Dd} {m : List Int} {i : Nat} (hi : i < dd.length) (hm : m.length ≤ 1000) : sem__law_behind [(dD dd, false), (tI m, false), (.int i, false)] tp = .ok (tI (beh dd m i)) .frz tp := by
  refine semD_rt (k := .frz) ?_ (by decide)
  have d1 := deed_at hi
  unfold beh
  generalize dd.getD i ([], []) = q at d1 ⊢
  have hz := Nat.le_trans (zip3_len m q.1 q.2) hm
  have e2 := fZip3_tt m q.1 q.2
  have e : lcD (pTup (pCons (pNm 5) (pCons (pNm 6) (pCons (pNm 7) (pNil))))) (mC (.bl true)) (mBin fAdd (mBin fSub (mNm 5) (mNm 6)) (mNm 7)) [some (dD dd, .frz), some (tI m, .frz), some (.int i, .frz), some (tI q.1, .frz), some (tI q.2, .frz), none, none, none] ((zip3 m q.1 q.2).map fun p => D.tup [.int p.1, .int p.2.1, .int p.2.2]) tp = some ((zip3 m q.1 q.2).map fun p => D.int (p.1 - p.2.1 + p.2.2), tp) :=
    lcD_all _ _ _ fun x _ => ⟨_, .frz, rfl, by decide, by simp⟩
  generalize zip3 m q.1 q.2 = z at hz e e2 ⊢
  have hz : z.length ≤ 16777216 := by omega
  simp [m__law_behind, parS, d1, e2, hz, e, Function.comp_def]
/-! ### refusals -/
theorem check_markX {p : Int} {dd : Dd} {d : D} (h : nice2 d) (hb : tupB p p 0 1000000 d = false) : sem_check_mark [(nD p dd, false), (d, false)] tp = .ex 5 [] tp := by
  refine semD_ex (S := [some (nD p dd, .frz), some (d, .frz)]) ?_
  have e := fun tp => q_markG (tp := tp) (p := p) (ds := dd) h
  rw [hb] at e
  simp [m_check_mark, parS, e]
theorem check_deedX {p : Int} {dd : Dd} {d : D} (h : nice d) (hb : inn 0 ((dd.length : Int) - 1) d = false) : sem_check_deed [(nD p dd, false), (d, false)] tp = .ex 4 [] tp := by
  refine semD_ex (S := [some (nD p dd, .frz), some (d, .frz)]) ?_
  simp [m_check_deed, parS, q_within h, hb]
theorem ready_mark {p : Int} {dd : Dd} {d : D} (h : nice2 d) (hb : tupB p p 0 1000000 d = false) : sem_ready [(nD p dd, false), (d, false)] tp = .ex 5 [] tp := by
  refine semD_ex (S := [some (nD p dd, .frz), some (d, .frz)]) ?_
  have e := fun tp => check_markX (tp := tp) (p := p) (dd := dd) h hb
  simp [m_ready, parS, e]
theorem done_mark {p : Int} {dd : Dd} {d b : D} (h : nice2 d) (hb : tupB p p 0 1000000 d = false) : sem_done [(nD p dd, false), (d, false), (b, false)] tp = .ex 5 [] tp := by
  refine semD_ex (S := [some (nD p dd, .frz), some (d, .frz), some (b, .frz), none]) ?_
  have e := fun tp => check_markX (tp := tp) (p := p) (dd := dd) h hb
  simp [m_done, parS, e]
theorem done_deed {p : Int} {dd : Dd} {m : List Int} {b : D} (hm : okM p m) (hp : p ≤ 1000) (h : nice b) (hb : inn 0 ((dd.length : Int) - 1) b = false) : sem_done [(nD p dd, false), (tI m, false), (b, false)] tp = .ex 4 [] tp := by
  refine semD_ex (S := [some (nD p dd, .frz), some (tI m, .frz), some (b, .frz), none]) ?_
  have e1 := fun tp => q_check_mark (tp := tp) (ds := dd) hm.1 hm.2 hp
  have e2 := fun tp => check_deedX (tp := tp) (p := p) h hb
  simp [m_done, parS, e1, e2]
theorem check_deedY {p : Int} {dd : Dd} {i : Nat} (h1 : i < dd.length) : sem_check_deed [(nD p dd, false), (.int i, false)] tp = .ok .non .frz tp := by
  refine semD_nx (S := [some (nD p dd, .frz), some (.int i, .frz)]) ?_
  have i1 : inn 0 ((dd.length : Int) - 1) (.int i) = true := inn_int (by omega) (by omega)
  simp [m_check_deed, parS, q_within (nice_int _), i1]
theorem done_not {p : Int} {dd : Dd} {m : List Int} {i : Nat} (hm : okM p m) (hp : p ≤ 1000) (h1 : i < dd.length) (h2 : can dd m i = false) : sem_done [(nD p dd, false), (tI m, false), (.int i, false)] tp = .ex 3 [.int i] tp := by
  refine semD_ex (S := [some (nD p dd, .frz), some (tI m, .frz), some (.int i, .frz), none]) ?_
  have hl := hm.1
  have e1 := fun tp => q_check_mark (tp := tp) (ds := dd) hm.1 hm.2 hp
  have e2 := fun tp => check_deedY (tp := tp) (p := p) h1
  have e3 := fun tp => q_can (tp := tp) (p := p) (m := m) h1 (by omega)
  rw [h2] at e3
  simp [m_done, parS, e1, e2, e3]
theorem done_great {p : Int} {dd : Dd} {m : List Int} {i : Nat} (hm : okM p m) (hp : p ≤ 1000) (h1 : i < dd.length) (h2 : can dd m i = true) (hg : 1000000 < List.foldl max 0 (beh dd m i)) : sem_done [(nD p dd, false), (tI m, false), (.int i, false)] tp = .ex 6 [] tp := by
  refine semD_ex (S := [some (nD p dd, .frz), some (tI m, .frz), some (.int i, .frz), some (tI (beh dd m i), .frz)]) ?_
  have hl := hm.1
  have hbl := beh_len dd m i
  have e1 := fun tp => q_check_mark (tp := tp) (ds := dd) hm.1 hm.2 hp
  have e2 := fun tp => check_deedY (tp := tp) (p := p) h1
  have e3 := fun tp => q_can (tp := tp) (p := p) (m := m) h1 (by omega)
  rw [h2] at e3
  have e4 := fun tp => q_behind (tp := tp) (p := p) (m := m) h1 (by omega)
  have e5 := fMax1_tup 0 (beh dd m i)
  have e7 : fAdd (.tup [.int 0]) (tI (beh dd m i)) = some (.tup ((0 :: beh dd m i).map D.int), .frz) := if_pos (by simp; omega)
  generalize (0 :: beh dd m i).map D.int = zz at *
  generalize List.foldl max 0 (beh dd m i) = mx at *
  generalize tI (beh dd m i) = bb at *
  generalize tI m = mm at *
  generalize nD p dd = nn at *
  simp [m_done, parS, e1, e2, e3, e4, e5, e7, hg]
/-! ### words -/
def tags5 : List D := [.str "net", .str "deed", .str "mark", .str "ready", .str "great"]
theorem nk (a b : Str) (h : (a == b) = false) : fEq3 (.str a) (.str b) = some (.bl false, .frz) := by rw [fEq3_str, h]
theorem ee (a : Str) : fEq3 (.str a) (.str a) = some (.bl true, .frz) := by rw [fEq3_str]; simp
theorem rn (i : Int) : fEq3 (.tup [.str "ready", .int i]) (.str "net") = some (.bl false, .frz) := by
  show fEq (.tup [.str "ready", .int i]) (.str "net") = _
  rw [fEq_of (by with_unfolding_all rfl) (by with_unfolding_all rfl)]
  rfl
def fl2 : List D := [.bl true, .bl false, .bl false, .bl false, .bl false]
theorem cnt2 : fCnt (.lst fl2) [.bl true] = some (.int 1, .frz) := by with_unfolding_all rfl
theorem idx2 : fIndex (.lst fl2) [.bl true] = some (.int 0, .frz) := by with_unfolding_all rfl
theorem word2 {p : D} {th : Tp → Ot} {tp tp' : Tp} (h : th tp = .ex 2 [p] tp') : sem__law_word th tp = .ok (.tup [.str "net", p]) .frz tp' := by
  refine uniT_eq fun T => semD_rt (k := .frz) ?_ (by decide)
  have e1 : mThk T th [some (.thk T, .frz), some (.str "let", .frz), none, none, none] tp = .ex 2 [p] tp' := by
    unfold mThk
    simp [h]
  have e2 : mTryAs 2 exm_NetError (mExpr (mThk T th)) (fun a d c => mSeq (mSet 3 (mLst (mCons (mIsE a d c kt_BadNet (mNm 2)) (mCons (mIsE a d c kt_NoDeed (mNm 2)) (mCons (mIsE a d c kt_NoMark (mNm 2)) (mCons (mIsE a d c kt_NotReady (mNm 2)) (mNil))))))) (mSeq (mMut 3 uApp (mIsE a d c kt_TooGreat (mNm 2))) (mSeq (mSet 4 (mLst (mCons (mC (.str "net")) (mCons (mC (.str "deed")) (mCons (mC (.str "mark")) (mCons (mC (.str "ready")) (mCons (mC (.str "great")) (mNil)))))))) (mSeq (mFrz 4) (mSeq (mSet 1 (mIf (mAnd (mBin fEq3 (mMth fCnt (mNm 3) (mCons (mC (.bl true)) (mNil))) (mC (.int 1))) (mTru (mIsE a d c kt_ValueError (mNm 2)))) (mBin fIx (mNm 4) (mMth fIndex (mNm 3) (mCons (mC (.bl true)) (mNil)))) (mC (.str "other")))) (mSeq (mIfS (mBin fEq3 (mNm 1) (mC (.str "ready"))) (mSet 1 (mTup (mCons (mC (.str "ready")) (mCons (mXf a d c fx_at (mNm 2)) (mNil))))) (mNext)) (mIfS (mBin fEq3 (mNm 1) (mC (.str "net"))) (mSet 1 (mTup (mCons (mC (.str "net")) (mCons (mXf a d c fx_part (mNm 2)) (mNil))))) (mNext)))))))) [some (.thk T, .frz), some (.str "let", .frz), none, none, none] tp = .nx [some (.thk T, .frz), some (.tup [.str "net", p], .frz), none, some (.lst fl2, .own), some (.lst tags5, .frz)] tp' := by
    unfold mTryAs
    rw [ev_expr, e1]
    show (if notLck [some (.thk T, .frz), some (.str "let", .frz), none, none, none] 2 then uni _ else So.bad) = _
    rw [if_pos (show notLck [some (.thk T, .frz), some (.str "let", .frz), none, none, none] 2 = true from rfl)]
    refine uni_eq fun a d => ?_
    have e3 : ∀ (x0 x1 x3 x4 : Option (D × Fl)) (fk : Nat → Option Bool) (b : Bool) (tp' : Tp), fk 2 = some b → mIsE a d 2 fk (mNm 2) [x0, x1, some (.exc a d 2 [p], .frz), x3, x4] tp' = .ok (.bl b) .frz tp' := fun x0 x1 x3 x4 fk b tp' e => by
      unfold mIsE
      rw [ev_nm]
      show (if a = a ∧ d = d ∧ 2 = 2 then (match fk 2 with
        | some b => Ot.ok (.bl b) .frz tp'
        | none => .bad) else .bad) = _
      rw [if_pos ⟨rfl, rfl, rfl⟩, e]
    have k1 := fun x0 x1 x3 x4 tp' => e3 x0 x1 x3 x4 kt_BadNet true tp' rfl
    have k2 := fun x0 x1 x3 x4 tp' => e3 x0 x1 x3 x4 kt_NoDeed false tp' rfl
    have k3 := fun x0 x1 x3 x4 tp' => e3 x0 x1 x3 x4 kt_NoMark false tp' rfl
    have k4 := fun x0 x1 x3 x4 tp' => e3 x0 x1 x3 x4 kt_NotReady false tp' rfl
    have k5 := fun x0 x1 x3 x4 tp' => e3 x0 x1 x3 x4 kt_TooGreat false tp' rfl
    have k6 := fun x0 x1 x3 x4 tp' => e3 x0 x1 x3 x4 kt_ValueError true tp' rfl
    have a1 : uApp [.bl true, .bl false, .bl false, .bl false] (.bl false) = some fl2 := rfl
    have w1 : tags5 = [.str "net", .str "deed", .str "mark", .str "ready", .str "great"] := rfl
    have w2 : atD tags5 0 = some (.str "net") := rfl
    have r1 : fEq3 (.str "net") (.str "ready") = some (.bl false, .frz) := nk _ _ (by decide +kernel)
    have x1 : ∀ (x0 x1 x3 x4 : Option (D × Fl)) (tp' : Tp), mXf a d 2 fx_part (mNm 2) [x0, x1, some (.exc a d 2 [p], .frz), x3, x4] tp' = .ok (p) .frz tp' := fun x0 x1 x3 x4 tp' => by
      unfold mXf
      rw [ev_nm]
      show (if a = a ∧ d = d ∧ 2 = 2 then _ else Ot.bad) = _
      rw [if_pos ⟨rfl, rfl, rfl⟩]
      rfl
    show So.clr 2 (_) = _
    have hb : (fun a d c => mSeq (mSet 3 (mLst (mCons (mIsE a d c kt_BadNet (mNm 2)) (mCons (mIsE a d c kt_NoDeed (mNm 2)) (mCons (mIsE a d c kt_NoMark (mNm 2)) (mCons (mIsE a d c kt_NotReady (mNm 2)) (mNil))))))) (mSeq (mMut 3 uApp (mIsE a d c kt_TooGreat (mNm 2))) (mSeq (mSet 4 (mLst (mCons (mC (.str "net")) (mCons (mC (.str "deed")) (mCons (mC (.str "mark")) (mCons (mC (.str "ready")) (mCons (mC (.str "great")) (mNil)))))))) (mSeq (mFrz 4) (mSeq (mSet 1 (mIf (mAnd (mBin fEq3 (mMth fCnt (mNm 3) (mCons (mC (.bl true)) (mNil))) (mC (.int 1))) (mTru (mIsE a d c kt_ValueError (mNm 2)))) (mBin fIx (mNm 4) (mMth fIndex (mNm 3) (mCons (mC (.bl true)) (mNil)))) (mC (.str "other")))) (mSeq (mIfS (mBin fEq3 (mNm 1) (mC (.str "ready"))) (mSet 1 (mTup (mCons (mC (.str "ready")) (mCons (mXf a d c fx_at (mNm 2)) (mNil))))) (mNext)) (mIfS (mBin fEq3 (mNm 1) (mC (.str "net"))) (mSet 1 (mTup (mCons (mC (.str "net")) (mCons (mXf a d c fx_part (mNm 2)) (mNil))))) (mNext)))))))) a d 2 [some (.thk T, .frz), some (.str "let", .frz), some (.exc a d 2 [p], .frz), none, none] tp' = .nx [some (.thk T, .frz), some (.tup [.str "net", p], .frz), some (.exc a d 2 [p], .frz), some (.lst fl2, .own), some (.lst tags5, .frz)] tp' := by
      simp [k1, k2, k3, k4, k5, k6, a1, -uApp_ok, ← w1, cnt2, idx2, w2, -fEq3_str, r1, ee, x1]
    refine (congrArg (So.clr 2) hb).trans ?_
    rfl
  simp [m__law_word, parS, e2]
theorem lam2 {p : D} {m : ME} {S : Slots} {tp tp' : Tp} (h : m (frzS S) tp = .ex 2 [p] tp') : mLamC sem__law_word m S tp = .ok (.tup [.str "net", p]) .frz tp' := by
  unfold mLamC
  rw [word2 h]; rfl
def fl3 : List D := [.bl false, .bl false, .bl false, .bl true, .bl false]
theorem cnt3 : fCnt (.lst fl3) [.bl true] = some (.int 1, .frz) := by with_unfolding_all rfl
theorem idx3 : fIndex (.lst fl3) [.bl true] = some (.int 3, .frz) := by with_unfolding_all rfl
theorem word3 {p : Int} {th : Tp → Ot} {tp tp' : Tp} (h : th tp = .ex 3 [.int p] tp') : sem__law_word th tp = .ok (.tup [.str "ready", .int p]) .frz tp' := by
  refine uniT_eq fun T => semD_rt (k := .frz) ?_ (by decide)
  have e1 : mThk T th [some (.thk T, .frz), some (.str "let", .frz), none, none, none] tp = .ex 3 [.int p] tp' := by
    unfold mThk
    simp [h]
  have e2 : mTryAs 2 exm_NetError (mExpr (mThk T th)) (fun a d c => mSeq (mSet 3 (mLst (mCons (mIsE a d c kt_BadNet (mNm 2)) (mCons (mIsE a d c kt_NoDeed (mNm 2)) (mCons (mIsE a d c kt_NoMark (mNm 2)) (mCons (mIsE a d c kt_NotReady (mNm 2)) (mNil))))))) (mSeq (mMut 3 uApp (mIsE a d c kt_TooGreat (mNm 2))) (mSeq (mSet 4 (mLst (mCons (mC (.str "net")) (mCons (mC (.str "deed")) (mCons (mC (.str "mark")) (mCons (mC (.str "ready")) (mCons (mC (.str "great")) (mNil)))))))) (mSeq (mFrz 4) (mSeq (mSet 1 (mIf (mAnd (mBin fEq3 (mMth fCnt (mNm 3) (mCons (mC (.bl true)) (mNil))) (mC (.int 1))) (mTru (mIsE a d c kt_ValueError (mNm 2)))) (mBin fIx (mNm 4) (mMth fIndex (mNm 3) (mCons (mC (.bl true)) (mNil)))) (mC (.str "other")))) (mSeq (mIfS (mBin fEq3 (mNm 1) (mC (.str "ready"))) (mSet 1 (mTup (mCons (mC (.str "ready")) (mCons (mXf a d c fx_at (mNm 2)) (mNil))))) (mNext)) (mIfS (mBin fEq3 (mNm 1) (mC (.str "net"))) (mSet 1 (mTup (mCons (mC (.str "net")) (mCons (mXf a d c fx_part (mNm 2)) (mNil))))) (mNext)))))))) [some (.thk T, .frz), some (.str "let", .frz), none, none, none] tp = .nx [some (.thk T, .frz), some (.tup [.str "ready", .int p], .frz), none, some (.lst fl3, .own), some (.lst tags5, .frz)] tp' := by
    unfold mTryAs
    rw [ev_expr, e1]
    show (if notLck [some (.thk T, .frz), some (.str "let", .frz), none, none, none] 2 then uni _ else So.bad) = _
    rw [if_pos (show notLck [some (.thk T, .frz), some (.str "let", .frz), none, none, none] 2 = true from rfl)]
    refine uni_eq fun a d => ?_
    have e3 : ∀ (x0 x1 x3 x4 : Option (D × Fl)) (fk : Nat → Option Bool) (b : Bool) (tp' : Tp), fk 3 = some b → mIsE a d 3 fk (mNm 2) [x0, x1, some (.exc a d 3 [.int p], .frz), x3, x4] tp' = .ok (.bl b) .frz tp' := fun x0 x1 x3 x4 fk b tp' e => by
      unfold mIsE
      rw [ev_nm]
      show (if a = a ∧ d = d ∧ 3 = 3 then (match fk 3 with
        | some b => Ot.ok (.bl b) .frz tp'
        | none => .bad) else .bad) = _
      rw [if_pos ⟨rfl, rfl, rfl⟩, e]
    have k1 := fun x0 x1 x3 x4 tp' => e3 x0 x1 x3 x4 kt_BadNet false tp' rfl
    have k2 := fun x0 x1 x3 x4 tp' => e3 x0 x1 x3 x4 kt_NoDeed false tp' rfl
    have k3 := fun x0 x1 x3 x4 tp' => e3 x0 x1 x3 x4 kt_NoMark false tp' rfl
    have k4 := fun x0 x1 x3 x4 tp' => e3 x0 x1 x3 x4 kt_NotReady true tp' rfl
    have k5 := fun x0 x1 x3 x4 tp' => e3 x0 x1 x3 x4 kt_TooGreat false tp' rfl
    have k6 := fun x0 x1 x3 x4 tp' => e3 x0 x1 x3 x4 kt_ValueError true tp' rfl
    have a1 : uApp [.bl false, .bl false, .bl false, .bl true] (.bl false) = some fl3 := rfl
    have w1 : tags5 = [.str "net", .str "deed", .str "mark", .str "ready", .str "great"] := rfl
    have w2 : atD tags5 3 = some (.str "ready") := rfl
    have x1 : ∀ (x0 x1 x3 x4 : Option (D × Fl)) (tp' : Tp), mXf a d 3 fx_at (mNm 2) [x0, x1, some (.exc a d 3 [.int p], .frz), x3, x4] tp' = .ok (.int p) .frz tp' := fun x0 x1 x3 x4 tp' => by
      unfold mXf
      rw [ev_nm]
      show (if a = a ∧ d = d ∧ 3 = 3 then _ else Ot.bad) = _
      rw [if_pos ⟨rfl, rfl, rfl⟩]
      rfl
    show So.clr 2 (_) = _
    have hb : (fun a d c => mSeq (mSet 3 (mLst (mCons (mIsE a d c kt_BadNet (mNm 2)) (mCons (mIsE a d c kt_NoDeed (mNm 2)) (mCons (mIsE a d c kt_NoMark (mNm 2)) (mCons (mIsE a d c kt_NotReady (mNm 2)) (mNil))))))) (mSeq (mMut 3 uApp (mIsE a d c kt_TooGreat (mNm 2))) (mSeq (mSet 4 (mLst (mCons (mC (.str "net")) (mCons (mC (.str "deed")) (mCons (mC (.str "mark")) (mCons (mC (.str "ready")) (mCons (mC (.str "great")) (mNil)))))))) (mSeq (mFrz 4) (mSeq (mSet 1 (mIf (mAnd (mBin fEq3 (mMth fCnt (mNm 3) (mCons (mC (.bl true)) (mNil))) (mC (.int 1))) (mTru (mIsE a d c kt_ValueError (mNm 2)))) (mBin fIx (mNm 4) (mMth fIndex (mNm 3) (mCons (mC (.bl true)) (mNil)))) (mC (.str "other")))) (mSeq (mIfS (mBin fEq3 (mNm 1) (mC (.str "ready"))) (mSet 1 (mTup (mCons (mC (.str "ready")) (mCons (mXf a d c fx_at (mNm 2)) (mNil))))) (mNext)) (mIfS (mBin fEq3 (mNm 1) (mC (.str "net"))) (mSet 1 (mTup (mCons (mC (.str "net")) (mCons (mXf a d c fx_part (mNm 2)) (mNil))))) (mNext)))))))) a d 3 [some (.thk T, .frz), some (.str "let", .frz), some (.exc a d 3 [.int p], .frz), none, none] tp' = .nx [some (.thk T, .frz), some (.tup [.str "ready", .int p], .frz), some (.exc a d 3 [.int p], .frz), some (.lst fl3, .own), some (.lst tags5, .frz)] tp' := by
      simp [k1, k2, k3, k4, k5, k6, a1, -uApp_ok, ← w1, cnt3, idx3, w2, -fEq3_str, ee, rn, x1]
    refine (congrArg (So.clr 2) hb).trans ?_
    rfl
  simp [m__law_word, parS, e2]
theorem lam3 {p : Int} {m : ME} {S : Slots} {tp tp' : Tp} (h : m (frzS S) tp = .ex 3 [.int p] tp') : mLamC sem__law_word m S tp = .ok (.tup [.str "ready", .int p]) .frz tp' := by
  unfold mLamC
  rw [word3 h]; rfl
def fl4 : List D := [.bl false, .bl true, .bl false, .bl false, .bl false]
theorem cnt4 : fCnt (.lst fl4) [.bl true] = some (.int 1, .frz) := by with_unfolding_all rfl
theorem idx4 : fIndex (.lst fl4) [.bl true] = some (.int 1, .frz) := by with_unfolding_all rfl
theorem word4 {th : Tp → Ot} {tp tp' : Tp} (h : th tp = .ex 4 [] tp') : sem__law_word th tp = .ok (.str "deed") .frz tp' := by
  refine uniT_eq fun T => semD_rt (k := .frz) ?_ (by decide)
  have e1 : mThk T th [some (.thk T, .frz), some (.str "let", .frz), none, none, none] tp = .ex 4 [] tp' := by
    unfold mThk
    simp [h]
  have e2 : mTryAs 2 exm_NetError (mExpr (mThk T th)) (fun a d c => mSeq (mSet 3 (mLst (mCons (mIsE a d c kt_BadNet (mNm 2)) (mCons (mIsE a d c kt_NoDeed (mNm 2)) (mCons (mIsE a d c kt_NoMark (mNm 2)) (mCons (mIsE a d c kt_NotReady (mNm 2)) (mNil))))))) (mSeq (mMut 3 uApp (mIsE a d c kt_TooGreat (mNm 2))) (mSeq (mSet 4 (mLst (mCons (mC (.str "net")) (mCons (mC (.str "deed")) (mCons (mC (.str "mark")) (mCons (mC (.str "ready")) (mCons (mC (.str "great")) (mNil)))))))) (mSeq (mFrz 4) (mSeq (mSet 1 (mIf (mAnd (mBin fEq3 (mMth fCnt (mNm 3) (mCons (mC (.bl true)) (mNil))) (mC (.int 1))) (mTru (mIsE a d c kt_ValueError (mNm 2)))) (mBin fIx (mNm 4) (mMth fIndex (mNm 3) (mCons (mC (.bl true)) (mNil)))) (mC (.str "other")))) (mSeq (mIfS (mBin fEq3 (mNm 1) (mC (.str "ready"))) (mSet 1 (mTup (mCons (mC (.str "ready")) (mCons (mXf a d c fx_at (mNm 2)) (mNil))))) (mNext)) (mIfS (mBin fEq3 (mNm 1) (mC (.str "net"))) (mSet 1 (mTup (mCons (mC (.str "net")) (mCons (mXf a d c fx_part (mNm 2)) (mNil))))) (mNext)))))))) [some (.thk T, .frz), some (.str "let", .frz), none, none, none] tp = .nx [some (.thk T, .frz), some (.str "deed", .frz), none, some (.lst fl4, .own), some (.lst tags5, .frz)] tp' := by
    unfold mTryAs
    rw [ev_expr, e1]
    show (if notLck [some (.thk T, .frz), some (.str "let", .frz), none, none, none] 2 then uni _ else So.bad) = _
    rw [if_pos (show notLck [some (.thk T, .frz), some (.str "let", .frz), none, none, none] 2 = true from rfl)]
    refine uni_eq fun a d => ?_
    have e3 : ∀ (x0 x1 x3 x4 : Option (D × Fl)) (fk : Nat → Option Bool) (b : Bool) (tp' : Tp), fk 4 = some b → mIsE a d 4 fk (mNm 2) [x0, x1, some (.exc a d 4 [], .frz), x3, x4] tp' = .ok (.bl b) .frz tp' := fun x0 x1 x3 x4 fk b tp' e => by
      unfold mIsE
      rw [ev_nm]
      show (if a = a ∧ d = d ∧ 4 = 4 then (match fk 4 with
        | some b => Ot.ok (.bl b) .frz tp'
        | none => .bad) else .bad) = _
      rw [if_pos ⟨rfl, rfl, rfl⟩, e]
    have k1 := fun x0 x1 x3 x4 tp' => e3 x0 x1 x3 x4 kt_BadNet false tp' rfl
    have k2 := fun x0 x1 x3 x4 tp' => e3 x0 x1 x3 x4 kt_NoDeed true tp' rfl
    have k3 := fun x0 x1 x3 x4 tp' => e3 x0 x1 x3 x4 kt_NoMark false tp' rfl
    have k4 := fun x0 x1 x3 x4 tp' => e3 x0 x1 x3 x4 kt_NotReady false tp' rfl
    have k5 := fun x0 x1 x3 x4 tp' => e3 x0 x1 x3 x4 kt_TooGreat false tp' rfl
    have k6 := fun x0 x1 x3 x4 tp' => e3 x0 x1 x3 x4 kt_ValueError true tp' rfl
    have a1 : uApp [.bl false, .bl true, .bl false, .bl false] (.bl false) = some fl4 := rfl
    have w1 : tags5 = [.str "net", .str "deed", .str "mark", .str "ready", .str "great"] := rfl
    have w2 : atD tags5 1 = some (.str "deed") := rfl
    have r1 : fEq3 (.str "deed") (.str "ready") = some (.bl false, .frz) := nk _ _ (by decide +kernel)
    have r2 : fEq3 (.str "deed") (.str "net") = some (.bl false, .frz) := nk _ _ (by decide +kernel)
    show So.clr 2 (_) = _
    have hb : (fun a d c => mSeq (mSet 3 (mLst (mCons (mIsE a d c kt_BadNet (mNm 2)) (mCons (mIsE a d c kt_NoDeed (mNm 2)) (mCons (mIsE a d c kt_NoMark (mNm 2)) (mCons (mIsE a d c kt_NotReady (mNm 2)) (mNil))))))) (mSeq (mMut 3 uApp (mIsE a d c kt_TooGreat (mNm 2))) (mSeq (mSet 4 (mLst (mCons (mC (.str "net")) (mCons (mC (.str "deed")) (mCons (mC (.str "mark")) (mCons (mC (.str "ready")) (mCons (mC (.str "great")) (mNil)))))))) (mSeq (mFrz 4) (mSeq (mSet 1 (mIf (mAnd (mBin fEq3 (mMth fCnt (mNm 3) (mCons (mC (.bl true)) (mNil))) (mC (.int 1))) (mTru (mIsE a d c kt_ValueError (mNm 2)))) (mBin fIx (mNm 4) (mMth fIndex (mNm 3) (mCons (mC (.bl true)) (mNil)))) (mC (.str "other")))) (mSeq (mIfS (mBin fEq3 (mNm 1) (mC (.str "ready"))) (mSet 1 (mTup (mCons (mC (.str "ready")) (mCons (mXf a d c fx_at (mNm 2)) (mNil))))) (mNext)) (mIfS (mBin fEq3 (mNm 1) (mC (.str "net"))) (mSet 1 (mTup (mCons (mC (.str "net")) (mCons (mXf a d c fx_part (mNm 2)) (mNil))))) (mNext)))))))) a d 4 [some (.thk T, .frz), some (.str "let", .frz), some (.exc a d 4 [], .frz), none, none] tp' = .nx [some (.thk T, .frz), some (.str "deed", .frz), some (.exc a d 4 [], .frz), some (.lst fl4, .own), some (.lst tags5, .frz)] tp' := by
      simp [k1, k2, k3, k4, k5, k6, a1, -uApp_ok, ← w1, cnt4, idx4, w2, -fEq3_str, r1, r2]
    refine (congrArg (So.clr 2) hb).trans ?_
    rfl
  simp [m__law_word, parS, e2]
theorem lam4 {m : ME} {S : Slots} {tp tp' : Tp} (h : m (frzS S) tp = .ex 4 [] tp') : mLamC sem__law_word m S tp = .ok (.str "deed") .frz tp' := by
  unfold mLamC
  rw [word4 h]; rfl
def fl5 : List D := [.bl false, .bl false, .bl true, .bl false, .bl false]
theorem cnt5 : fCnt (.lst fl5) [.bl true] = some (.int 1, .frz) := by with_unfolding_all rfl
theorem idx5 : fIndex (.lst fl5) [.bl true] = some (.int 2, .frz) := by with_unfolding_all rfl
theorem word5 {th : Tp → Ot} {tp tp' : Tp} (h : th tp = .ex 5 [] tp') : sem__law_word th tp = .ok (.str "mark") .frz tp' := by
  refine uniT_eq fun T => semD_rt (k := .frz) ?_ (by decide)
  have e1 : mThk T th [some (.thk T, .frz), some (.str "let", .frz), none, none, none] tp = .ex 5 [] tp' := by
    unfold mThk
    simp [h]
  have e2 : mTryAs 2 exm_NetError (mExpr (mThk T th)) (fun a d c => mSeq (mSet 3 (mLst (mCons (mIsE a d c kt_BadNet (mNm 2)) (mCons (mIsE a d c kt_NoDeed (mNm 2)) (mCons (mIsE a d c kt_NoMark (mNm 2)) (mCons (mIsE a d c kt_NotReady (mNm 2)) (mNil))))))) (mSeq (mMut 3 uApp (mIsE a d c kt_TooGreat (mNm 2))) (mSeq (mSet 4 (mLst (mCons (mC (.str "net")) (mCons (mC (.str "deed")) (mCons (mC (.str "mark")) (mCons (mC (.str "ready")) (mCons (mC (.str "great")) (mNil)))))))) (mSeq (mFrz 4) (mSeq (mSet 1 (mIf (mAnd (mBin fEq3 (mMth fCnt (mNm 3) (mCons (mC (.bl true)) (mNil))) (mC (.int 1))) (mTru (mIsE a d c kt_ValueError (mNm 2)))) (mBin fIx (mNm 4) (mMth fIndex (mNm 3) (mCons (mC (.bl true)) (mNil)))) (mC (.str "other")))) (mSeq (mIfS (mBin fEq3 (mNm 1) (mC (.str "ready"))) (mSet 1 (mTup (mCons (mC (.str "ready")) (mCons (mXf a d c fx_at (mNm 2)) (mNil))))) (mNext)) (mIfS (mBin fEq3 (mNm 1) (mC (.str "net"))) (mSet 1 (mTup (mCons (mC (.str "net")) (mCons (mXf a d c fx_part (mNm 2)) (mNil))))) (mNext)))))))) [some (.thk T, .frz), some (.str "let", .frz), none, none, none] tp = .nx [some (.thk T, .frz), some (.str "mark", .frz), none, some (.lst fl5, .own), some (.lst tags5, .frz)] tp' := by
    unfold mTryAs
    rw [ev_expr, e1]
    show (if notLck [some (.thk T, .frz), some (.str "let", .frz), none, none, none] 2 then uni _ else So.bad) = _
    rw [if_pos (show notLck [some (.thk T, .frz), some (.str "let", .frz), none, none, none] 2 = true from rfl)]
    refine uni_eq fun a d => ?_
    have e3 : ∀ (x0 x1 x3 x4 : Option (D × Fl)) (fk : Nat → Option Bool) (b : Bool) (tp' : Tp), fk 5 = some b → mIsE a d 5 fk (mNm 2) [x0, x1, some (.exc a d 5 [], .frz), x3, x4] tp' = .ok (.bl b) .frz tp' := fun x0 x1 x3 x4 fk b tp' e => by
      unfold mIsE
      rw [ev_nm]
      show (if a = a ∧ d = d ∧ 5 = 5 then (match fk 5 with
        | some b => Ot.ok (.bl b) .frz tp'
        | none => .bad) else .bad) = _
      rw [if_pos ⟨rfl, rfl, rfl⟩, e]
    have k1 := fun x0 x1 x3 x4 tp' => e3 x0 x1 x3 x4 kt_BadNet false tp' rfl
    have k2 := fun x0 x1 x3 x4 tp' => e3 x0 x1 x3 x4 kt_NoDeed false tp' rfl
    have k3 := fun x0 x1 x3 x4 tp' => e3 x0 x1 x3 x4 kt_NoMark true tp' rfl
    have k4 := fun x0 x1 x3 x4 tp' => e3 x0 x1 x3 x4 kt_NotReady false tp' rfl
    have k5 := fun x0 x1 x3 x4 tp' => e3 x0 x1 x3 x4 kt_TooGreat false tp' rfl
    have k6 := fun x0 x1 x3 x4 tp' => e3 x0 x1 x3 x4 kt_ValueError true tp' rfl
    have a1 : uApp [.bl false, .bl false, .bl true, .bl false] (.bl false) = some fl5 := rfl
    have w1 : tags5 = [.str "net", .str "deed", .str "mark", .str "ready", .str "great"] := rfl
    have w2 : atD tags5 2 = some (.str "mark") := rfl
    have r1 : fEq3 (.str "mark") (.str "ready") = some (.bl false, .frz) := nk _ _ (by decide +kernel)
    have r2 : fEq3 (.str "mark") (.str "net") = some (.bl false, .frz) := nk _ _ (by decide +kernel)
    show So.clr 2 (_) = _
    have hb : (fun a d c => mSeq (mSet 3 (mLst (mCons (mIsE a d c kt_BadNet (mNm 2)) (mCons (mIsE a d c kt_NoDeed (mNm 2)) (mCons (mIsE a d c kt_NoMark (mNm 2)) (mCons (mIsE a d c kt_NotReady (mNm 2)) (mNil))))))) (mSeq (mMut 3 uApp (mIsE a d c kt_TooGreat (mNm 2))) (mSeq (mSet 4 (mLst (mCons (mC (.str "net")) (mCons (mC (.str "deed")) (mCons (mC (.str "mark")) (mCons (mC (.str "ready")) (mCons (mC (.str "great")) (mNil)))))))) (mSeq (mFrz 4) (mSeq (mSet 1 (mIf (mAnd (mBin fEq3 (mMth fCnt (mNm 3) (mCons (mC (.bl true)) (mNil))) (mC (.int 1))) (mTru (mIsE a d c kt_ValueError (mNm 2)))) (mBin fIx (mNm 4) (mMth fIndex (mNm 3) (mCons (mC (.bl true)) (mNil)))) (mC (.str "other")))) (mSeq (mIfS (mBin fEq3 (mNm 1) (mC (.str "ready"))) (mSet 1 (mTup (mCons (mC (.str "ready")) (mCons (mXf a d c fx_at (mNm 2)) (mNil))))) (mNext)) (mIfS (mBin fEq3 (mNm 1) (mC (.str "net"))) (mSet 1 (mTup (mCons (mC (.str "net")) (mCons (mXf a d c fx_part (mNm 2)) (mNil))))) (mNext)))))))) a d 5 [some (.thk T, .frz), some (.str "let", .frz), some (.exc a d 5 [], .frz), none, none] tp' = .nx [some (.thk T, .frz), some (.str "mark", .frz), some (.exc a d 5 [], .frz), some (.lst fl5, .own), some (.lst tags5, .frz)] tp' := by
      simp [k1, k2, k3, k4, k5, k6, a1, -uApp_ok, ← w1, cnt5, idx5, w2, -fEq3_str, r1, r2]
    refine (congrArg (So.clr 2) hb).trans ?_
    rfl
  simp [m__law_word, parS, e2]
theorem lam5 {m : ME} {S : Slots} {tp tp' : Tp} (h : m (frzS S) tp = .ex 5 [] tp') : mLamC sem__law_word m S tp = .ok (.str "mark") .frz tp' := by
  unfold mLamC
  rw [word5 h]; rfl
def fl6 : List D := [.bl false, .bl false, .bl false, .bl false, .bl true]
theorem cnt6 : fCnt (.lst fl6) [.bl true] = some (.int 1, .frz) := by with_unfolding_all rfl
theorem idx6 : fIndex (.lst fl6) [.bl true] = some (.int 4, .frz) := by with_unfolding_all rfl
theorem word6 {th : Tp → Ot} {tp tp' : Tp} (h : th tp = .ex 6 [] tp') : sem__law_word th tp = .ok (.str "great") .frz tp' := by
  refine uniT_eq fun T => semD_rt (k := .frz) ?_ (by decide)
  have e1 : mThk T th [some (.thk T, .frz), some (.str "let", .frz), none, none, none] tp = .ex 6 [] tp' := by
    unfold mThk
    simp [h]
  have e2 : mTryAs 2 exm_NetError (mExpr (mThk T th)) (fun a d c => mSeq (mSet 3 (mLst (mCons (mIsE a d c kt_BadNet (mNm 2)) (mCons (mIsE a d c kt_NoDeed (mNm 2)) (mCons (mIsE a d c kt_NoMark (mNm 2)) (mCons (mIsE a d c kt_NotReady (mNm 2)) (mNil))))))) (mSeq (mMut 3 uApp (mIsE a d c kt_TooGreat (mNm 2))) (mSeq (mSet 4 (mLst (mCons (mC (.str "net")) (mCons (mC (.str "deed")) (mCons (mC (.str "mark")) (mCons (mC (.str "ready")) (mCons (mC (.str "great")) (mNil)))))))) (mSeq (mFrz 4) (mSeq (mSet 1 (mIf (mAnd (mBin fEq3 (mMth fCnt (mNm 3) (mCons (mC (.bl true)) (mNil))) (mC (.int 1))) (mTru (mIsE a d c kt_ValueError (mNm 2)))) (mBin fIx (mNm 4) (mMth fIndex (mNm 3) (mCons (mC (.bl true)) (mNil)))) (mC (.str "other")))) (mSeq (mIfS (mBin fEq3 (mNm 1) (mC (.str "ready"))) (mSet 1 (mTup (mCons (mC (.str "ready")) (mCons (mXf a d c fx_at (mNm 2)) (mNil))))) (mNext)) (mIfS (mBin fEq3 (mNm 1) (mC (.str "net"))) (mSet 1 (mTup (mCons (mC (.str "net")) (mCons (mXf a d c fx_part (mNm 2)) (mNil))))) (mNext)))))))) [some (.thk T, .frz), some (.str "let", .frz), none, none, none] tp = .nx [some (.thk T, .frz), some (.str "great", .frz), none, some (.lst fl6, .own), some (.lst tags5, .frz)] tp' := by
    unfold mTryAs
    rw [ev_expr, e1]
    show (if notLck [some (.thk T, .frz), some (.str "let", .frz), none, none, none] 2 then uni _ else So.bad) = _
    rw [if_pos (show notLck [some (.thk T, .frz), some (.str "let", .frz), none, none, none] 2 = true from rfl)]
    refine uni_eq fun a d => ?_
    have e3 : ∀ (x0 x1 x3 x4 : Option (D × Fl)) (fk : Nat → Option Bool) (b : Bool) (tp' : Tp), fk 6 = some b → mIsE a d 6 fk (mNm 2) [x0, x1, some (.exc a d 6 [], .frz), x3, x4] tp' = .ok (.bl b) .frz tp' := fun x0 x1 x3 x4 fk b tp' e => by
      unfold mIsE
      rw [ev_nm]
      show (if a = a ∧ d = d ∧ 6 = 6 then (match fk 6 with
        | some b => Ot.ok (.bl b) .frz tp'
        | none => .bad) else .bad) = _
      rw [if_pos ⟨rfl, rfl, rfl⟩, e]
    have k1 := fun x0 x1 x3 x4 tp' => e3 x0 x1 x3 x4 kt_BadNet false tp' rfl
    have k2 := fun x0 x1 x3 x4 tp' => e3 x0 x1 x3 x4 kt_NoDeed false tp' rfl
    have k3 := fun x0 x1 x3 x4 tp' => e3 x0 x1 x3 x4 kt_NoMark false tp' rfl
    have k4 := fun x0 x1 x3 x4 tp' => e3 x0 x1 x3 x4 kt_NotReady false tp' rfl
    have k5 := fun x0 x1 x3 x4 tp' => e3 x0 x1 x3 x4 kt_TooGreat true tp' rfl
    have k6 := fun x0 x1 x3 x4 tp' => e3 x0 x1 x3 x4 kt_ValueError true tp' rfl
    have a1 : uApp [.bl false, .bl false, .bl false, .bl false] (.bl true) = some fl6 := rfl
    have w1 : tags5 = [.str "net", .str "deed", .str "mark", .str "ready", .str "great"] := rfl
    have w2 : atD tags5 4 = some (.str "great") := rfl
    have r1 : fEq3 (.str "great") (.str "ready") = some (.bl false, .frz) := nk _ _ (by decide +kernel)
    have r2 : fEq3 (.str "great") (.str "net") = some (.bl false, .frz) := nk _ _ (by decide +kernel)
    show So.clr 2 (_) = _
    have hb : (fun a d c => mSeq (mSet 3 (mLst (mCons (mIsE a d c kt_BadNet (mNm 2)) (mCons (mIsE a d c kt_NoDeed (mNm 2)) (mCons (mIsE a d c kt_NoMark (mNm 2)) (mCons (mIsE a d c kt_NotReady (mNm 2)) (mNil))))))) (mSeq (mMut 3 uApp (mIsE a d c kt_TooGreat (mNm 2))) (mSeq (mSet 4 (mLst (mCons (mC (.str "net")) (mCons (mC (.str "deed")) (mCons (mC (.str "mark")) (mCons (mC (.str "ready")) (mCons (mC (.str "great")) (mNil)))))))) (mSeq (mFrz 4) (mSeq (mSet 1 (mIf (mAnd (mBin fEq3 (mMth fCnt (mNm 3) (mCons (mC (.bl true)) (mNil))) (mC (.int 1))) (mTru (mIsE a d c kt_ValueError (mNm 2)))) (mBin fIx (mNm 4) (mMth fIndex (mNm 3) (mCons (mC (.bl true)) (mNil)))) (mC (.str "other")))) (mSeq (mIfS (mBin fEq3 (mNm 1) (mC (.str "ready"))) (mSet 1 (mTup (mCons (mC (.str "ready")) (mCons (mXf a d c fx_at (mNm 2)) (mNil))))) (mNext)) (mIfS (mBin fEq3 (mNm 1) (mC (.str "net"))) (mSet 1 (mTup (mCons (mC (.str "net")) (mCons (mXf a d c fx_part (mNm 2)) (mNil))))) (mNext)))))))) a d 6 [some (.thk T, .frz), some (.str "let", .frz), some (.exc a d 6 [], .frz), none, none] tp' = .nx [some (.thk T, .frz), some (.str "great", .frz), some (.exc a d 6 [], .frz), some (.lst fl6, .own), some (.lst tags5, .frz)] tp' := by
      simp [k1, k2, k3, k4, k5, k6, a1, -uApp_ok, ← w1, cnt6, idx6, w2, -fEq3_str, r1, r2]
    refine (congrArg (So.clr 2) hb).trans ?_
    rfl
  simp [m__law_word, parS, e2]
theorem lam6 {m : ME} {S : Slots} {tp tp' : Tp} (h : m (frzS S) tp = .ex 6 [] tp') : mLamC sem__law_word m S tp = .ok (.str "great") .frz tp' := by
  unfold mLamC
  rw [word6 h]; rfl
def frz1 : Option (D × Fl) → Option (D × Fl)
  | some (d, .frz) => some (d, .frz)
  | _ => none
@[simp] theorem frz1_frz (d : D) : frz1 (some (d, .frz)) = some (d, .frz) := nrfl rfl
@[simp] theorem frz1_own (d : D) : frz1 (some (d, .own)) = none := nrfl rfl
@[simp] theorem frz1_none : frz1 none = none := nrfl rfl
@[simp] theorem frzS_nil : frzS [] = [] := nrfl rfl
@[simp] theorem frzS_cons (a : Option (D × Fl)) (S : Slots) : frzS (a :: S) = frz1 a :: frzS S := by
  rcases a with _ | ⟨d, _ | _ | _⟩ <;> rfl
end K01

/-! K01f: the law's own looks; no marks. -/
namespace K01
open PySem L2 PV
variable {tp : Tp}
theorem pow6 : fPow (.int 10) (.int 6) = some (.int 1000000, .frz) := rfl
theorem isiT_int {d : D} (h : nice d) : isiT nC .int d = some (match d with | .int _ => true | .bl _ => true | _ => false) := by
  unfold nice at h
  cases d with
  | ins c l =>
    match c, h with
    | 0, _ => rfl
    | c + 1, h => simp [isiT] at h
  | exc a dd c l => cases h
  | tape => cases h
  | thk T => cases h
  | _ => rfl
theorem isiT_bl {d : D} (h : nice d) : isiT nC .bl d = some (match d with | .bl _ => true | _ => false) := by
  unfold nice at h
  cases d with
  | ins c l =>
    match c, h with
    | 0, _ => rfl
    | c + 1, h => simp [isiT] at h
  | exc a dd c l => cases h
  | tape => cases h
  | thk T => cases h
  | _ => rfl
theorem q_lmark_of {n : Int} {d : D} (h : nice2 d) : sem__law_is_mark_of [(.int n, false), (d, false)] tp = .ok (.bl (tupB n n 0 1000000 d)) .frz tp := by
  refine semD_rt (k := .frz) ?_ (by decide)
  have e1 := isiT_tup h.1
  cases d with
  | tup l =>
    obtain ⟨h2, h3⟩ := h.2 l rfl
    have e : lcD (pNm 2) (mC (.bl true)) (mAnd (mIsi (isiT nC .int) (mNm 2)) (mAnd (mNot (mIsi (isiT nC .bl) (mNm 2))) (mChain fLe fLe (mC (.int 0)) (mNm 2) (mBin fPow (mC (.int 10)) (mC (.int 6)))))) [some (.int n, .frz), some (.tup l, .frz), none] l tp = some (l.map fun x => D.bl (inn 0 1000000 x), tp) :=
      lc_items h2 fun d hd => ⟨_, rfl, by
        have a1 := isiT_int hd
        have a2 := isiT_bl hd
        cases d with
        | int i => by_cases z : 0 ≤ i <;> simp [a1, a2, pow6, inn, z]
        | _ => simp [a1, a2, inn]⟩
    have hl : l.length ≤ 16777216 := by omega
    have e2 := bls_items l 0 1000000
    have e3 := all_items l 0 1000000
    generalize l.map (inn 0 1000000) = bs at *
    generalize (l.map fun x => D.bl (inn 0 1000000 x)) = ll at *
    by_cases hz : (l.length : Int) = n
    · subst hz
      simp only [tupB]
      rw [← e3]
      simp [m__law_is_mark_of, parS, e1, hl, e, e2]
    · have hz' : (decide (n ≤ (l.length : Int)) && decide ((l.length : Int) ≤ n)) = false := by
        rw [Bool.and_eq_false_iff]
        by_cases w : n ≤ (l.length : Int)
        · exact .inr (decide_eq_false (by omega))
        · exact .inl (decide_eq_false w)
      simp only [tupB, hz', Bool.false_and]
      have hb : ((l.length : Int) == n) = false := by simp [hz]
      simp [m__law_is_mark_of, parS, e1, hb]
  | _ => simp [m__law_is_mark_of, parS, e1, tupB]
theorem q_lrow_of {n : Int} {d : D} (h : nice2 d) : sem__law_is_row_of [(.int n, false), (d, false)] tp = .ok (.bl (tupB 0 200 0 (n - 1) d)) .frz tp := by
  refine semD_rt (k := .frz) ?_ (by decide)
  have e1 := isiT_tup h.1
  cases d with
  | tup l =>
    obtain ⟨h2, h3⟩ := h.2 l rfl
    have e : lcD (pNm 2) (mC (.bl true)) (mAnd (mIsi (isiT nC .int) (mNm 2)) (mAnd (mNot (mIsi (isiT nC .bl) (mNm 2))) (mChain fLe fLt (mC (.int 0)) (mNm 2) (mNm 0)))) [some (.int n, .frz), some (.tup l, .frz), none] l tp = some (l.map fun x => D.bl (inn 0 (n - 1) x), tp) :=
      lc_items h2 fun d hd => ⟨_, rfl, by
        have a1 := isiT_int hd
        have a2 := isiT_bl hd
        cases d with
        | int i =>
          have a3 : decide (i < n) = decide (i ≤ n - 1) := decide_eq_decide.mpr (by omega)
          by_cases z : 0 ≤ i <;> simp [a1, a2, inn, z, a3]
        | _ => simp [a1, a2, inn]⟩
    have hl : l.length ≤ 16777216 := by omega
    have e2 := bls_items l 0 (n - 1)
    have e3 := all_items l 0 (n - 1)
    generalize l.map (inn 0 (n - 1)) = bs at *
    generalize (l.map fun x => D.bl (inn 0 (n - 1) x)) = ll at *
    by_cases hz : (l.length : Int) ≤ 200
    · have hz' : (decide (0 ≤ (l.length : Int)) && decide ((l.length : Int) ≤ 200)) = true := by
        rw [decide_eq_true hz, decide_eq_true (by omega)]; rfl
      have hw : ¬ (200 < (l.length : Int)) := by omega
      have hw2 : ¬ (200 < l.length) := by omega
      simp only [tupB, hz', Bool.true_and]
      rw [← e3]
      simp [m__law_is_row_of, parS, e1, hl, e, e2, hw, hw2]
    · have hz' : (decide (0 ≤ (l.length : Int)) && decide ((l.length : Int) ≤ 200)) = false := by
        rw [decide_eq_false hz, Bool.and_false]
      have hw : 200 < (l.length : Int) := by omega
      have hw2 : 200 < l.length := by omega
      simp only [tupB, hz', Bool.false_and]
      simp [m__law_is_row_of, parS, e1, hw, hw2]
  | _ => simp [m__law_is_row_of, parS, e1, tupB]
/-! ### no marks -/
theorem rep_tup' (x : D) {z : Int} (n : Nat) (hz : z = n) (h : n ≤ 1000) : fMul3 (.tup [x]) (.int z) = some (.tup (List.replicate n x), .frz) := by
  rw [hz]; exact rep_tup x n h
theorem n2_rep {x : D} {n : Nat} (h : nice x) (hn : n ≤ 1000) : nice2 (.tup (List.replicate n x)) := ⟨rfl, fun l e => by
  cases e
  exact ⟨fun y hy => by rw [(List.mem_replicate.mp hy).2]; exact h, by simp; omega⟩⟩
theorem n2_of {d : D} (h : nice d) (h2 : ∀ l, d ≠ .tup l) : nice2 d := ⟨h, fun l e => absurd e (h2 l)⟩
theorem tupB_len {l : List D} {p lo hi : Int} (h : (l.length : Int) ≠ p) : tupB p p lo hi (.tup l) = false := by
  simp only [tupB]
  have : (decide (p ≤ (l.length : Int)) && decide ((l.length : Int) ≤ p)) = false := by
    rw [Bool.and_eq_false_iff]
    by_cases w : p ≤ (l.length : Int)
    · exact .inr (decide_eq_false (by omega))
    · exact .inl (decide_eq_false w)
  rw [this, Bool.false_and]
theorem tupB_rep {x : D} {n : Nat} {a b lo hi : Int} (hn : 0 < n) (h : inn lo hi x = false) : tupB a b lo hi (.tup (List.replicate n x)) = false := by
  simp only [tupB]
  have : (List.replicate n x).all (inn lo hi) = false := by
    match n, hn with
    | n + 1, _ => rw [List.replicate_succ, List.all_cons, h, Bool.false_and]
  rw [this, Bool.and_false]
def nmA (n : Nat) : List D := [.non, .tup (List.replicate (n + 1) (.int 0)), .lst (List.replicate n (.int 0)), .int 0, .dct [] [], .str "0", .tup (List.replicate n (.int 1000001) ++ [.int 0]), .tup (List.replicate (n + 1) .non)]
def nmB (n : Nat) : List D := [.tup (List.replicate n (.int (-1))), .tup (List.replicate n (.bl true)), .tup (List.replicate n (.str "0")), .tup (List.replicate n (.int 1000001)), .tup (List.replicate (n - 1) (.int 0))]
theorem nmA_ok {n : Nat} (hn : n ≤ 12) {d : D} (h : d ∈ nmA n) : nice2 d ∧ tupB n n 0 1000000 d = false := by
  simp only [nmA, List.mem_cons, List.not_mem_nil, or_false] at h
  rcases h with rfl | rfl | rfl | rfl | rfl | rfl | rfl | rfl
  · exact ⟨n2_of rfl (by simp), rfl⟩
  · exact ⟨n2_rep rfl (by omega), tupB_len (by simp; omega)⟩
  · exact ⟨n2_of rfl (by simp), rfl⟩
  · exact ⟨n2_of rfl (by simp), rfl⟩
  · exact ⟨n2_of rfl (by simp), rfl⟩
  · exact ⟨n2_of rfl (by simp), rfl⟩
  · refine ⟨⟨rfl, fun l e => ?_⟩, tupB_len (by simp; omega)⟩
    cases e
    refine ⟨fun y hy => ?_, by simp; omega⟩
    rcases List.mem_append.mp hy with z | z
    · rw [(List.mem_replicate.mp z).2]; rfl
    · rw [List.mem_singleton.mp z]; rfl
  · exact ⟨n2_rep rfl (by omega), tupB_len (by simp; omega)⟩
theorem nmB_ok {n : Nat} (hn : n ≤ 12) (h0 : 0 < n) {d : D} (h : d ∈ nmB n) : nice2 d ∧ tupB n n 0 1000000 d = false := by
  simp only [nmB, List.mem_cons, List.not_mem_nil, or_false] at h
  rcases h with rfl | rfl | rfl | rfl | rfl
  · exact ⟨n2_rep rfl (by omega), tupB_rep h0 rfl⟩
  · exact ⟨n2_rep rfl (by omega), tupB_rep h0 rfl⟩
  · exact ⟨n2_rep rfl (by omega), tupB_rep h0 rfl⟩
  · exact ⟨n2_rep rfl (by omega), tupB_rep h0 rfl⟩
  · exact ⟨n2_rep rfl (by omega), tupB_len (by simp; omega)⟩
theorem q_nomark {n : Nat} (hn : n ≤ 12) (hT : Tape tp) : ∃ d tp', sem__law_no_mark [(.tape, false), (.int n, false)] tp = .ok d .frz tp' ∧ nice2 d ∧ tupB n n 0 1000000 d = false ∧ Tape tp' := by
  have m1 := rep_tup' (.int 0) (z := (n : Int) + 1) (n + 1) (by omega) (by omega)
  have m2 := rep_lst1 (.int 0) n (by omega)
  have m3 := rep_tup (.int 1000001) n (by omega)
  have m4 := rep_tup' .non (z := (n : Int) + 1) (n + 1) (by omega) (by omega)
  have m5 : fAdd (.tup (List.replicate n (.int 1000001))) (.tup [.int 0]) = some (.tup (List.replicate n (.int 1000001) ++ [.int 0]), .frz) := if_pos (by simp; omega)
  by_cases hz : n = 0
  · subst hz
    obtain ⟨d, hd, tp', e, hT'⟩ := any_ok (l := nmA 0) hT (by simp [nmA]) (by simp [nmA])
    obtain ⟨g1, g2⟩ := nmA_ok (n := 0) (by omega) hd
    refine ⟨d, tp', semD_rt (k := .frz) ?_ (by decide), g1, g2, hT'⟩
    simp only [nmA] at e
    generalize List.replicate (0 + 1) (D.int 0) = r1 at *
    generalize List.replicate 0 (D.int 0) = r2 at *
    generalize List.replicate 0 (D.int 1000001) = r3 at *
    generalize List.replicate (0 + 1) D.non = r4 at *
    generalize r3 ++ [D.int 0] = r5 at *
    simp at m1 m2 m3 m4
    simp [m__law_no_mark, parS, pow6, m1, m2, m3, m4, m5, e]
  · have h0 : 0 < n := by omega
    have m6 := rep_tup (.int (-1)) n (by omega)
    have m7 := rep_tup (.bl true) n (by omega)
    have m8 := rep_tup (.str "0") n (by omega)
    have m9 := rep_tup' (.int 0) (z := (n : Int) - 1) (n - 1) (by omega) (by omega)
    obtain ⟨d, hd, tp', e, hT'⟩ := any_ok (l := nmA n ++ nmB n) hT (by simp [nmA]) (by simp [nmA, nmB])
    have hg : nice2 d ∧ tupB n n 0 1000000 d = false := by
      rcases List.mem_append.mp hd with z | z
      · exact nmA_ok hn z
      · exact nmB_ok hn h0 z
    refine ⟨d, tp', semD_rt (k := .frz) ?_ (by decide), hg.1, hg.2, hT'⟩
    have m10 : fAdd (.lst (nmA n)) (.lst (nmB n)) = some (.lst (nmA n ++ nmB n), .fr) := fAdd_lst (by simp [nmA, nmB])
    have a1 : nmA n = [.non, .tup (List.replicate (n + 1) (.int 0)), .lst (List.replicate n (.int 0)), .int 0, .dct [] [], .str "0", .tup (List.replicate n (.int 1000001) ++ [.int 0]), .tup (List.replicate (n + 1) .non)] := rfl
    have a2 : nmB n = [.tup (List.replicate n (.int (-1))), .tup (List.replicate n (.bl true)), .tup (List.replicate n (.str "0")), .tup (List.replicate n (.int 1000001)), .tup (List.replicate (n - 1) (.int 0))] := rfl
    generalize nmA n ++ nmB n = AB at *
    generalize nmA n = A at *
    generalize nmB n = B at *
    generalize List.replicate (n + 1) (D.int 0) = r1 at *
    generalize List.replicate n (D.int 0) = r2 at *
    generalize List.replicate n (D.int 1000001) = r3 at *
    generalize List.replicate (n + 1) D.non = r4 at *
    generalize List.replicate n (D.int (-1)) = r6 at *
    generalize List.replicate n (D.bl true) = r7 at *
    generalize List.replicate n (D.str "0") = r8 at *
    generalize List.replicate (n - 1) (D.int 0) = r9 at *
    generalize r3 ++ [D.int 0] = r5 at *
    simp [m__law_no_mark, parS, pow6, m1, m2, m3, m4, m5, m6, m7, m8, m9, h0, ← a1, ← a2, m10, e]
end K01

/-! K01g: nets refused. -/
namespace K01
open PySem L2 PV
variable {tp : Tp}
theorem any_okP {l : List D} (b : Bool) (h : Tape tp) (h0 : 0 < l.length) (h1 : l.length < 1073741824) : ∃ d ∈ l, ∃ tp', sem__law_any [(.tape, false), (.lst l, b)] tp = .ok d .frz tp' ∧ Tape tp' := by
  obtain ⟨r, tp', e, r0, r1, hT⟩ := draw_ok (many := (l.length : Int)) h (by omega) (by omega)
  obtain ⟨d, hd, ed⟩ := atD_in r0 r1
  refine ⟨d, hd, tp', semD_rt (k := .frz) ?_ (by decide), hT⟩
  cases b <;> simp [m__law_any, parS, e, ed]
def goodRow (p : Int) : D → Bool
  | .tup [a, b] => tupB p p 0 9 a && tupB p p 0 9 b
  | _ => false
def nice3 (d : D) : Prop := nice d ∧ ∀ l, d = .tup l → (∀ x ∈ l, nice2 x) ∧ l.length ≤ 1000
abbrev netMP : D → Slots → Option Slots := (pTup (pCons (pNm 3) (pCons (pNm 4) (pNil))))
abbrev netBody : MS := (mIfS (mOr (mNot (mTru (mCall sem_is_tuple (mCons (mNm 4) (mCons (mC (.int 2)) (mCons (mC (.int 2)) (mNil))))))) (mNot (mTru (mB fAll (mCons (mLc (mSeqI (mNm 4)) (pNm 5) (mC (.bl true)) (mCall sem_is_counts (mCons (mNm 1) (mCons (mNm 5) (mNil)))) [5]) (mNil)))))) (mRaise1 2 (mNm 3)) (mNext))
theorem q_body {p k : Int} {dd d : D} (h : nice3 d) : netBody [some (.ins 0 [], .lck), some (.int p, .frz), some (dd, .frz), some (.int k, .frz), some (d, .frz), none] tp =
    if goodRow p d then .nx [some (.ins 0 [], .lck), some (.int p, .frz), some (dd, .frz), some (.int k, .frz), some (d, .frz), none] tp else .ex 2 [.int k] [some (.ins 0 [], .lck), some (.int p, .frz), some (dd, .frz), some (.int k, .frz), some (d, .frz), none] tp := by
  have e1 := fun tp => q_tupleG (tp := tp) h.1 (a := 2) (b := 2)
  cases d with
  | tup l =>
    obtain ⟨h2, h3⟩ := h.2 l rfl
    match l, h2 with
    | [a, b], h2 =>
      have ea := fun tp => q_countsG (tp := tp) (p := p) (h2 a (by simp))
      have eb := fun tp => q_countsG (tp := tp) (p := p) (h2 b (by simp))
      have g : goodRow p (.tup [a, b]) = (tupB p p 0 9 a && tupB p p 0 9 b) := rfl
      rw [g]
      have e : lcD (pNm 5) (mC (.bl true)) (mCall sem_is_counts (mCons (mNm 1) (mCons (mNm 5) (mNil)))) [some (.ins 0 [], .lck), some (.int p, .frz), some (dd, .frz), some (.int k, .frz), some (.tup [a, b], .frz), none] [a, b] tp = some ([.bl (tupB p p 0 9 a), .bl (tupB p p 0 9 b)], tp) := by
        have := lcD_all (mp := pNm 5) (me := mCall sem_is_counts (mCons (mNm 1) (mCons (mNm 5) (mNil)))) (S0 := [some (.ins 0 [], .lck), some (.int p, .frz), some (dd, .frz), some (.int k, .frz), some (.tup [a, b], .frz), none]) (tp := tp) (fun x : D => x) (fun x => D.bl (tupB p p 0 9 x)) [a, b] fun x hx => by
          refine ⟨_, .frz, rfl, by decide, ?_⟩
          have := fun tp => q_countsG (tp := tp) (p := p) (h2 x hx)
          simp [this]
        simpa using this
      have t2 : isTup 2 2 (.tup [a, b]) = true := rfl
      generalize tupB p p 0 9 a = A at *
      generalize tupB p p 0 9 b = B at *
      have tb : toBls [.bl A, .bl B] = some [A, B] := rfl
      cases A <;> cases B <;> simp [e1, t2, e, tb]
    | [], _ => simp [e1, isTup, goodRow]
    | [a], _ => simp [e1, isTup, goodRow]
    | a :: b :: c :: l, _ =>
      have t2 : isTup 2 2 (.tup (a :: b :: c :: l)) = false := by
        simp only [isTup, List.length_cons]
        rw [Bool.and_eq_false_iff]
        exact .inr (decide_eq_false (by omega))
      have g : goodRow p (.tup (a :: b :: c :: l)) = false := rfl
      simp [e1, t2, g]
  | _ => simp [e1, isTup, goodRow]
theorem good_row {p : Int} {q : List Int × List Int} (h : okC p q.1 ∧ okC p q.2) (hp : p ≤ 1000) : goodRow p (dRow q) = true ∧ nice3 (dRow q) := by
  have one : ∀ m : List Int, okC p m → tupB p p 0 9 (tI m) = true ∧ nice2 (tI m) := fun m hm => by
    obtain ⟨h1, h2⟩ := hm
    constructor
    · show (decide (p ≤ ((m.map D.int).length : Int)) && decide (((m.map D.int).length : Int) ≤ p) && (m.map D.int).all (inn 0 9)) = true
      rw [List.length_map, h1, decide_eq_true (Int.le_refl p)]
      have : (m.map D.int).all (inn 0 9) = true := by
        rw [List.all_eq_true]
        intro x hx
        obtain ⟨i, hi, rfl⟩ := List.mem_map.mp hx
        exact inn_int (h2 i hi).1 (h2 i hi).2
      rw [this]; rfl
    · refine ⟨rfl, fun l e => ?_⟩
      cases e
      refine ⟨fun x hx => ?_, by rw [List.length_map]; omega⟩
      obtain ⟨i, _, rfl⟩ := List.mem_map.mp hx
      rfl
  obtain ⟨a1, a2⟩ := one _ h.1
  obtain ⟨b1, b2⟩ := one _ h.2
  constructor
  · show (tupB p p 0 9 (tI q.1) && tupB p p 0 9 (tI q.2)) = true
    rw [a1, b1]; rfl
  · refine ⟨rfl, fun l e => ?_⟩
    cases e
    refine ⟨fun x hx => ?_, by simp⟩
    simp only [List.mem_cons, List.not_mem_nil, or_false] at hx
    rcases hx with rfl | rfl
    · exact a2
    · exact b2
theorem loopX {p : Int} {dd w : D} {rest : List D} (hp : p ≤ 1000) (hw : nice3 w) (hb : goodRow p w = false) : ∀ (as : Dd) (k : Nat) (x3 x4 : Option (D × Fl)), okD p as → nl x3 = true → nl x4 = true →
    ∃ S', forD netMP netBody (enumD (k : Int) (as.map dRow ++ w :: rest)) [some (.ins 0 [], .lck), some (.int p, .frz), some (dd, .frz), x3, x4, none] tp = .ex 2 [.int ((k + as.length : Nat) : Int)] S' tp
  | [], k, x3, x4, _, n3, n4 => by
    have e := q_body (tp := tp) (p := p) (k := (k : Int)) (dd := dd) hw
    rw [hb, if_neg (by decide)] at e
    refine ⟨[some (.ins 0 [], .lck), some (.int p, .frz), some (dd, .frz), some (.int k, .frz), some (w, .frz), none], ?_⟩
    have pm : netMP (.tup [.int k, w]) [some (.ins 0 [], .lck), some (.int p, .frz), some (dd, .frz), x3, x4, none] = some [some (.ins 0 [], .lck), some (.int p, .frz), some (dd, .frz), some (.int k, .frz), some (w, .frz), none] := by simp [n3, n4]
    show forD netMP netBody (.tup [.int k, w] :: enumD ((k : Int) + 1) rest) _ tp = _
    unfold forD
    rw [pm]
    show (match netBody _ tp with | .nx S2 tp2 => _ | .ct S2 tp2 => _ | .bk S2 tp2 => _ | o => o) = _
    rw [e]
    simp
  | a :: as, k, x3, x4, hd, n3, n4 => by
    obtain ⟨g1, g2⟩ := good_row (hd a (List.mem_cons_self ..)) hp
    have e := q_body (tp := tp) (p := p) (k := (k : Int)) (dd := dd) g2
    rw [g1, if_pos rfl] at e
    obtain ⟨S', ih⟩ := loopX hp hw hb as (k + 1) (some (.int k, .frz)) (some (dRow a, .frz)) (fun d hd' => hd d (List.mem_cons_of_mem _ hd')) rfl rfl (dd := dd) (rest := rest)
    refine ⟨S', ?_⟩
    have pm : netMP (.tup [.int k, dRow a]) [some (.ins 0 [], .lck), some (.int p, .frz), some (dd, .frz), x3, x4, none] = some [some (.ins 0 [], .lck), some (.int p, .frz), some (dd, .frz), some (.int k, .frz), some (dRow a, .frz), none] := by simp [n3, n4]
    show forD netMP netBody (.tup [.int k, dRow a] :: enumD ((k : Int) + 1) (as.map dRow ++ w :: rest)) _ tp = _
    unfold forD
    rw [pm]
    show (match netBody _ tp with | .nx S2 tp2 => forD netMP netBody (enumD ((k : Int) + 1) (as.map dRow ++ w :: rest)) S2 tp2 | .ct S2 tp2 => forD netMP netBody (enumD ((k : Int) + 1) (as.map dRow ++ w :: rest)) S2 tp2 | .bk S2 tp2 => .nx S2 tp2 | o => o) = _
    rw [e]
    have hk : (k : Int) + 1 = ((k + 1 : Nat) : Int) := by omega
    have hk2 : k + (a :: as).length = k + 1 + as.length := by rw [List.length_cons]; omega
    rw [hk, hk2]
    exact ih
theorem q_newX1 {d e : D} (h : nice d) (hb : inn 0 12 d = false) : sem_new_Net [(d, false), (e, false)] tp = .ex 2 [.str "places"] tp := by
  unfold sem_new_Net semI
  simp [m_new_Net, parS, q_within h, hb]
theorem q_newX2 {p : Int} {e : D} (hp0 : 0 ≤ p) (hp : p ≤ 12) (h : nice e) (hb : isTup 0 16 e = false) : sem_new_Net [(.int p, false), (e, false)] tp = .ex 2 [.str "deeds"] tp := by
  have e1 : inn 0 12 (.int p) = true := inn_int hp0 hp
  have e2 := fun tp => q_tupleG (tp := tp) h (a := 0) (b := 16)
  unfold sem_new_Net semI
  simp [m_new_Net, parS, q_within (nice_int _), e1, e2, hb]
theorem q_newX3 {p : Int} {as : Dd} {w : D} {rest : List D} (hp0 : 0 ≤ p) (hp : p ≤ 12) (hd : okD p as) (hw : nice3 w) (hb : goodRow p w = false) (hl : as.length + 1 + rest.length ≤ 16) : sem_new_Net [(.int p, false), (.tup (as.map dRow ++ w :: rest), false)] tp = .ex 2 [.int as.length] tp := by
  have e1 : inn 0 12 (.int p) = true := inn_int hp0 hp
  obtain ⟨S', f1⟩ := loopX (tp := tp) (dd := .tup (as.map dRow ++ w :: rest)) (rest := rest) (by omega) hw hb as 0 none none hd rfl rfl
  have f1 : forD netMP netBody (enumD 0 (as.map dRow ++ w :: rest)) _ tp = .ex 2 [.int ((0 + as.length : Nat) : Int)] S' tp := f1
  rw [Nat.zero_add] at f1
  have e3 : fEnum [.tup (as.map dRow ++ w :: rest)] = some (enumD 0 (as.map dRow ++ w :: rest)) := rfl
  have hll : (as.map dRow ++ w :: rest).length = as.length + 1 + rest.length := by simp; omega
  have e2 : sem_is_tuple [(.tup (as.map dRow ++ w :: rest), false), (.int 0, false), (.int 16, false)] tp = .ok (.bl true) .frz tp := by
    rw [q_tuple, hll, decide_eq_true (by omega), decide_eq_true (by omega)]; rfl
  generalize as.map dRow ++ w :: rest = LL at *
  generalize enumD 0 LL = EE at *
  unfold sem_new_Net semI
  simp [m_new_Net, parS, q_within (nice_int _), e1, e2, e3, f1]
end K01

/-! K01h: is_bad. -/
namespace K01
open PySem L2 PV
variable {tp : Tp}
def odds : List D := [.int (-1), .int 13, .non, .bl true, .str "1", .tup [.int 1], .lst [.int 1], .dct [] []]
theorem odds_ok {d : D} (h : d ∈ odds) : nice d ∧ inn 0 12 d = false := by
  simp only [odds, List.mem_cons, List.not_mem_nil, or_false] at h
  rcases h with rfl | rfl | rfl | rfl | rfl | rfl | rfl | rfl <;> exact ⟨rfl, rfl⟩
def z0 (n : Nat) : D := .tup (List.replicate n (.int 0))
def bads (n : Nat) (rows : List D) : List D := [.non, .int 0, .lst rows, .dct [] [], .str "deeds", .tup (List.replicate 17 (.tup [z0 n, z0 n]))]
theorem bads_ok {n : Nat} {rows : List D} {d : D} (h : d ∈ bads n rows) : nice d ∧ isTup 0 16 d = false := by
  simp only [bads, List.mem_cons, List.not_mem_nil, or_false] at h
  rcases h with rfl | rfl | rfl | rfl | rfl | rfl <;> exact ⟨rfl, rfl⟩
def wrA (n : Nat) : List D := [.non, .tup [], .tup [z0 n], .lst [z0 n, z0 n], .tup [z0 n, .lst (List.replicate n (.int 0))]]
def wrB (n : Nat) : List D := [.tup [z0 n, z0 (n + 1)], .int 0]
def wrC (n : Nat) : List D := [.tup [.tup (List.replicate n (.int 10)), z0 n], .tup [z0 n, .tup (List.replicate n (.int (-1)))], .tup [.tup (List.replicate n (.bl true)), z0 n]]
def wrD (n : Nat) : List D := [.tup [z0 n, .tup (List.replicate n (.str "0"))]]
theorem n2_z (n : Nat) (hn : n ≤ 1000) : nice2 (z0 n) := n2_rep rfl hn
theorem n3_two {a b : D} (ha : nice2 a) (hb : nice2 b) : nice3 (.tup [a, b]) := ⟨rfl, fun l e => by
  cases e
  refine ⟨fun x hx => ?_, by simp⟩
  simp only [List.mem_cons, List.not_mem_nil, or_false] at hx
  rcases hx with rfl | rfl
  · exact ha
  · exact hb⟩
theorem n3_of {d : D} (h : nice d) (h2 : ∀ l, d ≠ .tup l) : nice3 d := ⟨h, fun l e => absurd e (h2 l)⟩
theorem bad_l {p : Int} {a b : D} (h : tupB p p 0 9 a = false) : goodRow p (.tup [a, b]) = false := by
  show (tupB p p 0 9 a && tupB p p 0 9 b) = false
  rw [h, Bool.false_and]
theorem bad_r {p : Int} {a b : D} (h : tupB p p 0 9 b = false) : goodRow p (.tup [a, b]) = false := by
  show (tupB p p 0 9 a && tupB p p 0 9 b) = false
  rw [h, Bool.and_false]
theorem wr_ok {n : Nat} (hn : n ≤ 12) {d : D} (h : d ∈ wrA n ++ wrB n ∨ (0 < n ∧ d ∈ wrC n ++ wrD n)) : nice3 d ∧ goodRow n d = false := by
  have zz := n2_z n (by omega)
  rcases h with h | ⟨h0, h⟩
  · simp only [wrA, wrB, List.mem_append, List.mem_cons, List.not_mem_nil, or_false] at h
    rcases h with (rfl | rfl | rfl | rfl | rfl) | (rfl | rfl)
    · exact ⟨n3_of rfl (by simp), rfl⟩
    · refine ⟨⟨rfl, fun l e => ?_⟩, rfl⟩
      cases e
      exact ⟨fun x hx => (nomatch hx), Nat.zero_le _⟩
    · refine ⟨⟨rfl, fun l e => ?_⟩, rfl⟩
      cases e
      refine ⟨fun x hx => ?_, by simp⟩
      rw [List.mem_singleton.mp hx]; exact zz
    · exact ⟨n3_of rfl (by simp), rfl⟩
    · exact ⟨n3_two zz (n2_of rfl (by simp)), bad_r rfl⟩
    · exact ⟨n3_two zz (n2_z _ (by omega)), bad_r (tupB_len (by simp; omega))⟩
    · exact ⟨n3_of rfl (by simp), rfl⟩
  · simp only [wrC, wrD, List.mem_append, List.mem_cons, List.not_mem_nil, or_false] at h
    rcases h with (rfl | rfl | rfl) | rfl
    · exact ⟨n3_two (n2_rep rfl (by omega)) zz, bad_l (tupB_rep h0 rfl)⟩
    · exact ⟨n3_two zz (n2_rep rfl (by omega)), bad_r (tupB_rep h0 rfl)⟩
    · exact ⟨n3_two (n2_rep rfl (by omega)) zz, bad_l (tupB_rep h0 rfl)⟩
    · exact ⟨n3_two zz (n2_rep rfl (by omega)), bad_r (tupB_rep h0 rfl)⟩
theorem ne_tt {l : List D} (h : (D.tup l).ok = true) : fNe3 (.tup l) (.tup l) = some (.bl false, .frz) := fNe_refl h
theorem eq_tt {l : List D} (h : (D.tup l).ok = true) : fEq3 (.tup l) (.tup l) = some (.bl true, .frz) := fEq_refl h
theorem ok_np : (D.tup [.str "net", .str "places"]).ok = true := by with_unfolding_all rfl
theorem ok_nd : (D.tup [.str "net", .str "deeds"]).ok = true := by with_unfolding_all rfl
theorem ok_ni (i : Int) : (D.tup [.str "net", .int i]).ok = true := by with_unfolding_all rfl
theorem ok_ri (i : Int) : (D.tup [.str "ready", .int i]).ok = true := by with_unfolding_all rfl
theorem cut_to {l : List D} {a : Nat} (h : a ≤ l.length) : fSl (.tup l) none (some (a : Int)) = some (.tup (l.take a), .frz) := by
  show some (D.tup (cutD l none (some (a : Int))), Kd.frz) = _
  unfold cutD
  rw [HT.sIx_none, HT.sIx_nat, List.drop_zero, Nat.min_eq_left h, Nat.sub_zero]
theorem cut_from {l : List D} {a : Nat} (h : a ≤ l.length) : fSl (.tup l) (some (a : Int)) none = some (.tup (l.drop a), .frz) := by
  show some (D.tup (cutD l (some (a : Int)) none), Kd.frz) = _
  unfold cutD
  rw [HT.sIx_none, HT.sIx_nat, Nat.min_eq_left h, List.take_of_length_le (by simp)]
theorem pd_non : partD .non = some none := rfl
theorem pd_int (i : Int) : partD (.int i) = some (some i) := rfl
theorem q_bad {n : Nat} {ds : Dd} (hn : n ≤ 12) (hd : okD n ds) (hl : ds.length ≤ 4) (hT : Tape tp) : ∃ tp', sem__law_is_bad [(.tape, false), (.int n, false), (dD ds, false)] tp = .ok (.bl true) .frz tp' ∧ Tape tp' := by
  obtain ⟨d3, h3, t1, e1, hT⟩ := any_ok (l := odds) hT (by simp [odds]) (by simp [odds])
  obtain ⟨d4, h4, t2, e2, hT⟩ := any_ok (l := bads n (ds.map dRow)) hT (by simp [bads]) (by simp [bads])
  obtain ⟨o1, o2⟩ := odds_ok h3
  obtain ⟨b1, b2⟩ := bads_ok h4
  obtain ⟨r, t3, e3, r0, r1, hT⟩ := draw_ok (many := (ds.length : Int) + 1) hT (by omega) (by omega)
  obtain ⟨at_, rfl, hat⟩ := int_nat r0 r1
  have key : ∃ wr : List D, 0 < wr.length ∧ wr.length ≤ 100 ∧ (∀ d ∈ wr, nice3 d ∧ goodRow n d = false) ∧ (wr = if n = 0 then wrA n ++ wrB n else wrA n ++ wrB n ++ wrC n ++ wrD n) := by
    by_cases hz : n = 0
    · exact ⟨wrA n ++ wrB n, by simp [wrA], by simp [wrA, wrB], fun d h => wr_ok hn (.inl h), by rw [if_pos hz]⟩
    · refine ⟨wrA n ++ wrB n ++ wrC n ++ wrD n, by simp [wrA], by simp [wrA, wrB, wrC, wrD], fun d h => ?_, by rw [if_neg hz]⟩
      rw [List.append_assoc] at h
      rcases List.mem_append.mp h with h | h
      · exact wr_ok hn (.inl h)
      · exact wr_ok hn (.inr ⟨by omega, h⟩)
  obtain ⟨wr, w0, w1, w2, w3⟩ := key
  obtain ⟨d7, h7, t4, e4, hT⟩ := any_okP (l := wr) true hT w0 (by omega)
  obtain ⟨v1, v2⟩ := w2 d7 h7
  refine ⟨t4, semD_rt (k := .frz) ?_ (by decide), hT⟩
  have l1 : ∀ (S : Slots) (tp : Tp), (frzS S)[3]? = some (some (d3, .frz)) → mLamC sem__law_word (mNew sem_new_Net (mCons (mNm 3) (mCons (mC .non) (mNil)))) S tp = .ok (.tup [.str "net", .str "places"]) .frz tp := fun S tp hS => lam2 (by
    have q := fun tp => q_newX1 (tp := tp) (e := .non) o1 o2
    simp [hS, q])
  have l2 : ∀ (S : Slots) (tp : Tp), (frzS S)[1]? = some (some (.int n, .frz)) → (frzS S)[4]? = some (some (d4, .frz)) → mLamC sem__law_word (mNew sem_new_Net (mCons (mNm 1) (mCons (mNm 4) (mNil)))) S tp = .ok (.tup [.str "net", .str "deeds"]) .frz tp := fun S tp hS hS2 => lam2 (by
    have q := fun tp => q_newX2 (tp := tp) (p := (n : Int)) (by omega) (by omega) b1 b2
    simp [hS, hS2, q])
  have hlD : (ds.map dRow).length = ds.length := List.length_map _
  have htk : (ds.map dRow).take at_ = (ds.take at_).map dRow := by rw [List.map_take]
  have c1 := cut_to (l := ds.map dRow) (a := at_) (by omega)
  have c2 := cut_from (l := ds.map dRow) (a := at_) (by omega)
  have lt : (ds.take at_).length = at_ := by rw [List.length_take]; omega
  have a1 : fAdd (.tup ((ds.map dRow).take at_)) (.tup [d7]) = some (.tup ((ds.map dRow).take at_ ++ [d7]), .frz) := fAdd_tup (by rw [List.length_take, hlD]; simp; omega)
  have a2 : fAdd (.tup ((ds.map dRow).take at_ ++ [d7])) (.tup ((ds.map dRow).drop at_)) = some (.tup ((ds.map dRow).take at_ ++ [d7] ++ (ds.map dRow).drop at_), .frz) := fAdd_tup (by simp; omega)
  have a3 : fAdd (.tup ((ds.map dRow).take at_ ++ [d7] ++ (ds.map dRow).drop at_)) (.tup [.non]) = some (.tup ((ds.map dRow).take at_ ++ [d7] ++ (ds.map dRow).drop at_ ++ [.non]), .frz) := fAdd_tup (by simp; omega)
  have l3 : ∀ (S : Slots) (tp : Tp), (frzS S)[1]? = some (some (.int n, .frz)) → (frzS S)[8]? = some (some (.tup ((ds.map dRow).take at_ ++ [d7] ++ (ds.map dRow).drop at_), .frz)) → mLamC sem__law_word (mNew sem_new_Net (mCons (mNm 1) (mCons (mBin fAdd (mNm 8) (mTup (mCons (mC .non) (mNil)))) (mNil)))) S tp = .ok (.tup [.str "net", .int at_]) .frz tp := fun S tp hS hS2 => lam2 (by
    have q := fun tp => q_newX3 (tp := tp) (p := (n : Int)) (as := ds.take at_) (w := d7) (rest := (ds.map dRow).drop at_ ++ [.non]) (by omega) (by omega) (fun d h => hd d (List.mem_of_mem_take h)) v1 v2 (by rw [lt]; simp; omega)
    have ee : (ds.take at_).map dRow ++ d7 :: ((ds.map dRow).drop at_ ++ [.non]) = (ds.map dRow).take at_ ++ [d7] ++ (ds.map dRow).drop at_ ++ [.non] := by rw [htk]; simp
    rw [ee, lt] at q
    generalize (ds.map dRow).take at_ ++ [d7] ++ (ds.map dRow).drop at_ ++ [.non] = LL at *
    generalize (ds.map dRow).take at_ ++ [d7] ++ (ds.map dRow).drop at_ = L3 at *
    simp [hS, hS2, q, a3])
  have m0 := rep_tup (.int 0) n (by omega)
  have m1 := rep_lst1 (.int 0) n (by omega)
  have m2 := rep_tup' (.int 0) (z := (n : Int) + 1) (n + 1) (by omega) (by omega)
  have m3 := rep_tup' (.tup [z0 n, z0 n]) (z := 17) 17 rfl (by omega)
  have hz0 : D.tup (List.replicate n (.int 0)) = z0 n := rfl
  have hz1 : D.tup (List.replicate (n + 1) (.int 0)) = z0 (n + 1) := rfl
  rw [hz0] at m0
  rw [hz1] at m2
  have s1 : odds = [.int (-1), .int 13, .non, .bl true, .str "1", .tup [.int 1], .lst [.int 1], .dct [] []] := rfl
  have s2 : bads n (ds.map dRow) = [.non, .int 0, .lst (ds.map dRow), .dct [] [], .str "deeds", .tup (List.replicate 17 (.tup [z0 n, z0 n]))] := rfl
  have s3 : wrA n = [.non, .tup [], .tup [z0 n], .lst [z0 n, z0 n], .tup [z0 n, .lst (List.replicate n (.int 0))]] := rfl
  have s4 : wrB n = [.tup [z0 n, z0 (n + 1)], .int 0] := rfl
  have f1 : fAdd (.lst (wrA n)) (.lst (wrB n)) = some (.lst (wrA n ++ wrB n), .fr) := fAdd_lst (by simp [wrA, wrB])
  have hD : dD ds = .tup (ds.map dRow) := rfl
  rw [hD]
  have x1 := ne_tt ok_np
  have x2 := ne_tt ok_nd
  have x3 := eq_tt (ok_ni (at_ : Int))
  generalize (ds.map dRow).take at_ ++ [d7] ++ (ds.map dRow).drop at_ = L3 at *
  generalize (ds.map dRow).take at_ ++ [d7] = L2 at *
  generalize (ds.map dRow).take at_ = L1 at *
  generalize (ds.map dRow).drop at_ = L0 at *
  generalize ds.map dRow = rows at *
  generalize ds.length = dl at *
  by_cases hz : n = 0
  · rw [if_pos hz] at w3
    subst hz
    subst w3
    generalize bads 0 rows = BB at *
    generalize odds = OO at *
    generalize List.replicate 17 (D.tup [z0 0, z0 0]) = R17 at *
    generalize z0 (0 + 1) = Z1 at *
    generalize z0 0 = Z at *
    generalize List.replicate 0 (D.int 0) = R0 at *
    generalize wrA 0 ++ wrB 0 = WAB at *
    generalize wrA 0 = WA at *
    generalize wrB 0 = WB at *
    simp at m0 m1 m2
    simp [m__law_is_bad, parS, e1, ← s1, l1, x1, m0, m1, m2, m3, ← s2, e2, l2, x2, ← s3, ← s4, f1, e3, hlD, e4, pd_non, pd_int, c1, c2, a1, a2, l3, x3]
  · have h0 : 0 < n := by omega
    rw [if_neg hz] at w3
    have s5 : wrC n = [.tup [.tup (List.replicate n (.int 10)), z0 n], .tup [z0 n, .tup (List.replicate n (.int (-1)))], .tup [.tup (List.replicate n (.bl true)), z0 n]] := rfl
    have s6 : wrD n = [.tup [z0 n, .tup (List.replicate n (.str "0"))]] := rfl
    have f2 : fAdd (.lst (wrA n ++ wrB n)) (.lst (wrC n)) = some (.lst (wrA n ++ wrB n ++ wrC n), .fr) := fAdd_lst (by simp [wrA, wrB, wrC])
    have f3 : uApp (wrA n ++ wrB n ++ wrC n) (.tup [z0 n, .tup (List.replicate n (.str "0"))]) = some (wrA n ++ wrB n ++ wrC n ++ wrD n) := uApp_ok (by simp [wrA, wrB, wrC])
    have m4 := rep_tup (.int 10) n (by omega)
    have m5 := rep_tup (.int (-1)) n (by omega)
    have m6 := rep_tup (.bl true) n (by omega)
    have m7 := rep_tup (.str "0") n (by omega)
    subst w3
    generalize bads n rows = BB at *
    generalize odds = OO at *
    generalize List.replicate 17 (D.tup [z0 n, z0 n]) = R17 at *
    generalize z0 (n + 1) = Z1 at *
    generalize z0 n = Z at *
    generalize List.replicate n (D.int 0) = R0 at *
    generalize List.replicate n (D.int 10) = R10 at *
    generalize List.replicate n (D.int (-1)) = Rm at *
    generalize List.replicate n (D.bl true) = RT at *
    generalize List.replicate n (D.str "0") = RS at *
    generalize wrA n ++ wrB n ++ wrC n ++ wrD n = W4 at *
    generalize wrA n ++ wrB n ++ wrC n = W3 at *
    generalize wrA n ++ wrB n = WAB at *
    generalize wrA n = WA at *
    generalize wrB n = WB at *
    generalize wrC n = WC at *
    simp [m__law_is_bad, parS, e1, ← s1, l1, x1, m0, m1, m2, m3, ← s2, e2, l2, x2, ← s3, ← s4, f1, e3, hlD, e4, pd_non, pd_int, c1, c2, a1, a2, l3, x3, h0, m4, m5, m6, m7, ← s5, f2, f3, -uApp_ok]
end K01

/-! K01i: is_judged. -/
namespace K01
open PySem L2 PV
variable {tp : Tp}
theorem cut_1 (l : List D) : fSl (.tup l) (some 1) none = some (.tup (l.drop 1), .frz) := by
  show some (D.tup (cutD l (some ((1 : Nat) : Int)) none), Kd.frz) = _
  unfold cutD
  rw [HT.sIx_none, HT.sIx_nat]
  cases l with
  | nil => rfl
  | cons a l =>
    have : min 1 (a :: l).length = 1 := by simp
    rw [this, List.take_of_length_le (by simp)]
def thA (n : Nat) (l : List D) : List D := [.tup l, .tup (l ++ [.int 0]), .tup (l.drop 1), .lst l, .non, .tup [], .int 0, .dct [] [], .str "mark", .tup (List.replicate n (.int 1000000))]
def thB (n : Nat) : List D := [.tup (List.replicate n (.int 1000001)), .tup (List.replicate n (.int (-1)))]
def thC (n k : Nat) : List D := [.tup (List.replicate n (.bl true)), .tup (List.replicate k (.int 0)), .tup [.int k], .tup (List.replicate 200 (.int 0)), .tup (List.replicate 201 (.int 0)), .lst [.int 0]]
def thD : List D := [.tup [.int 0, .non], .tup [.str "0"]]
theorem n2_l {l : List D} (h : ∀ x ∈ l, nice x) (hl : l.length ≤ 1000) : nice2 (.tup l) := ⟨rfl, fun l' e => by cases e; exact ⟨h, hl⟩⟩
theorem th_ok {n k : Nat} {l : List D} (hn : n ≤ 12) (hk : k ≤ 16) (h : ∀ x ∈ l, nice x) (hl : l.length ≤ 100) {d : D} (hd : d ∈ thA n l ++ thB n ++ thC n k ++ thD) : nice2 d := by
  simp only [thA, thB, thC, thD, List.mem_append, List.mem_cons, List.not_mem_nil, or_false] at hd
  rcases hd with ((((rfl | rfl | rfl | rfl | rfl | rfl | rfl | rfl | rfl | rfl) | (rfl | rfl)) | (rfl | rfl | rfl | rfl | rfl | rfl)) | (rfl | rfl))
  · exact n2_l h (by omega)
  · refine n2_l (fun x hx => ?_) (by simp; omega)
    rcases List.mem_append.mp hx with z | z
    · exact h x z
    · rw [List.mem_singleton.mp z]; rfl
  · exact n2_l (fun x hx => h x (List.mem_of_mem_drop hx)) (by simp; omega)
  · exact n2_of rfl (by simp)
  · exact n2_of rfl (by simp)
  · exact n2_l (fun x hx => (nomatch hx)) (by simp)
  · exact n2_of rfl (by simp)
  · exact n2_of rfl (by simp)
  · exact n2_of rfl (by simp)
  · exact n2_rep rfl (by omega)
  · exact n2_rep rfl (by omega)
  · exact n2_rep rfl (by omega)
  · exact n2_rep rfl (by omega)
  · exact n2_rep rfl (by omega)
  · exact n2_l (fun x hx => by rw [List.mem_singleton.mp hx]; rfl) (by simp)
  · exact n2_rep rfl (by omega)
  · exact n2_rep rfl (by omega)
  · exact n2_of rfl (by simp)
  · refine n2_l (fun x hx => ?_) (by simp)
    simp only [List.mem_cons, List.not_mem_nil, or_false] at hx
    rcases hx with rfl | rfl <;> rfl
  · exact n2_l (fun x hx => by rw [List.mem_singleton.mp hx]; rfl) (by simp)
theorem fRepr_bl (b : Bool) : fRepr [.bl b] = some (.str (D.bl b).py.shown, .frz) := fRepr_of (show_bl b)
def InvJ (a0 a1 a2 a3 a4 a5 : D) (_ : Nat) (S : Slots) (t : Tp) : Prop := ∃ x6 x7, S = [some (a0, .frz), some (a1, .frz), some (a2, .frz), some (a3, .frz), some (a4, .frz), some (a5, .frz), x6, x7] ∧ Tape t ∧ nl x6 = true ∧ nl x7 = true
theorem q_judged {n : Nat} {ds : Dd} {m : List Int} (hn : n ≤ 12) (hl : ds.length ≤ 16) (hm : m.length ≤ 100) (hT : Tape tp) : ∃ tp', sem__law_is_judged [(.tape, false), (nD n ds, false), (.int n, false), (dD ds, false), (tI m, false)] tp = .ok (.bl true) .frz tp' ∧ Tape tp' := by
  have hmN : ∀ x ∈ m.map D.int, nice x := fun x hx => by
    obtain ⟨i, _, rfl⟩ := List.mem_map.mp hx
    rfl
  have hml : (m.map D.int).length ≤ 100 := by rw [List.length_map]; exact hm
  obtain ⟨S', tp', f1, x6, x7, rfl, hT', n6, n7⟩ := forD_rg (mp := pNm 6) (body := (mSeq (mSet 7 (mCall sem__law_any (mCons (mNm 0) (mCons (mNm 5) (mNil))))) (mSeq (mFrz 7) (mSeq (mIfS (mBin fNe3 (mB fRepr (mCons (mCall sem_is_mark (mCons (mNm 1) (mCons (mNm 7) (mNil)))) (mNil))) (mB fRepr (mCons (mCall sem__law_is_mark_of (mCons (mNm 2) (mCons (mNm 7) (mNil)))) (mNil)))) (mRet (mC (.bl false))) (mNext)) (mIfS (mBin fNe3 (mB fRepr (mCons (mCall sem_is_row (mCons (mNm 1) (mCons (mNm 7) (mNil)))) (mNil))) (mB fRepr (mCons (mCall sem__law_is_row_of (mCons (mB fLen (mCons (mNm 3) (mNil))) (mCons (mNm 7) (mNil)))) (mNil)))) (mRet (mC (.bl false))) (mNext)))))) 6 (InvJ .tape (nD n ds) (.int n) (dD ds) (tI m) (.lst (thA n (m.map D.int) ++ thB n ++ thC n ds.length ++ thD)))
    (fun i hi S t ⟨x6, x7, eS, hT, n6, n7⟩ => by
      subst eS
      obtain ⟨d, hd, t2, e1, hT2⟩ := any_ok (l := thA n (m.map D.int) ++ thB n ++ thC n ds.length ++ thD) hT (by simp [thA]) (by simp [thA, thB, thC, thD])
      have h2 := th_ok hn hl hmN hml hd
      have e2 := fun tp => q_markG (tp := tp) (p := (n : Int)) (ds := ds) h2
      have e3 := fun tp => q_rowG (tp := tp) (p := (n : Int)) (ds := ds) h2
      have e4 := fun tp => q_lmark_of (tp := tp) (n := (n : Int)) h2
      have e5 := fun tp => q_lrow_of (tp := tp) (n := (ds.length : Int)) h2
      have r1 := fRepr_bl (tupB n n 0 1000000 d)
      have r2 := fRepr_bl (tupB 0 200 0 ((ds.length : Int) - 1) d)
      have hD : dD ds = .tup (ds.map dRow) := rfl
      have hlD : (ds.map dRow).length = ds.length := List.length_map _
      have hx : ∀ dd : D, InvJ .tape (nD n ds) (.int n) dd (tI m) (.lst (thA n (m.map D.int) ++ thB n ++ thC n ds.length ++ thD)) (i + 1) [some (.tape, .frz), some (nD n ds, .frz), some (.int n, .frz), some (dd, .frz), some (tI m, .frz), some (.lst (thA n (m.map D.int) ++ thB n ++ thC n ds.length ++ thD), .frz), some (.int i, .frz), some (d, .frz)] t2 := fun dd => ⟨_, _, rfl, hT2, rfl, rfl⟩
      rw [hD]
      generalize (D.bl (tupB n n 0 1000000 d)).py.shown = s1 at *
      generalize (D.bl (tupB 0 200 0 ((ds.length : Int) - 1) d)).py.shown = s2 at *
      generalize tupB n n 0 1000000 d = b1 at *
      generalize tupB 0 200 0 ((ds.length : Int) - 1) d = b2 at *
      generalize thA n (m.map D.int) ++ thB n ++ thC n ds.length ++ thD = TT at *
      have hx := hx (.tup (ds.map dRow))
      generalize nD n ds = nn at *
      generalize tI m = mm at *
      generalize ds.map dRow = rows at *
      simp [n6, n7, e1, e2, e4, r1, hlD, e3, e5, r2]
      exact hx)
    (S := [some (.tape, .frz), some (nD n ds, .frz), some (.int n, .frz), some (dD ds, .frz), some (tI m, .frz), some (.lst (thA n (m.map D.int) ++ thB n ++ thC n ds.length ++ thD), .frz), none, none]) (tp := tp) ⟨none, none, rfl, hT, rfl, rfl⟩
  refine ⟨tp', semD_rt (k := .frz) ?_ (by decide), hT'⟩
  have hD : dD ds = .tup (ds.map dRow) := rfl
  have hlD : (ds.map dRow).length = ds.length := List.length_map _
  rw [hD] at f1 ⊢
  have m1 := rep_tup (.int 1000000) n (by omega)
  have m2 := rep_tup (.int 1000001) n (by omega)
  have m3 := rep_tup (.int (-1)) n (by omega)
  have m4 := rep_tup (.bl true) n (by omega)
  have m5 := rep_tup (.int 0) ds.length (by omega)
  have m6 := rep_tup' (.int 0) (z := 200) 200 rfl (by omega)
  have m7 := rep_tup' (.int 0) (z := 201) 201 rfl (by omega)
  have c1 := cut_1 (m.map D.int)
  have a0 : fAdd (.tup (m.map D.int)) (.tup [.int 0]) = some (.tup (m.map D.int ++ [.int 0]), .frz) := fAdd_tup (by simp; omega)
  have a1 : fAdd (.lst (thA n (m.map D.int))) (.lst (thB n)) = some (.lst (thA n (m.map D.int) ++ thB n), .fr) := fAdd_lst (by simp [thA, thB])
  have a2 : fAdd (.lst (thA n (m.map D.int) ++ thB n)) (.lst (thC n ds.length)) = some (.lst (thA n (m.map D.int) ++ thB n ++ thC n ds.length), .fr) := fAdd_lst (by simp [thA, thB, thC])
  have a3 : fAdd (.lst (thA n (m.map D.int) ++ thB n ++ thC n ds.length)) (.lst thD) = some (.lst (thA n (m.map D.int) ++ thB n ++ thC n ds.length ++ thD), .fr) := fAdd_lst (by simp [thA, thB, thC, thD])
  have w1 : thA n (m.map D.int) = [.tup (m.map D.int), .tup (m.map D.int ++ [.int 0]), .tup ((m.map D.int).drop 1), .lst (m.map D.int), .non, .tup [], .int 0, .dct [] [], .str "mark", .tup (List.replicate n (.int 1000000))] := rfl
  have w2 : thB n = [.tup (List.replicate n (.int 1000001)), .tup (List.replicate n (.int (-1)))] := rfl
  have w3 : thC n ds.length = [.tup (List.replicate n (.bl true)), .tup (List.replicate ds.length (.int 0)), .tup [.int ds.length], .tup (List.replicate 200 (.int 0)), .tup (List.replicate 201 (.int 0)), .lst [.int 0]] := rfl
  have w4 : thD = [.tup [.int 0, .non], .tup [.str "0"]] := rfl
  have r6 : ∀ k tp, rngO (.ok (.int 6) k tp) = .ok (rgD 0 6) false tp := fun k tp => rngO_int (by decide) (by decide) k tp
  unfold tI at f1 ⊢
  generalize thA n (m.map D.int) ++ thB n ++ thC n ds.length ++ thD = T4 at *
  generalize thA n (m.map D.int) ++ thB n ++ thC n ds.length = T3 at *
  generalize thA n (m.map D.int) ++ thB n = T2 at *
  generalize thA n (m.map D.int) = TA at *
  generalize thB n = TB at *
  generalize thC n ds.length = TC at *
  generalize thD = TD at *
  generalize List.replicate n (D.int 1000000) = q1 at *
  generalize List.replicate n (D.int 1000001) = q2 at *
  generalize List.replicate n (D.int (-1)) = q3 at *
  generalize List.replicate n (D.bl true) = q4 at *
  generalize List.replicate ds.length (D.int 0) = q5 at *
  generalize List.replicate 200 (D.int 0) = q6 at *
  generalize List.replicate 201 (D.int 0) = q7 at *
  generalize (m.map D.int).drop 1 = q8 at *
  generalize m.map D.int ++ [D.int 0] = q9 at *
  generalize m.map D.int = mm at *
  generalize nD n ds = nn at *
  generalize ds.map dRow = rows at *
  simp [m__law_is_judged, parS, pow6, pd_non, pd_int, m1, m2, m3, m4, m5, m6, m7, c1, a0, hlD, ← w1, ← w2, a1, ← w3, a2, ← w4, a3, r6, f1]
end K01

/-! K01j: is_right. -/
namespace K01
open PySem L2 PV
variable {tp : Tp}
theorem dD_pl0 (ds : Dd) : (dD ds).pl0 = true := by
  unfold dD D.pl0
  refine pls0_map _ _ fun x _ => ?_
  unfold D.pl0 D.pls0
  rw [pl0_ints]
  unfold D.pls0
  rw [pl0_ints]
  rfl
theorem dD_dep (ds : Dd) : (dD ds).dep ≤ 3 := by
  unfold dD D.dep
  have := deps_map (fun p : List Int × List Int => D.tup [tI p.1, tI p.2]) 2 ds fun x _ => by
    have h1 : (tI x.1).dep ≤ 1 := dep_ints x.1
    have h2 : (tI x.2).dep ≤ 1 := dep_ints x.2
    show max (tI x.1).dep (max (tI x.2).dep 0) + 1 ≤ 2
    omega
  omega
theorem pair_ok (p : Int) (ds : Dd) : (D.tup [.int p, dD ds]).ok = true := by
  refine ok_of ?_ ?_
  · unfold D.pl0 D.pls0 D.pls0
    rw [dD_pl0]; rfl
  · have := dD_dep ds
    unfold D.dep D.deps D.deps D.deps
    have : (D.int p).dep = 0 := rfl
    omega
theorem q_eq (p q : Int) (a b : Dd) : sem_eq_Net [(nD p a, false), (nD q b, false)] tp = .ok (.bl (D.eqb (.tup [.int p, dD a]) (.tup [.int q, dD b]))) .frz tp := by
  refine semD_rt (k := .frz) ?_ (by decide)
  have : fEq3 (.tup [.int p, dD a]) (.tup [.int q, dD b]) = _ := fEq_of (pair_ok p a) (pair_ok q b)
  simp [m_eq_Net, parS, isiC_ins, this]
theorem q_eq_t (p : Int) (a : Dd) : sem_eq_Net [(nD p a, false), (nD p a, false)] tp = .ok (.bl true) .frz tp := by
  rw [q_eq, D.eqb_refl]
  have := pair_ok p a
  unfold D.ok at this
  exact (Bool.and_eq_true_iff.mp this).1
theorem eqb_dD {p : Int} {a b : Dd} (h : a.length ≠ b.length) : D.eqb (.tup [.int p, dD a]) (.tup [.int p, dD b]) = false := by
  cases e : D.eqb (.tup [.int p, dD a]) (.tup [.int p, dD b]) with
  | false => rfl
  | true =>
    exfalso
    unfold D.eqb D.eqbs D.eqbs at e
    rw [Bool.and_eq_true, Bool.and_eq_true] at e
    have := e.2.1
    unfold dD D.eqb at this
    have := D.eqbs_len this
    simp at this
    exact h this
theorem q_eq_tup (p : Int) (a : Dd) (l : List D) : sem_eq_Net [(nD p a, false), (.tup l, false)] tp = .ok (.bl false) .frz tp := by
  refine semD_rt (k := .frz) ?_ (by decide)
  have e : isiC nC 0 (.tup l) = some false := rfl
  simp [m_eq_Net, parS, e]
theorem eqb_p {p q : Int} (h : p ≠ q) (a b : Dd) : D.eqb (.tup [.int p, dD a]) (.tup [.int q, dD b]) = false := by
  unfold D.eqb D.eqbs
  have : D.eqb (.int p) (.int q) = false := by simp [D.eqb, h]
  rw [this, Bool.false_and]
theorem sm9 {p : Int} {xs : List Int} (h : okC p xs) : ∀ x ∈ xs, x.natAbs < 1000000000000 := fun x hx => by
  have := h.2 x hx
  omega
theorem row_sml {p : Int} {q : List Int × List Int} (h : okC p q.1 ∧ okC p q.2) : (dRow q).sml = true := by
  show ((tI q.1).sml && ((tI q.2).sml && true)) = true
  rw [sml_ints (sm9 h.1), sml_ints (sm9 h.2)]; rfl
theorem row_wt {p : Int} {q : List Int × List Int} (h : okC p q.1 ∧ okC p q.2) (hp : p ≤ 12) : (dRow q).py.weight ≤ 1100 := by
  have h1 : (tI q.1).py.weight ≤ q.1.length * 42 := wt_ints (sm9 h.1)
  have h2 : (tI q.2).py.weight ≤ q.2.length * 42 := wt_ints (sm9 h.2)
  have l1 := h.1.1
  have l2 := h.2.1
  show (tI q.1).py.weight + 1 + ((tI q.2).py.weight + 1 + 0) ≤ 1100
  omega
theorem show_net {p : Int} {ds : Dd} (hp0 : 0 ≤ p) (hp : p ≤ 12) (hd : okD p ds) (hl : ds.length ≤ 16) : (D.lst [.int p, dD ds]).showB = true := by
  have s1 : (dD ds).sml = true := smls_map dRow ds fun q hq => row_sml (hd q hq)
  have w1 : (dD ds).py.weight ≤ ds.length * 1101 := wt_map dRow 1100 ds fun q hq => row_wt (hd q hq) hp
  have d1 := dD_dep ds
  refine shwB_of ?_ ?_ ?_
  · show ((D.int p).sml && ((dD ds).sml && true)) = true
    rw [s1, sml_int (by omega)]; rfl
  · show max (D.int p).dep (max (dD ds).dep 0) + 1 ≤ 60
    have : (D.int p).dep = 0 := rfl
    omega
  · have w2 : (D.int p).py.weight ≤ 41 := wt_int (by omega)
    show (D.int p).py.weight + 1 + ((dD ds).py.weight + 1 + 0) ≤ 1048576
    omega
theorem rdy_len (dd : Dd) (m : List Int) : (rdy dd m).length ≤ dd.length := by
  unfold rdy
  refine Nat.le_trans (List.length_filter_le _ _) ?_
  simp
theorem show_rdy {dd : Dd} {m : List Int} (hl : dd.length ≤ 16) : (D.lst ((rdy dd m).map fun i : Nat => D.int i)).showB = true := by
  have e : (rdy dd m).map (fun i : Nat => D.int i) = ((rdy dd m).map fun i : Nat => (i : Int)).map D.int := by simp [Function.comp_def]
  rw [e]
  refine show_lints (fun x hx => ?_) (by have := rdy_len dd m; rw [List.length_map]; omega)
  obtain ⟨i, hi, rfl⟩ := List.mem_map.mp hx
  have := (rdy_mem hi).1
  omega
theorem lst_ok {dd : Dd} {m : List Int} : (D.lst ((rdy dd m).map fun i : Nat => D.int i)).ok = true := by
  have e : (rdy dd m).map (fun i : Nat => D.int i) = ((rdy dd m).map fun i : Nat => (i : Int)).map D.int := by simp [Function.comp_def]
  rw [e]
  exact ok_ints _
theorem in_rdy {dd : Dd} {m : List Int} {i : Nat} (hi : i < dd.length) : fIn3 false (.int i) (.lst ((rdy dd m).map fun i : Nat => D.int i)) = some (.bl (can dd m i), .frz) := by
  rw [fIn3_lst rfl lst_ok, List.any_map, Bool.false_xor]
  congr 2
  cases h : can dd m i with
  | true =>
    have : i ∈ rdy dd m := List.mem_filter.mpr ⟨List.mem_range.mpr hi, h⟩
    exact congrArg D.bl (List.any_eq_true.mpr ⟨i, this, by simp [eqb_ints]⟩)
  | false =>
    congr 1
    rw [List.any_eq_false]
    intro j hj
    have := (rdy_mem hj).2
    simp only [Function.comp_apply, eqb_ints, beq_iff_eq]
    intro e
    have e : j = i := by omega
    rw [e, h] at this
    cases this
theorem zip3_len' {a b c : List Int} {p : Nat} (ha : a.length = p) (hb : b.length = p) (hc : c.length = p) : (zip3 a b c).length = p := by
  induction a generalizing b c p with
  | nil => simpa [zip3] using ha
  | cons x a ih =>
    cases b with
    | nil => simp at ha hb; omega
    | cons y b => cases c with
      | nil => simp at ha hc; omega
      | cons z c =>
        cases p with
        | zero => simp at ha
        | succ p =>
          have := ih (b := b) (c := c) (p := p) (by simpa using ha) (by simpa using hb) (by simpa using hc)
          simp [zip3, this]
/-- what done comes to is small -/
theorem zip3_small {p : Int} : ∀ {m t u : List Int}, (∀ x ∈ m, 0 ≤ x ∧ x ≤ 6) → (∀ x ∈ u, 0 ≤ x ∧ x ≤ 9) → (m.zip t).all (fun p => decide (p.2 ≤ p.1)) = true → (∀ x ∈ t, 0 ≤ x ∧ x ≤ 9) → ∀ x ∈ (zip3 m t u).map (fun q => q.1 - q.2.1 + q.2.2), 0 ≤ x ∧ x ≤ 15
  | [], _, _, _, _, _, _, x, hx => by simp [zip3] at hx
  | _ :: _, [], _, _, _, _, _, x, hx => by simp [zip3] at hx
  | _ :: _, _ :: _, [], _, _, _, _, x, hx => by simp [zip3] at hx
  | a :: m, b :: t, c :: u, hm, hu, hc, ht, x, hx => by
    rw [List.zip_cons_cons, List.all_cons, Bool.and_eq_true] at hc
    have h1 : b ≤ a := of_decide_eq_true hc.1
    have h2 := hu c (List.mem_cons_self ..)
    have h3 := hm a (List.mem_cons_self ..)
    have h4 := ht b (List.mem_cons_self ..)
    simp only [zip3, List.map_cons, List.mem_cons] at hx
    rcases hx with rfl | hx
    · omega
    · exact zip3_small (p := p) (fun y hy => hm y (List.mem_cons_of_mem _ hy)) (fun y hy => hu y (List.mem_cons_of_mem _ hy)) hc.2 (fun y hy => ht y (List.mem_cons_of_mem _ hy)) x hx
theorem beh_small {n : Nat} {dd : Dd} {m : List Int} {i : Nat} (hm : few n 6 m) (hd : okD n dd) (hi : i < dd.length) (hc : can dd m i = true) : okM n (beh dd m i) ∧ ∀ x ∈ beh dd m i, 0 ≤ x ∧ x ≤ 15 := by
  have hdi := hd dd[i] (List.getElem_mem hi)
  have e : dd.getD i ([], []) = dd[i] := by rw [List.getD_eq_getElem?_getD, List.getElem?_eq_getElem hi]; rfl
  unfold can at hc
  unfold beh
  rw [e] at hc ⊢
  generalize dd[i] = q at *
  have h1 : ∀ x ∈ (zip3 m q.1 q.2).map (fun q => q.1 - q.2.1 + q.2.2), 0 ≤ x ∧ x ≤ 15 := zip3_small (p := 0) hm.2 hdi.2.2 hc hdi.1.2
  refine ⟨⟨?_, fun x hx => by have := h1 x hx; omega⟩, h1⟩
  have l1 := hdi.1.1
  have l2 := hdi.2.1
  rw [List.length_map, zip3_len' (p := n) hm.1 (by omega) (by omega)]
def InvW (a0 a1 a2 a3 a4 a5 : D) (tp : Tp) (_ : Nat) (S : Slots) (t : Tp) : Prop := ∃ x6, (S = [some (a0, .frz), some (a1, .frz), some (a2, .frz), some (a3, .frz), some (a4, .frz), some (a5, .frz), x6, none, none, none] ∧ t = tp) ∧ nl x6 = true
theorem q_wordof5 {p : Int} {dd : Dd} {d b : D} (h : nice2 d) (hb : tupB p p 0 1000000 d = false) : sem__law_word_of [(nD p dd, false), (d, false), (b, false)] tp = .ok (.str "mark") .frz tp := by
  refine semD_rt (k := .frz) ?_ (by decide)
  have q := fun tp => done_mark (tp := tp) (p := p) (dd := dd) (b := b) h hb
  have l : ∀ (S : Slots) (tp : Tp), S = [some (nD p dd, .frz), some (d, .frz), some (b, .frz)] → mLamC sem__law_word (mCall sem_done (mCons (mNm 0) (mCons (mNm 1) (mCons (mNm 2) (mNil))))) S tp = .ok (.str "mark") .frz tp := fun S tp e => lam5 (by subst e; simp [q])
  simp [m__law_word_of, parS, l]
theorem q_wordof4 {p : Int} {dd : Dd} {m : List Int} {b : D} (hm : okM p m) (hp : p ≤ 1000) (h : nice b) (hb : inn 0 ((dd.length : Int) - 1) b = false) : sem__law_word_of [(nD p dd, false), (tI m, false), (b, false)] tp = .ok (.str "deed") .frz tp := by
  refine semD_rt (k := .frz) ?_ (by decide)
  have q := fun tp => done_deed (tp := tp) (dd := dd) hm hp h hb
  have l : ∀ (S : Slots) (tp : Tp), S = [some (nD p dd, .frz), some (tI m, .frz), some (b, .frz)] → mLamC sem__law_word (mCall sem_done (mCons (mNm 0) (mCons (mNm 1) (mCons (mNm 2) (mNil))))) S tp = .ok (.str "deed") .frz tp := fun S tp e => lam4 (by subst e; simp [q])
  simp [m__law_word_of, parS, l]
theorem bd_ok {k : Nat} {d : D} (h : d ∈ [D.int k, .int (-1), .non, .bl true, .str "0", .tup [.int 0], .dct [] []]) : nice d ∧ inn 0 ((k : Int) - 1) d = false := by
  simp only [List.mem_cons, List.not_mem_nil, or_false] at h
  rcases h with rfl | rfl | rfl | rfl | rfl | rfl | rfl
  · refine ⟨rfl, ?_⟩
    show (decide (0 ≤ (k : Int)) && decide ((k : Int) ≤ (k : Int) - 1)) = false
    rw [decide_eq_false (show ¬ ((k : Int) ≤ (k : Int) - 1) by omega), Bool.and_false]
  all_goals exact ⟨rfl, rfl⟩
theorem www : fEq3 (.lst [.str "mark", .str "mark", .str "deed"]) (.lst [.str "mark", .str "mark", .str "deed"]) = some (.bl true, .frz) := by with_unfolding_all rfl
theorem q_right {n : Nat} {ds : Dd} (hn : n ≤ 4) (hd : okD n ds) (hl : ds.length ≤ 4) (hT : Tape tp) : ∃ tp', sem__law_is_right [(.tape, false), (.int n, false), (dD ds, false)] tp = .ok (.bl true) .frz tp' ∧ Tape tp' := by
  obtain ⟨m, t1, e2, hf, hT⟩ := q_lmark (n := n) (most := 6) (by omega) (by decide) (by decide) hT
  have hm : okM n m := ⟨by rw [hf.1], fun x hx => by have := hf.2 x hx; omega⟩
  have hml : m.length ≤ 1000 := by rw [hf.1]; omega
  have e1 := fun tp => q_new (tp := tp) (p := (n : Int)) (ds := ds) (by omega) (by omega) (by omega) hd
  have zC : okC n (List.replicate n 0) := okC_few (few_rep n) (by omega)
  have e3 := fun tp => q_new (tp := tp) (p := (n : Int)) (ds := ds ++ [(List.replicate n 0, List.replicate n 0)]) (by omega) (by omega) (by simp; omega) (fun q hq => by
    rcases List.mem_append.mp hq with z | z
    · exact hd q z
    · rw [List.mem_singleton.mp z]; exact ⟨zC, zC⟩)
  have e4 := fun tp => q_new (tp := tp) (p := (n : Int) + 1) (ds := []) (by omega) (by omega) (by simp) (fun q hq => (nomatch hq))
  have q1 := fun tp => q_eq_t (tp := tp) (n : Int) ds
  have q2 := fun tp => q_eq (tp := tp) (n : Int) (n : Int) ds (ds ++ [(List.replicate n 0, List.replicate n 0)])
  have q3 := fun tp => q_eq (tp := tp) (n : Int) ((n : Int) + 1) ds []
  rw [eqb_dD (by simp)] at q2
  rw [eqb_p (by omega)] at q3
  have q4 := fun l tp => q_eq_tup (tp := tp) (n : Int) ds l
  have s1 := fRepr_of (show_net (p := (n : Int)) (by omega) (by omega) hd (by omega))
  have e5 := fun tp => q_lready (tp := tp) (dd := ds) (m := m) (by omega) hml
  have e6 := fun tp => q_readyA (tp := tp) (p := (n : Int)) (dd := ds) (by omega) hm (by omega)
  have s2 := fRepr_of (show_rdy (dd := ds) (m := m) (by omega))
  obtain ⟨none_, t2, e7, g1, g2, hT⟩ := q_nomark (n := n) (by omega) hT
  obtain ⟨bad, hbad, t3, e8, hT⟩ := any_ok (l := [D.int ds.length, .int (-1), .non, .bl true, .str "0", .tup [.int 0], .dct [] []]) hT (by simp) (by simp)
  obtain ⟨g3, g4⟩ := bd_ok hbad
  obtain ⟨t4, e9, hT⟩ := q_judged (n := n) (ds := ds) (m := m) (by omega) (by omega) (by rw [hf.1]; omega) hT
  refine ⟨t4, semD_rt (k := .frz) ?_ (by decide), hT⟩
  have f := fun (nn dd mm rr : D) (h1 : nn = nD n ds) (h2 : dd = dD ds) (h3 : mm = tI m) (h4 : rr = .lst ((rdy ds m).map fun i : Nat => D.int i)) => forD_rg (mp := pNm 6) (body := (mIfS (mBin (fIn3 false) (mNm 6) (mNm 5)) (mIfS (mBin fNe3 (mB fRepr (mCons (mCall sem_done (mCons (mNm 3) (mCons (mNm 4) (mCons (mNm 6) (mNil))))) (mNil))) (mB fRepr (mCons (mCall sem__law_behind (mCons (mNm 2) (mCons (mNm 4) (mCons (mNm 6) (mNil))))) (mNil)))) (mRet (mC (.bl false))) (mNext)) (mIfS (mBin fNe3 (mLamC sem__law_word (mCall sem_done (mCons (mNm 3) (mCons (mNm 4) (mCons (mNm 6) (mNil)))))) (mTup (mCons (mC (.str "ready")) (mCons (mNm 6) (mNil))))) (mRet (mC (.bl false))) (mNext)))) ds.length (InvW .tape (.int n) dd nn mm rr t1)
    (fun i hi S t ⟨x6, ⟨eS, et⟩, n6⟩ => by
      subst eS et
      have b1 := in_rdy (m := m) hi
      rw [← h4] at b1
      cases hc : can ds m i with
      | true =>
        rw [hc] at b1
        have him : i ∈ rdy ds m := List.mem_filter.mpr ⟨List.mem_range.mpr hi, hc⟩
        obtain ⟨k1, k2⟩ := beh_small hf hd hi hc
        have b2 := fun tp => q_done (tp := tp) (p := (n : Int)) (by omega) hm (by omega) him k1
        have b3 := fun tp => q_lbehind (tp := tp) (m := m) hi hml
        have b4 := fRepr_of (show_ints (m := beh ds m i) (fun x hx => by have := k2 x hx; omega) (by have := k1.1; omega))
        rw [← h1, ← h3] at b2
        rw [← h2, ← h3] at b3
        clear h1 h2 h3 h4
        generalize (D.tup ((beh ds m i).map D.int)).py.shown = ss at *
        have b4 : fRepr [tI (beh ds m i)] = some (.str ss, .frz) := b4
        generalize tI (beh ds m i) = bb at *
        simp [n6, b1, b2, b3, b4]
        exact ⟨_, ⟨rfl, rfl⟩, rfl⟩
      | false =>
        rw [hc] at b1
        have b2 := fun tp => done_not (tp := tp) hm (by omega) hi hc
        rw [← h1, ← h3] at b2
        have l : ∀ (S : Slots) (tp : Tp), (frzS S)[3]? = some (some (nn, .frz)) → (frzS S)[4]? = some (some (mm, .frz)) → (frzS S)[6]? = some (some (.int i, .frz)) → mLamC sem__law_word (mCall sem_done (mCons (mNm 3) (mCons (mNm 4) (mCons (mNm 6) (mNil))))) S tp = .ok (.tup [.str "ready", .int i]) .frz tp := fun S tp z1 z2 z3 => lam3 (by simp [z1, z2, z3, b2])
        have x := ne_tt (ok_ri (i : Int))
        clear h1 h2 h3 h4
        simp [n6, b1, l, x]
        exact ⟨_, ⟨rfl, rfl⟩, rfl⟩)
    (S := [some (.tape, .frz), some (.int n, .frz), some (dd, .frz), some (nn, .frz), some (mm, .frz), some (rr, .frz), none, none, none, none]) (tp := t1) ⟨none, ⟨rfl, rfl⟩, rfl⟩
  obtain ⟨S', tp', f1, x6, ⟨rfl, rfl⟩, n6⟩ := f _ _ _ _ rfl rfl rfl rfl
  clear f
  have rl := rngO_nat (n := ds.length) (by omega)
  have l5 : ∀ (S : Slots) (tp : Tp), (frzS S)[3]? = some (some (nD n ds, .frz)) → (frzS S)[7]? = some (some (none_, .frz)) → mLamC sem__law_word (mCall sem_ready (mCons (mNm 3) (mCons (mNm 7) (mNil)))) S tp = .ok (.str "mark") .frz tp := fun S tp z1 z2 => lam5 (by
    have q := fun tp => ready_mark (tp := tp) (p := (n : Int)) (dd := ds) g1 g2
    simp [z1, z2, q])
  have w1 := fun tp => q_wordof5 (tp := tp) (p := (n : Int)) (dd := ds) (b := bad) g1 g2
  have w2 := fun tp => q_wordof4 (tp := tp) (dd := ds) hm (by omega) g3 g4
  have x3 := www
  have m0 := rep_tup (.int 0) n (by omega)
  have a1 : fAdd (dD ds) (.tup [.tup [.tup (List.replicate n (.int 0)), .tup (List.replicate n (.int 0))]]) = some (dD (ds ++ [(List.replicate n 0, List.replicate n 0)]), .frz) := by
    have : dD (ds ++ [(List.replicate n 0, List.replicate n 0)]) = .tup (ds.map dRow ++ [.tup [.tup (List.replicate n (.int 0)), .tup (List.replicate n (.int 0))]]) := by simp [dD]
    rw [this]
    exact fAdd_tup (by simp; omega)
  have hlD : fLen [dD ds] = some (.int ds.length, .frz) := by
    show some (D.int ((ds.map dRow).length : Int), Kd.frz) = _
    rw [List.length_map]
  have p1 : fi_places 0 = some 0 := rfl
  have p2 : fi_deeds 0 = some 1 := rfl
  have hnd : nD n ds = .ins 0 [.int n, dD ds] := rfl
  have hnd2 : nD (n : Int) (ds ++ [(List.replicate n 0, List.replicate n 0)]) = .ins 0 [.int n, dD (ds ++ [(List.replicate n 0, List.replicate n 0)])] := rfl
  have hnd3 : nD ((n : Int) + 1) [] = .ins 0 [.int ((n : Int) + 1), dD []] := rfl
  have hd0 : dD [] = .tup [] := rfl
  rw [hnd] at e1 e6 e9 f1 l5 w1 w2 q1 q2 q3 q4
  rw [hnd2] at e3 q2
  rw [hnd3] at e4 q3
  rw [hd0] at e4 q3
  generalize (D.lst [.int n, dD ds]).py.shown = ss1 at *
  generalize (D.lst ((rdy ds m).map fun i : Nat => D.int i)).py.shown = ss2 at *
  generalize dD (ds ++ [(List.replicate n 0, List.replicate n 0)]) = dd2 at *
  generalize List.replicate n (D.int 0) = zz at *
  generalize (rdy ds m).map (fun i : Nat => D.int i) = rr at *
  generalize tI m = mm at *
  generalize dD ds = dd at *
  simp [m__law_is_right, parS, e1, e2, p1, p2, s1, q1, m0, a1, e3, q2, e4, q3, q4, e5, e6, s2, hlD, rl, f1, e7, e8, l5, w1, w2, x3, e9, n6]
end K01

/-! K01k: the law's answer. -/
namespace K01
open PySem L2 PV
variable {tp : Tp} {l : List D}
def ds0 : Dd := [([1, 0], [0, 2]), ([0, 0], [1, 0])]
theorem okD0 : okD 2 ds0 := fun d hd => by
  simp only [ds0, List.mem_cons, List.not_mem_nil, or_false] at hd
  rcases hd with rfl | rfl <;> exact ⟨⟨rfl, by decide⟩, ⟨rfl, by decide⟩⟩
theorem first0 {x3 x4 x5 : Option (D × Fl)} : m_law_0 [some (.scr l, .frz), some (.tape, .frz), none, x3, x4, x5] tp = .nx [some (.scr l, .frz), some (.tape, .frz), some (nD 2 ds0, .own), x3, x4, x5] tp := by
  have e1 := fun tp => q_new (tp := tp) (p := 2) (ds := ds0) (by decide) (by decide) (by decide) okD0
  have hD : dD ds0 = .tup [.tup [.tup [.int 1, .int 0], .tup [.int 0, .int 2]], .tup [.tup [.int 0, .int 0], .tup [.int 1, .int 0]]] := rfl
  rw [hD] at e1
  generalize nD 2 ds0 = nn at *
  simp [m_law_0, e1]
theorem okM2 {a b : Int} (ha : 0 ≤ a ∧ a ≤ 1000000) (hb : 0 ≤ b ∧ b ≤ 1000000) : okM 2 [a, b] := ⟨rfl, fun x hx => by
  simp only [List.mem_cons, List.not_mem_nil, or_false] at hx
  rcases hx with rfl | rfl
  · exact ha
  · exact hb⟩
theorem wordof6 : sem__law_word_of [(nD 2 ds0, false), (.tup [.int 1000000, .int 0], false), (.int 1, false)] tp = .ok (.str "great") .frz tp := by
  refine semD_rt (k := .frz) ?_ (by decide)
  have q : ∀ tp, sem_done [(nD 2 ds0, false), (.tup [.int 1000000, .int 0], false), (.int 1, false)] tp = .ex 6 [] tp := fun tp => done_great (tp := tp) (p := 2) (dd := ds0) (m := [1000000, 0]) (i := 1) (okM2 (by decide) (by decide)) (by decide) (by decide) (by decide) (by decide)
  have l : ∀ (S : Slots) (tp : Tp), S = [some (nD 2 ds0, .frz), some (.tup [.int 1000000, .int 0], .frz), some (.int 1, .frz)] → mLamC sem__law_word (mCall sem_done (mCons (mNm 0) (mCons (mNm 1) (mCons (mNm 2) (mNil))))) S tp = .ok (.str "great") .frz tp := fun S tp e => lam6 (by subst e; simp [q])
  simp [m__law_word_of, parS, l]
theorem first1 {x3 x4 x5 : Option (D × Fl)} : m_law_1 [some (.scr l, .frz), some (.tape, .frz), some (nD 2 ds0, .frz), x3, x4, x5] tp = .nx [some (.scr l, .frz), some (.tape, .frz), some (nD 2 ds0, .frz), x3, x4, x5] tp := by
  have e1 : ∀ tp, sem_ready [(nD 2 ds0, false), (.tup [.int 0, .int 0], false)] tp = .ok (.lst [.int 1]) .fr tp := fun tp => q_readyA (tp := tp) (p := 2) (dd := ds0) (m := [0, 0]) (by decide) (okM2 (by decide) (by decide)) (by decide)
  have e2 : ∀ tp, sem_done [(nD 2 ds0, false), (.tup [.int 1, .int 1], false), (.int 0, false)] tp = .ok (.tup [.int 0, .int 3]) .frz tp := fun tp => q_done (tp := tp) (p := 2) (dd := ds0) (m := [1, 1]) (i := 0) (by decide) (okM2 (by decide) (by decide)) (by decide) (by decide) (okM2 (a := 0) (b := 3) (by decide) (by decide))
  have e3 := fun tp => wordof6 (tp := tp)
  have e4 : fNe3 (.lst [.int 1]) (.lst [.int 1]) = some (.bl false, .frz) := by with_unfolding_all rfl
  have e5 : fNe3 (.tup [.int 0, .int 3]) (.tup [.int 0, .int 3]) = some (.bl false, .frz) := by with_unfolding_all rfl
  generalize nD 2 ds0 = nn at *
  simp [m_law_1, pow6, e1, e2, e3, e4, e5]
def InvL (l : List D) (_ : Nat) (S : Slots) (t : Tp) : Prop := ∃ x3 x4 x5, S = [some (.scr l, .frz), some (.tape, .frz), some (nD 2 ds0, .frz), x3, x4, x5] ∧ Tape t ∧ nl x3 = true ∧ nl x4 = true ∧ nl x5 = true
noncomputable def turnB : MS := (mSeq (m_law_2) (mSeq (mFrz 4) (mSeq (m_law_3) (mSeq (mFrz 5) (m_law_4)))))
theorem turn {l : List D} {i j : Nat} {S : Slots} {t : Tp} (h : InvL l j S t) : NxtO (InvL l (j + 1)) (fun S1 => turnB S1 t) (pNm 3 (.int i) S) := by
  obtain ⟨x3, x4, x5, rfl, hT, n3, n4, n5⟩ := h
  obtain ⟨r, t1, e1, r0, r1, hT⟩ := draw_ok (many := 5) hT (by decide) (by decide)
  obtain ⟨n, rfl, hn⟩ := int_nat r0 r1
  obtain ⟨ds, t2, e2, hl, hd, hT⟩ := q_ldeeds (n := n) (by omega) hT
  obtain ⟨t3, e3, hT⟩ := q_right (n := n) (by omega) hd hl hT
  obtain ⟨t4, e4, hT⟩ := q_bad (n := n) (by omega) hd hl hT
  have hx : InvL l (j + 1) [some (.scr l, .frz), some (.tape, .frz), some (nD 2 ds0, .frz), some (.int i, .frz), some (.int n, .frz), some (dD ds, .frz)] t4 := ⟨_, _, _, rfl, hT, rfl, rfl, rfl⟩
  unfold InvL at hx ⊢
  generalize nD 2 ds0 = nn at *
  generalize dD ds = dd at *
  simp [turnB, m_law_2, m_law_3, m_law_4, n3, n4, n5, e1, e2, e3, e4]
  simpa using hx
theorem tape_ok (ns : List Int) : ∃ cells : List Int, sem__law_tape [(.scr (ns.map D.int), false)] [] = .ok (.lst [.lst (cells.map D.int), .int 0, .int 0, .int (31 + cells.length), .int 0]) .fr [] := by
  obtain ⟨xs, hx, hl⟩ : ∃ xs : List Int, fSl (.scr (ns.map D.int)) none (some 63) = some (.lst (xs.map D.int), .fr) ∧ xs.length ≤ 16777216 := by
    refine ⟨(ns.drop (HT.sIx ns.length 0 none)).take (HT.sIx ns.length ns.length (some 63) - HT.sIx ns.length 0 none), ?_, ?_⟩
    · show some (D.lst (cutD (ns.map D.int) none (some 63)), Kd.fr) = _
      unfold cutD
      rw [List.length_map, List.map_take, List.map_drop]
    · rw [HT.sIx_none, List.drop_zero, Nat.sub_zero, List.length_take, show (63 : Int) = ((63 : Nat) : Int) from rfl, HT.sIx_nat]
      omega
  refine ⟨xs.map fun i => if i < 0 then -i else i, semD_rt (k := .fr) ?_ (by decide)⟩
  have e : lcD (pNm 2) (mC (.bl true)) (mB fAbs (mCons (mB fInt (mCons (mNm 2) (mNil))) (mNil))) [some (.scr (ns.map D.int), .frz), none, none] (xs.map D.int) [] = some ((xs.map fun i => if i < 0 then -i else i).map D.int, []) := by
    rw [List.map_map]
    exact lcD_all _ _ xs fun x _ => ⟨_, .frz, rfl, by decide, by simp⟩
  have p1 : partD .non = some none := rfl
  have p2 : partD (.int 63) = some (some 63) := rfl
  simp only [m__law_tape, parS, ev_seq, ev_set, ev_lc, ev_seqI, ev_sl]
  simp [p1, p2, hx, hl, e, -List.map_map]
theorem law_ok (ns : List Int) : LawM 4 m0_law m_law ns := by
  obtain ⟨cells, e0⟩ := tape_ok ns
  refine ⟨[some (.scr (ns.map D.int), .frz), some (.lst [.lst (cells.map D.int), .int 0, .int 0, .int (31 + cells.length), .int 0], .own), none, none, none, none], [], [.lst (cells.map D.int), .int 0, .int 0, .int (31 + cells.length), .int 0], ?_⟩
  have hT : Tape [.lst (cells.map D.int), .int 0, .int 0, .int (31 + cells.length), .int 0] := ⟨cells, 0, 0, _, 0, rfl⟩
  obtain ⟨S', tp', f1, x3, x4, x5, rfl, _⟩ := forD_rg (mp := pNm 3) (body := turnB) 4 (InvL (ns.map D.int)) (fun i hi S t h => turn h) (S := [some (.scr (ns.map D.int), .frz), some (.tape, .frz), some (nD 2 ds0, .frz), none, none, none]) (tp := [.lst (cells.map D.int), .int 0, .int 0, .int (31 + cells.length), .int 0])
    ⟨none, none, none, rfl, hT, rfl, rfl, rfl⟩
  refine ⟨tp', ?_, rfl, rfl, rfl, ?_⟩
  · simp [m0_law, parS, e0]
  · have e5 : ∀ k tp, rngO (.ok (.int 4) k tp) = .ok (rgD 0 4) false tp := fun k tp => rngO_int (by decide) (by decide) k tp
    have s0 : lawS 4 (.scr (ns.map D.int)) = [some (.scr (ns.map D.int), .frz), some (.tape, .frz), none, none, none, none] := rfl
    have fz : mFrz 2 [some (.scr (ns.map D.int), .frz), some (.tape, .frz), some (nD 2 ds0, .own), none, none, none] [.lst (cells.map D.int), .int 0, .int 0, .int (31 + cells.length), .int 0] = .nx [some (.scr (ns.map D.int), .frz), some (.tape, .frz), some (nD 2 ds0, .frz), none, none, none] [.lst (cells.map D.int), .int 0, .int 0, .int (31 + cells.length), .int 0] := by simp
    unfold m_law
    rw [s0, mSeq_nx first0, mSeq_nx fz, mSeq_nx first1]
    have e6 : mFor (mRng (mCons (mC (.int 4)) mNil)) (pNm 3) turnB [some (.scr (ns.map D.int), .frz), some (.tape, .frz), some (nD 2 ds0, .frz), none, none, none] [.lst (cells.map D.int), .int 0, .int 0, .int (31 + cells.length), .int 0] = .nx [some (.scr (ns.map D.int), .frz), some (.tape, .frz), some (nD 2 ds0, .frz), x3, x4, x5] tp' := by
      simp [e5, f1]
    unfold turnB at e6
    rw [mSeq_nx e6]
    simp [m_law_5]
end K01

set_option maxHeartbeats 0
namespace K01
open PySem PySem.W L2 PV
def e_ls : List Str := ["law", "_law_is_bad", "_law_is_right", "_law_word_of"]
def e_fn : List He.DefD := [⟨("Net", some "__init__"), "__init__", "Net.__init__", defArgs (meth 16 0), defBody (meth 16 0), defScope (meth 16 0), [], []⟩,
  ⟨("Net", some "__eq__"), "__eq__", "Net.__eq__", defArgs (meth 16 1), defBody (meth 16 1), defScope (meth 16 1), [], []⟩,
  ⟨("is_integer", none), "is_integer", "is_integer", defArgs (top 1), defBody (top 1), defScope (top 1), [], []⟩,
  ⟨("is_within", none), "is_within", "is_within", defArgs (top 2), defBody (top 2), defScope (top 2), [], []⟩,
  ⟨("is_tuple", none), "is_tuple", "is_tuple", defArgs (top 3), defBody (top 3), defScope (top 3), [], []⟩,
  ⟨("is_counts", none), "is_counts", "is_counts", defArgs (top 17), defBody (top 17), defScope (top 17), [], []⟩,
  ⟨("is_mark", none), "is_mark", "is_mark", defArgs (top 18), defBody (top 18), defScope (top 18), [], []⟩,
  ⟨("check_mark", none), "check_mark", "check_mark", defArgs (top 19), defBody (top 19), defScope (top 19), [], []⟩,
  ⟨("check_deed", none), "check_deed", "check_deed", defArgs (top 20), defBody (top 20), defScope (top 20), [], []⟩,
  ⟨("is_row", none), "is_row", "is_row", defArgs (top 21), defBody (top 21), defScope (top 21), [], []⟩,
  ⟨("can_do", none), "can_do", "can_do", defArgs (top 22), defBody (top 22), defScope (top 22), [], []⟩,
  ⟨("behind", none), "behind", "behind", defArgs (top 23), defBody (top 23), defScope (top 23), [], []⟩,
  ⟨("ready_of", none), "ready_of", "ready_of", defArgs (top 24), defBody (top 24), defScope (top 24), [], []⟩,
  ⟨("ready", none), "ready", "ready", defArgs (top 25), defBody (top 25), defScope (top 25), [], []⟩,
  ⟨("done", none), "done", "done", defArgs (top 26), defBody (top 26), defScope (top 26), [], []⟩,
  ⟨("_law_tape", none), "_law_tape", "_law_tape", defArgs (top 28), defBody (top 28), defScope (top 28), [], []⟩,
  ⟨("_law_pick", none), "_law_pick", "_law_pick", defArgs (top 29), defBody (top 29), defScope (top 29), [], []⟩,
  ⟨("_law_any", none), "_law_any", "_law_any", defArgs (top 30), defBody (top 30), defScope (top 30), [], []⟩,
  ⟨("_law_deeds", none), "_law_deeds", "_law_deeds", defArgs (top 31), defBody (top 31), defScope (top 31), [], []⟩,
  ⟨("_law_mark", none), "_law_mark", "_law_mark", defArgs (top 32), defBody (top 32), defScope (top 32), [], []⟩,
  ⟨("_law_ready", none), "_law_ready", "_law_ready", defArgs (top 33), defBody (top 33), defScope (top 33), [], []⟩,
  ⟨("_law_behind", none), "_law_behind", "_law_behind", defArgs (top 34), defBody (top 34), defScope (top 34), [], []⟩,
  ⟨("_law_no_mark", none), "_law_no_mark", "_law_no_mark", defArgs (top 35), defBody (top 35), defScope (top 35), [], []⟩,
  ⟨("_law_word", none), "_law_word", "_law_word", defArgs (top 36), defBody (top 36), defScope (top 36), [], []⟩,
  ⟨("_law_is_mark_of", none), "_law_is_mark_of", "_law_is_mark_of", defArgs (top 37), defBody (top 37), defScope (top 37), [], []⟩,
  ⟨("_law_is_row_of", none), "_law_is_row_of", "_law_is_row_of", defArgs (top 38), defBody (top 38), defScope (top 38), [], []⟩,
  ⟨("_law_is_judged", none), "_law_is_judged", "_law_is_judged", defArgs (top 40), defBody (top 40), defScope (top 40), [], []⟩,
  ⟨("_law_word_of", none), "_law_word_of", "_law_word_of", defArgs (top 42), defBody (top 42), defScope (top 42), [], []⟩,
  ⟨("_law_is_bad", none), "_law_is_bad", "_law_is_bad", defArgs (top 39), defBody (top 39), defScope (top 39), [], []⟩,
  ⟨("_law_is_right", none), "_law_is_right", "_law_is_right", defArgs (top 41), defBody (top 41), defScope (top 41), [], []⟩,
  ⟨("law", none), "law", "law", defArgs (top 43), defBody (top 43), defScope (top 43), [], []⟩]
def e_fx : List FxD := [⟨"BadNet", "BadNet.__init__", defArgs (meth 6 0), defBody (meth 6 0), defScope (meth 6 0)⟩,
  ⟨"NoDeed", "NoDeed.__init__", defArgs (meth 8 0), defBody (meth 8 0), defScope (meth 8 0)⟩,
  ⟨"NoMark", "NoMark.__init__", defArgs (meth 9 0), defBody (meth 9 0), defScope (meth 9 0)⟩,
  ⟨"NotReady", "NotReady.__init__", defArgs (meth 7 0), defBody (meth 7 0), defScope (meth 7 0)⟩,
  ⟨"TooGreat", "TooGreat.__init__", defArgs (meth 10 0), defBody (meth 10 0), defScope (meth 10 0)⟩]
def e_fa : List He.Fa := [.mkr "Net", .glo "is_integer", .glo "is_within", .glo "is_tuple", .glo "is_counts", .glo "is_mark", .glo "check_mark", .glo "check_deed", .glo "is_row", .glo "can_do", .glo "behind", .glo "ready_of", .glo "ready", .glo "done", .glo "_law_tape", .glo "_law_pick", .glo "_law_any", .glo "_law_deeds", .glo "_law_mark", .glo "_law_ready", .glo "_law_behind", .glo "_law_no_mark", .glo "_law_word", .glo "_law_is_mark_of", .glo "_law_is_row_of", .glo "_law_is_judged", .glo "_law_word_of", .glo "_law_is_bad", .glo "_law_is_right", .glo "law", .free "ValueError", .free "abs", .free "all", .free "bool", .free "enumerate", .free "int", .free "isinstance", .free "len", .free "list", .free "max", .free "range", .free "repr", .free "sum", .free "tuple", .free "zip", .glo "BadNet", .int "MOST_DEEDS" 16, .int "MOST_PLACES" 12, .int "MOST_TAKEN" 9, .int "MOST_TOKENS" 1000000, .glo "Net", .glo "NetError", .glo "NoDeed", .glo "NoMark", .glo "NotReady", .glo "TooGreat"]
def e_xts : List (PySem.W.Frag → Bool) := [fun K => dcB K [("Net", ["places", "deeds"])],
  fun K => eqTB K (He.ga K "Net") (He.fAd K ("Net", some "__eq__")),
  fun K => exkB K (He.ga K "NetError"),
  fun K => exkB K (He.ga K "BadNet"),
  fun K => exkB K (He.ga K "NotReady"),
  fun K => exkB K (He.ga K "NoDeed"),
  fun K => exkB K (He.ga K "NoMark"),
  fun K => exkB K (He.ga K "TooGreat"),
  fun K => decide (exmOne K (.ref (He.ga K "NetError")) (.ref (He.ga K "NetError")) = some true),
  fun K => decide (exmOne K (.ref (He.ga K "BadNet")) (.ref (He.ga K "NetError")) = some true),
  fun K => decide (exmOne K (.ref (He.ga K "NotReady")) (.ref (He.ga K "NetError")) = some true),
  fun K => decide (exmOne K (.ref (He.ga K "NoDeed")) (.ref (He.ga K "NetError")) = some true),
  fun K => decide (exmOne K (.ref (He.ga K "NoMark")) (.ref (He.ga K "NetError")) = some true),
  fun K => decide (exmOne K (.ref (He.ga K "TooGreat")) (.ref (He.ga K "NetError")) = some true),
  fun K => decide (kitOne K (.ref (He.ga K "NetError")) (.ref (He.ga K "BadNet")) = some false),
  fun K => decide (kitOne K (.ref (He.ga K "BadNet")) (.ref (He.ga K "BadNet")) = some true),
  fun K => decide (kitOne K (.ref (He.ga K "NotReady")) (.ref (He.ga K "BadNet")) = some false),
  fun K => decide (kitOne K (.ref (He.ga K "NoDeed")) (.ref (He.ga K "BadNet")) = some false),
  fun K => decide (kitOne K (.ref (He.ga K "NoMark")) (.ref (He.ga K "BadNet")) = some false),
  fun K => decide (kitOne K (.ref (He.ga K "TooGreat")) (.ref (He.ga K "BadNet")) = some false),
  fun K => decide (kitOne K (.ref (He.ga K "NetError")) (.ref (He.ga K "NoDeed")) = some false),
  fun K => decide (kitOne K (.ref (He.ga K "BadNet")) (.ref (He.ga K "NoDeed")) = some false),
  fun K => decide (kitOne K (.ref (He.ga K "NotReady")) (.ref (He.ga K "NoDeed")) = some false),
  fun K => decide (kitOne K (.ref (He.ga K "NoDeed")) (.ref (He.ga K "NoDeed")) = some true),
  fun K => decide (kitOne K (.ref (He.ga K "NoMark")) (.ref (He.ga K "NoDeed")) = some false),
  fun K => decide (kitOne K (.ref (He.ga K "TooGreat")) (.ref (He.ga K "NoDeed")) = some false),
  fun K => decide (kitOne K (.ref (He.ga K "NetError")) (.ref (He.ga K "NoMark")) = some false),
  fun K => decide (kitOne K (.ref (He.ga K "BadNet")) (.ref (He.ga K "NoMark")) = some false),
  fun K => decide (kitOne K (.ref (He.ga K "NotReady")) (.ref (He.ga K "NoMark")) = some false),
  fun K => decide (kitOne K (.ref (He.ga K "NoDeed")) (.ref (He.ga K "NoMark")) = some false),
  fun K => decide (kitOne K (.ref (He.ga K "NoMark")) (.ref (He.ga K "NoMark")) = some true),
  fun K => decide (kitOne K (.ref (He.ga K "TooGreat")) (.ref (He.ga K "NoMark")) = some false),
  fun K => decide (kitOne K (.ref (He.ga K "NetError")) (.ref (He.ga K "NotReady")) = some false),
  fun K => decide (kitOne K (.ref (He.ga K "BadNet")) (.ref (He.ga K "NotReady")) = some false),
  fun K => decide (kitOne K (.ref (He.ga K "NotReady")) (.ref (He.ga K "NotReady")) = some true),
  fun K => decide (kitOne K (.ref (He.ga K "NoDeed")) (.ref (He.ga K "NotReady")) = some false),
  fun K => decide (kitOne K (.ref (He.ga K "NoMark")) (.ref (He.ga K "NotReady")) = some false),
  fun K => decide (kitOne K (.ref (He.ga K "TooGreat")) (.ref (He.ga K "NotReady")) = some false),
  fun K => decide (kitOne K (.ref (He.ga K "NetError")) (.ref (He.ga K "TooGreat")) = some false),
  fun K => decide (kitOne K (.ref (He.ga K "BadNet")) (.ref (He.ga K "TooGreat")) = some false),
  fun K => decide (kitOne K (.ref (He.ga K "NotReady")) (.ref (He.ga K "TooGreat")) = some false),
  fun K => decide (kitOne K (.ref (He.ga K "NoDeed")) (.ref (He.ga K "TooGreat")) = some false),
  fun K => decide (kitOne K (.ref (He.ga K "NoMark")) (.ref (He.ga K "TooGreat")) = some false),
  fun K => decide (kitOne K (.ref (He.ga K "TooGreat")) (.ref (He.ga K "TooGreat")) = some true),
  fun K => decide (kitOne K (.ref (He.ga K "NetError")) (.type "ValueError") = some true),
  fun K => decide (kitOne K (.ref (He.ga K "BadNet")) (.type "ValueError") = some true),
  fun K => decide (kitOne K (.ref (He.ga K "NotReady")) (.type "ValueError") = some true),
  fun K => decide (kitOne K (.ref (He.ga K "NoDeed")) (.type "ValueError") = some true),
  fun K => decide (kitOne K (.ref (He.ga K "NoMark")) (.type "ValueError") = some true),
  fun K => decide (kitOne K (.ref (He.ga K "TooGreat")) (.type "ValueError") = some true),
  fun K => decide (subIn K (.type "tuple") (.ref (He.ga K "Net")) = some false),
  fun K => decide (findIn K (.ref (He.ga K "NotReady")) "at" = some none),
  fun K => decide (findIn K (.ref (He.ga K "BadNet")) "part" = some none),
  fun K => decide (findIn K (.ref (He.ga K "BadNet")) "__setattr__" = some (some (.builtin "object.__setattr__"))),
  fun K => decide (findIn K (.ref (He.ga K "NotReady")) "__setattr__" = some (some (.builtin "object.__setattr__")))]
def e_xt (K : PySem.W.Frag) : Bool := e_xts.all fun f => f K
abbrev R : PySem.W.OpenRow := PySem.W.OpenLaw.row PySem.Challenge.rw_tokennets_k01_whole_nets_marks_and_deeds
abbrev qv : Program := PySem.W.view R.prog [43]
abbrev hk : PySem.W.Hook := hookTL PySem.Challenge.pw_tokennets_k01_whole_nets_marks_and_deeds 4 e_ls e_fa e_fn e_fx e_xt
def ob (s : PySem.W.SharedT) : AlT := obsTL PySem.Challenge.pw_tokennets_k01_whole_nets_marks_and_deeds 4 e_ls e_fa e_fn e_fx e_xt (HandSHeadRun.getT s)
theorem ob_eq (s : PySem.W.SharedT) : ob s = hk.obs s.abs := obsTL_eq (HandSHeadRun.getT_eq s)
def names : List PySem.Str := [("__name__" : PySem.Str), ("is_integer" : PySem.Str), ("is_within" : PySem.Str), ("is_tuple" : PySem.Str), ("NetError" : PySem.Str), ("BadNet" : PySem.Str), ("NotReady" : PySem.Str), ("NoDeed" : PySem.Str), ("NoMark" : PySem.Str), ("TooGreat" : PySem.Str), ("MOST_PLACES" : PySem.Str), ("MOST_DEEDS" : PySem.Str), ("MOST_TAKEN" : PySem.Str), ("MOST_TOKENS" : PySem.Str), ("Net" : PySem.Str), ("is_counts" : PySem.Str), ("is_mark" : PySem.Str), ("check_mark" : PySem.Str), ("check_deed" : PySem.Str), ("is_row" : PySem.Str), ("can_do" : PySem.Str), ("behind" : PySem.Str), ("ready_of" : PySem.Str), ("ready" : PySem.Str), ("done" : PySem.Str), ("_law_tape" : PySem.Str), ("_law_pick" : PySem.Str), ("_law_any" : PySem.Str), ("_law_deeds" : PySem.Str), ("_law_mark" : PySem.Str)] ++ [("_law_ready" : PySem.Str), ("_law_behind" : PySem.Str), ("_law_no_mark" : PySem.Str), ("_law_word" : PySem.Str), ("_law_is_mark_of" : PySem.Str), ("_law_is_row_of" : PySem.Str), ("_law_is_bad" : PySem.Str), ("_law_is_judged" : PySem.Str), ("_law_is_right" : PySem.Str), ("_law_word_of" : PySem.Str)]
theorem run (w : World) : HandSHeadRun.RunEq R qv hk ob 6000 names w := by
  intro os
  kernel_rfl
def caT (K : PySem.W.Frag) : Nat → Addr
  | 0 => He.ga K "Net"
  | 1 => He.ga K "NetError"
  | 2 => He.ga K "BadNet"
  | 3 => He.ga K "NotReady"
  | 4 => He.ga K "NoDeed"
  | 5 => He.ga K "NoMark"
  | 6 => He.ga K "TooGreat"
  | _ => 0
def cfX : Nat → List Str
  | 0 => ["places", "deeds"]
  | 2 => ["part"]
  | 3 => ["at"]
  | _ => []
theorem tx {w : World} {mg : Str → Option Value} {K : PySem.W.Frag} {base : Heap} {ah : Option Addr} {tb : List (Addr × Str)} (KX : K.In base) (Ns : base.Ns mainGlobals mg) (S : SaysP PySem.Challenge.pw_tokennets_k01_whole_nets_marks_and_deeds e_fa e_fn e_fx e_xt K) (LT : ∀ n ∈ e_ls, ∃ c P, (∀ oc od fd sl, K.lookup (He.fAd K (n, none)) = some ⟨oc, od, .func fd, sl⟩ → fd.code = .ref c) ∧ LamX.TabB base mg c P ∧ (P, (n ++ ".<locals>." ++ "<lambda>" : Str)) ∈ tb ∧ ∀ p ∈ tb, p.1 = P → p.2 = (n ++ ".<locals>." ++ "<lambda>" : Str)) : Tx { P := PySem.Challenge.pw_tokennets_k01_whole_nets_marks_and_deeds, w := w, K := K, mg := mg, base := base, ca := caT K, cf := cfX, ah := ah, tb := tb } where
  isi := isiF_of (cs := [("Net", ["places", "deeds"])]) (xt_at (xts := e_xts) S.all.2.2.2 0 rfl) fun c p e => match c, e with
    | 0, e => by cases e; exact ⟨rfl, rfl⟩
    | n + 1, e => by cases e
  cf := fun c hc => match c, hc with
    | 0, _ => rfl
    | n + 1, h => absurd h (by simp [nC])
  hs_places := fun c j h _ => by
    unfold fn_places at h
    split at h
    · rename_i z
      rcases z with ⟨rfl, rfl⟩ <;> exact ⟨rfl, by decide⟩
    · cases h
  hs_deeds := fun c j h _ => by
    unfold fn_deeds at h
    split at h
    · rename_i z
      rcases z with ⟨rfl, rfl⟩ <;> exact ⟨rfl, by decide⟩
    · cases h
  h_places := fun c i h => by
    unfold fi_places at h
    split at h <;> first | (cases h; exact ⟨by decide, rfl⟩) | cases h
  h_deeds := fun c i h => by
    unfold fi_deeds at h
    split at h <;> first | (cases h; exact ⟨by decide, rfl⟩) | cases h
  i_Net := have ⟨fd, h⟩ := S.def_ 0 rfl; ⟨_, fd, h, He.mkr_ok (S.fact 0 rfl)⟩
  e_Net := have ⟨fd, h⟩ := S.def_ 1 rfl; ⟨_, fd, h, eqF_of (xt_at (xts := e_xts) S.all.2.2.2 1 rfl)⟩
  f_is_integer := have ⟨fd, h⟩ := S.def_ 2 rfl; ⟨_, fd, h, He.glo_ok KX Ns (S.fact 1 rfl)⟩
  f_is_within := have ⟨fd, h⟩ := S.def_ 3 rfl; ⟨_, fd, h, He.glo_ok KX Ns (S.fact 2 rfl)⟩
  f_is_tuple := have ⟨fd, h⟩ := S.def_ 4 rfl; ⟨_, fd, h, He.glo_ok KX Ns (S.fact 3 rfl)⟩
  f_is_counts := have ⟨fd, h⟩ := S.def_ 5 rfl; ⟨_, fd, h, He.glo_ok KX Ns (S.fact 4 rfl)⟩
  f_is_mark := have ⟨fd, h⟩ := S.def_ 6 rfl; ⟨_, fd, h, He.glo_ok KX Ns (S.fact 5 rfl)⟩
  f_check_mark := have ⟨fd, h⟩ := S.def_ 7 rfl; ⟨_, fd, h, He.glo_ok KX Ns (S.fact 6 rfl)⟩
  f_check_deed := have ⟨fd, h⟩ := S.def_ 8 rfl; ⟨_, fd, h, He.glo_ok KX Ns (S.fact 7 rfl)⟩
  f_is_row := have ⟨fd, h⟩ := S.def_ 9 rfl; ⟨_, fd, h, He.glo_ok KX Ns (S.fact 8 rfl)⟩
  f_can_do := have ⟨fd, h⟩ := S.def_ 10 rfl; ⟨_, fd, h, He.glo_ok KX Ns (S.fact 9 rfl)⟩
  f_behind := have ⟨fd, h⟩ := S.def_ 11 rfl; ⟨_, fd, h, He.glo_ok KX Ns (S.fact 10 rfl)⟩
  f_ready_of := have ⟨fd, h⟩ := S.def_ 12 rfl; ⟨_, fd, h, He.glo_ok KX Ns (S.fact 11 rfl)⟩
  f_ready := have ⟨fd, h⟩ := S.def_ 13 rfl; ⟨_, fd, h, He.glo_ok KX Ns (S.fact 12 rfl)⟩
  f_done := have ⟨fd, h⟩ := S.def_ 14 rfl; ⟨_, fd, h, He.glo_ok KX Ns (S.fact 13 rfl)⟩
  f__law_tape := have ⟨fd, h⟩ := S.def_ 15 rfl; ⟨_, fd, h, He.glo_ok KX Ns (S.fact 14 rfl)⟩
  f__law_pick := have ⟨fd, h⟩ := S.def_ 16 rfl; ⟨_, fd, h, He.glo_ok KX Ns (S.fact 15 rfl)⟩
  f__law_any := have ⟨fd, h⟩ := S.def_ 17 rfl; ⟨_, fd, h, He.glo_ok KX Ns (S.fact 16 rfl)⟩
  f__law_deeds := have ⟨fd, h⟩ := S.def_ 18 rfl; ⟨_, fd, h, He.glo_ok KX Ns (S.fact 17 rfl)⟩
  f__law_mark := have ⟨fd, h⟩ := S.def_ 19 rfl; ⟨_, fd, h, He.glo_ok KX Ns (S.fact 18 rfl)⟩
  f__law_ready := have ⟨fd, h⟩ := S.def_ 20 rfl; ⟨_, fd, h, He.glo_ok KX Ns (S.fact 19 rfl)⟩
  f__law_behind := have ⟨fd, h⟩ := S.def_ 21 rfl; ⟨_, fd, h, He.glo_ok KX Ns (S.fact 20 rfl)⟩
  f__law_no_mark := have ⟨fd, h⟩ := S.def_ 22 rfl; ⟨_, fd, h, He.glo_ok KX Ns (S.fact 21 rfl)⟩
  f__law_word := have ⟨fd, h⟩ := S.def_ 23 rfl; ⟨_, fd, h, He.glo_ok KX Ns (S.fact 22 rfl)⟩
  f__law_is_mark_of := have ⟨fd, h⟩ := S.def_ 24 rfl; ⟨_, fd, h, He.glo_ok KX Ns (S.fact 23 rfl)⟩
  f__law_is_row_of := have ⟨fd, h⟩ := S.def_ 25 rfl; ⟨_, fd, h, He.glo_ok KX Ns (S.fact 24 rfl)⟩
  f__law_is_judged := have ⟨fd, h⟩ := S.def_ 26 rfl; ⟨_, fd, h, He.glo_ok KX Ns (S.fact 25 rfl)⟩
  f__law_word_of := have ⟨fd, h⟩ := S.def_ 27 rfl; ⟨_, fd, h, He.glo_ok KX Ns (S.fact 26 rfl)⟩
  f__law_is_bad := have ⟨fd, h⟩ := S.def_ 28 rfl; ⟨_, fd, h, He.glo_ok KX Ns (S.fact 27 rfl)⟩
  f__law_is_right := have ⟨fd, h⟩ := S.def_ 29 rfl; ⟨_, fd, h, He.glo_ok KX Ns (S.fact 28 rfl)⟩
  f_law := have ⟨fd, h⟩ := S.def_ 30 rfl; ⟨_, fd, h, He.glo_ok KX Ns (S.fact 29 rfl)⟩
  l__law_is_bad := have ⟨fd, h⟩ := S.def_ 28 rfl; have ⟨c, P, h1, h2⟩ := LT "_law_is_bad" (by decide); ⟨c, P, hasDL_of h (He.glo_ok KX Ns (S.fact 27 rfl)) h1, h2⟩
  l__law_is_right := have ⟨fd, h⟩ := S.def_ 29 rfl; have ⟨c, P, h1, h2⟩ := LT "_law_is_right" (by decide); ⟨c, P, hasDL_of h (He.glo_ok KX Ns (S.fact 28 rfl)) h1, h2⟩
  l__law_word_of := have ⟨fd, h⟩ := S.def_ 27 rfl; have ⟨c, P, h1, h2⟩ := LT "_law_word_of" (by decide); ⟨c, P, hasDL_of h (He.glo_ok KX Ns (S.fact 26 rfl)) h1, h2⟩
  b_ValueError := He.free_ok KX Ns (S.fact 30 rfl)
  b_abs := He.free_ok KX Ns (S.fact 31 rfl)
  b_all := He.free_ok KX Ns (S.fact 32 rfl)
  b_bool := He.free_ok KX Ns (S.fact 33 rfl)
  b_enumerate := He.free_ok KX Ns (S.fact 34 rfl)
  b_int := He.free_ok KX Ns (S.fact 35 rfl)
  b_isinstance := He.free_ok KX Ns (S.fact 36 rfl)
  b_len := He.free_ok KX Ns (S.fact 37 rfl)
  b_list := He.free_ok KX Ns (S.fact 38 rfl)
  b_max := He.free_ok KX Ns (S.fact 39 rfl)
  b_range := He.free_ok KX Ns (S.fact 40 rfl)
  b_repr := He.free_ok KX Ns (S.fact 41 rfl)
  b_sum := He.free_ok KX Ns (S.fact 42 rfl)
  b_tuple := He.free_ok KX Ns (S.fact 43 rfl)
  b_zip := He.free_ok KX Ns (S.fact 44 rfl)
  g_BadNet := He.glo_ok KX Ns (S.fact 45 rfl)
  c_MOST_DEEDS := He.int_ok KX Ns (S.fact 46 rfl)
  c_MOST_PLACES := He.int_ok KX Ns (S.fact 47 rfl)
  c_MOST_TAKEN := He.int_ok KX Ns (S.fact 48 rfl)
  c_MOST_TOKENS := He.int_ok KX Ns (S.fact 49 rfl)
  g_Net := He.glo_ok KX Ns (S.fact 50 rfl)
  g_NetError := He.glo_ok KX Ns (S.fact 51 rfl)
  g_NoDeed := He.glo_ok KX Ns (S.fact 52 rfl)
  g_NoMark := He.glo_ok KX Ns (S.fact 53 rfl)
  g_NotReady := He.glo_ok KX Ns (S.fact 54 rfl)
  g_TooGreat := He.glo_ok KX Ns (S.fact 55 rfl)
  xk := fun c b h => match c, h with
    | 0, h => by cases h
    | 1, h => exk_of (xt_at (xts := e_xts) S.all.2.2.2 2 rfl)
    | 2, h => exk_of (xt_at (xts := e_xts) S.all.2.2.2 3 rfl)
    | 3, h => exk_of (xt_at (xts := e_xts) S.all.2.2.2 4 rfl)
    | 4, h => exk_of (xt_at (xts := e_xts) S.all.2.2.2 5 rfl)
    | 5, h => exk_of (xt_at (xts := e_xts) S.all.2.2.2 6 rfl)
    | 6, h => exk_of (xt_at (xts := e_xts) S.all.2.2.2 7 rfl)
    | n + 7, h => by cases h
  x_NetError := fun c b h => match c, h with
    | 0, h => by cases h
    | 1, h => by cases h; exact of_decide_eq_true (xt_at (xts := e_xts) S.all.2.2.2 8 rfl)
    | 2, h => by cases h; exact of_decide_eq_true (xt_at (xts := e_xts) S.all.2.2.2 9 rfl)
    | 3, h => by cases h; exact of_decide_eq_true (xt_at (xts := e_xts) S.all.2.2.2 10 rfl)
    | 4, h => by cases h; exact of_decide_eq_true (xt_at (xts := e_xts) S.all.2.2.2 11 rfl)
    | 5, h => by cases h; exact of_decide_eq_true (xt_at (xts := e_xts) S.all.2.2.2 12 rfl)
    | 6, h => by cases h; exact of_decide_eq_true (xt_at (xts := e_xts) S.all.2.2.2 13 rfl)
    | n + 7, h => by cases h
  k_BadNet := fun c b h => match c, h with
    | 0, h => by cases h
    | 1, h => by cases h; exact of_decide_eq_true (xt_at (xts := e_xts) S.all.2.2.2 14 rfl)
    | 2, h => by cases h; exact of_decide_eq_true (xt_at (xts := e_xts) S.all.2.2.2 15 rfl)
    | 3, h => by cases h; exact of_decide_eq_true (xt_at (xts := e_xts) S.all.2.2.2 16 rfl)
    | 4, h => by cases h; exact of_decide_eq_true (xt_at (xts := e_xts) S.all.2.2.2 17 rfl)
    | 5, h => by cases h; exact of_decide_eq_true (xt_at (xts := e_xts) S.all.2.2.2 18 rfl)
    | 6, h => by cases h; exact of_decide_eq_true (xt_at (xts := e_xts) S.all.2.2.2 19 rfl)
    | n + 7, h => by cases h
  k_NoDeed := fun c b h => match c, h with
    | 0, h => by cases h
    | 1, h => by cases h; exact of_decide_eq_true (xt_at (xts := e_xts) S.all.2.2.2 20 rfl)
    | 2, h => by cases h; exact of_decide_eq_true (xt_at (xts := e_xts) S.all.2.2.2 21 rfl)
    | 3, h => by cases h; exact of_decide_eq_true (xt_at (xts := e_xts) S.all.2.2.2 22 rfl)
    | 4, h => by cases h; exact of_decide_eq_true (xt_at (xts := e_xts) S.all.2.2.2 23 rfl)
    | 5, h => by cases h; exact of_decide_eq_true (xt_at (xts := e_xts) S.all.2.2.2 24 rfl)
    | 6, h => by cases h; exact of_decide_eq_true (xt_at (xts := e_xts) S.all.2.2.2 25 rfl)
    | n + 7, h => by cases h
  k_NoMark := fun c b h => match c, h with
    | 0, h => by cases h
    | 1, h => by cases h; exact of_decide_eq_true (xt_at (xts := e_xts) S.all.2.2.2 26 rfl)
    | 2, h => by cases h; exact of_decide_eq_true (xt_at (xts := e_xts) S.all.2.2.2 27 rfl)
    | 3, h => by cases h; exact of_decide_eq_true (xt_at (xts := e_xts) S.all.2.2.2 28 rfl)
    | 4, h => by cases h; exact of_decide_eq_true (xt_at (xts := e_xts) S.all.2.2.2 29 rfl)
    | 5, h => by cases h; exact of_decide_eq_true (xt_at (xts := e_xts) S.all.2.2.2 30 rfl)
    | 6, h => by cases h; exact of_decide_eq_true (xt_at (xts := e_xts) S.all.2.2.2 31 rfl)
    | n + 7, h => by cases h
  k_NotReady := fun c b h => match c, h with
    | 0, h => by cases h
    | 1, h => by cases h; exact of_decide_eq_true (xt_at (xts := e_xts) S.all.2.2.2 32 rfl)
    | 2, h => by cases h; exact of_decide_eq_true (xt_at (xts := e_xts) S.all.2.2.2 33 rfl)
    | 3, h => by cases h; exact of_decide_eq_true (xt_at (xts := e_xts) S.all.2.2.2 34 rfl)
    | 4, h => by cases h; exact of_decide_eq_true (xt_at (xts := e_xts) S.all.2.2.2 35 rfl)
    | 5, h => by cases h; exact of_decide_eq_true (xt_at (xts := e_xts) S.all.2.2.2 36 rfl)
    | 6, h => by cases h; exact of_decide_eq_true (xt_at (xts := e_xts) S.all.2.2.2 37 rfl)
    | n + 7, h => by cases h
  k_TooGreat := fun c b h => match c, h with
    | 0, h => by cases h
    | 1, h => by cases h; exact of_decide_eq_true (xt_at (xts := e_xts) S.all.2.2.2 38 rfl)
    | 2, h => by cases h; exact of_decide_eq_true (xt_at (xts := e_xts) S.all.2.2.2 39 rfl)
    | 3, h => by cases h; exact of_decide_eq_true (xt_at (xts := e_xts) S.all.2.2.2 40 rfl)
    | 4, h => by cases h; exact of_decide_eq_true (xt_at (xts := e_xts) S.all.2.2.2 41 rfl)
    | 5, h => by cases h; exact of_decide_eq_true (xt_at (xts := e_xts) S.all.2.2.2 42 rfl)
    | 6, h => by cases h; exact of_decide_eq_true (xt_at (xts := e_xts) S.all.2.2.2 43 rfl)
    | n + 7, h => by cases h
  k_ValueError := fun c b h => match c, h with
    | 0, h => by cases h
    | 1, h => by cases h; exact of_decide_eq_true (xt_at (xts := e_xts) S.all.2.2.2 44 rfl)
    | 2, h => by cases h; exact of_decide_eq_true (xt_at (xts := e_xts) S.all.2.2.2 45 rfl)
    | 3, h => by cases h; exact of_decide_eq_true (xt_at (xts := e_xts) S.all.2.2.2 46 rfl)
    | 4, h => by cases h; exact of_decide_eq_true (xt_at (xts := e_xts) S.all.2.2.2 47 rfl)
    | 5, h => by cases h; exact of_decide_eq_true (xt_at (xts := e_xts) S.all.2.2.2 48 rfl)
    | 6, h => by cases h; exact of_decide_eq_true (xt_at (xts := e_xts) S.all.2.2.2 49 rfl)
    | n + 7, h => by cases h
  sn_Net := of_decide_eq_true (xt_at (xts := e_xts) S.all.2.2.2 50 rfl)
  xf_at := fun c i h => match c, h with
    | 0, h => by cases h
    | 1, h => by cases h
    | 2, h => by cases h
    | 3, h => by cases h; exact ⟨rfl, rfl, of_decide_eq_true (xt_at (xts := e_xts) S.all.2.2.2 51 rfl)⟩
    | 4, h => by cases h
    | 5, h => by cases h
    | 6, h => by cases h
    | n + 7, h => by cases h
  xf_part := fun c i h => match c, h with
    | 0, h => by cases h
    | 1, h => by cases h
    | 2, h => by cases h; exact ⟨rfl, rfl, of_decide_eq_true (xt_at (xts := e_xts) S.all.2.2.2 52 rfl)⟩
    | 3, h => by cases h
    | 4, h => by cases h
    | 5, h => by cases h
    | 6, h => by cases h
    | n + 7, h => by cases h
  r_BadNet := xc1_of (d := ⟨"BadNet", "BadNet.__init__", defArgs (meth 6 0), defBody (meth 6 0), defScope (meth 6 0)⟩) (xcF_of (S.err 0 rfl).1 (S.err 0 rfl).2) KX Ns rfl rfl (fun f cda cc => ⟨_, _, _, _, _, _, _, _, rfl, fun L => ⟨⟨_, rfl⟩, rfl, rfl, rfl⟩⟩) rfl (fun _ _ _ _ _ _ _ _ _ => .of_eq rfl) rfl rfl rfl rfl rfl rfl rfl rfl rfl (xt_at (xts := e_xts) S.all.2.2.2 53 rfl) (xt_at (xts := e_xts) S.all.2.2.2 52 rfl) rfl rfl (fun _ _ _ _ => rfl) rfl
  r_NoDeed := xc0_of (d := ⟨"NoDeed", "NoDeed.__init__", defArgs (meth 8 0), defBody (meth 8 0), defScope (meth 8 0)⟩) (xcF_of (S.err 1 rfl).1 (S.err 1 rfl).2) KX Ns rfl rfl (fun f cda cc => ⟨_, _, _, _, _, _, _, _, rfl, fun L => ⟨⟨_, rfl⟩, rfl, rfl, rfl⟩⟩) rfl (fun _ _ _ _ _ _ _ _ => .of_eq rfl) rfl rfl rfl rfl rfl rfl rfl
  r_NoMark := xc0_of (d := ⟨"NoMark", "NoMark.__init__", defArgs (meth 9 0), defBody (meth 9 0), defScope (meth 9 0)⟩) (xcF_of (S.err 2 rfl).1 (S.err 2 rfl).2) KX Ns rfl rfl (fun f cda cc => ⟨_, _, _, _, _, _, _, _, rfl, fun L => ⟨⟨_, rfl⟩, rfl, rfl, rfl⟩⟩) rfl (fun _ _ _ _ _ _ _ _ => .of_eq rfl) rfl rfl rfl rfl rfl rfl rfl
  r_NotReady := xc1_of (d := ⟨"NotReady", "NotReady.__init__", defArgs (meth 7 0), defBody (meth 7 0), defScope (meth 7 0)⟩) (xcF_of (S.err 3 rfl).1 (S.err 3 rfl).2) KX Ns rfl rfl (fun f cda cc => ⟨_, _, _, _, _, _, _, _, rfl, fun L => ⟨⟨_, rfl⟩, rfl, rfl, rfl⟩⟩) rfl (fun _ _ _ _ _ _ _ _ _ => .of_eq rfl) rfl rfl rfl rfl rfl rfl rfl rfl rfl (xt_at (xts := e_xts) S.all.2.2.2 54 rfl) (xt_at (xts := e_xts) S.all.2.2.2 51 rfl) rfl rfl (fun _ _ _ _ => rfl) rfl
  r_TooGreat := xc0_of (d := ⟨"TooGreat", "TooGreat.__init__", defArgs (meth 10 0), defBody (meth 10 0), defScope (meth 10 0)⟩) (xcF_of (S.err 4 rfl).1 (S.err 4 rfl).2) KX Ns rfl rfl (fun f cda cc => ⟨_, _, _, _, _, _, _, _, rfl, fun L => ⟨⟨_, rfl⟩, rfl, rfl, rfl⟩⟩) rfl (fun _ _ _ _ _ _ _ _ => .of_eq rfl) rfl rfl rfl rfl rfl rfl rfl
theorem endw {d : DefRec} {q : Program} {loose : List Str} {XP : (Str → Option Value) → Heap → Prop} (hdf : d.params.defaults = []) (hname : d.name = "law") : PySem.W.WalkO q loose XP (fun _ h => SaysTL PySem.Challenge.pw_tokennets_k01_whole_nets_marks_and_deeds e_ls e_fa e_fn e_fx e_xt h) R.toRowW d [] (fun f vs => PySem.call f vs) := by
  refine walk_lawL (ls := e_ls) (l := PySem.Challenge.rw_tokennets_k01_whole_nets_marks_and_deeds) (st := (top 43)) (k := 10) (i := 30) (j := 29) (ca := caT) (cf := cfX) rfl hdf hname ⟨rfl, by decide, by decide⟩ (by decide) rfl rfl (fun _ _ _ _ _ _ us hl => match us, hl with | [_], _ => rfl) ?_
  intro w mg K base f cc P fd KX Ns S Fd hcc nP TB LT
  exact ok_law (G := gxOfL PySem.Challenge.pw_tokennets_k01_whole_nets_marks_and_deeds w K mg base caT cfX e_ls) (tx KX Ns S LT) (fun a => tx KX Ns S LT) Fd hcc nP TB.1 TB.2.1 TB.2.2 fun ns _ => law_ok ns
end K01

open PySem PySem.W PySem.Calls PyProof.Rows
set_option maxRecDepth 100000 in
set_option maxHeartbeats 0 in
theorem PySem.Challenge.cw_tokennets_k01_whole_nets_marks_and_deeds_holds : PySem.Challenge.rw_tokennets_k01_whole_nets_marks_and_deeds.Holds := by
  w_on; o_law
  refine HandSHeadRun.head_any (r := K01.R) (q := K01.qv) (H := K01.hk) (ob := K01.ob) (M := 6000) (loose := K01.names) (kwd := []) K01.ob_eq (by kernel_rfl) (fun s => by kernel_rfl) K01.run (by rfl) (by rfl) (by rfl) (by rfl) (by first | assumption | decide +kernel) (by decide +kernel) ⟨rfl, rfl, rfl, rfl, rfl, by decide +kernel⟩ ?hw ?hc
  case hw => w_witness2
  case hc => exact K01.endw rfl rfl

