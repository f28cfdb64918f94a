import PyProof.Rows.All
import Wide.All
import OpenK.AllK
import Wide.FinOn
import HandS.ForMost
import HandS.ForExc
import HandS.IsInst
import HandS.Defaults
import HandS.MakeKw
import HandS.MakeKwOnly
import HandS.Star
import HandS.Zip
import HandS.Flow
import HandS.CallSlots
import HandS.HeadHook1
import HandS.TupAny
import HandS.Wide
import HandS.Style
import HandS.Conv
import HandS.Deep
import PyProof.InstNe
import HandS.OwnEq
import KE.GoesEnum
import KE.KStateDown
import HandS.Words
import HandS.WordsExc
import HandS.Ends
import HandS.More
import HandS.Head0
import HandS.Head1
import HandS.Head2
import HandS.HeadEnd
import HandS.HeadHook2
import HandS.HeadHook4
import HandS.DictTup
import HandS.TupLen
import KE.KDictWalk
import KE.KDictPairs
import KE.KDictZip
import KE.KDictCopyH
import KE.KDictItemsList
import HandS.DictEq
import KE.KOpsOwn
import PyProof.Rows.FactsB_mul
import HandS.NoneIn
import HandS.Text
import HandS.DeepEq
import KE.KDictDisplayH
import PyProof.DictTable
import KE.KExcSuper
import KE.KSuper
import HandS.ExcInit
import HandS.ExcField
import HandS.ExcOwn
import PySem.Challenge.RW_blockshares_k02_folders_refused
set_option Elab.async false
set_option linter.all false
section
set_option maxRecDepth 100000
set_option maxHeartbeats 2000000
/-! The data layer, part 1: plain data, its representation in HandS's abstract heap, results, soundness of readings. -/
namespace DL
open PySem L2

/-- plain data -/
inductive D where
  | non | bl (b : Bool) | int (i : Int) | str (x : Str) | ty (n : String)
  | glo (x : Str)
  | lst (xs : List D) | tup (xs : List D) | slst (xs : List D) | stup (xs : List D)
  | dK (kvs : List (Key × D)) | dT (kvs : List (List Key × D))
  | ins (c : Str) (fs : List (Str × D))
  | mref (i : Nat)
/-- a mutable thing -/
inductive MO where
  | lst (xs : List D) | dK (kvs : List (Key × D)) | dT (kvs : List (List Key × D)) | ins (c : Str) (fs : List (Str × D))
  | lkL (xs : List D) | lkK (kvs : List (Key × D)) | lkT (kvs : List (List Key × D)) | gone
abbrev Mem := List MO
structure Exn where
  c : Str
  att : List (Str × D)
inductive Res (α : Type) where
  | ok (a : α) (m : Mem) | exc (x : Exn) (m : Mem) | bad
def Res.bind {α β : Type} : Res α → (α → Mem → Res β) → Res β
  | .ok a m, f => f a m
  | .exc x m, _ => .exc x m
  | .bad, _ => .bad
@[simp] theorem bind_ok {α β : Type} (a : α) (m : Mem) (f : α → Mem → Res β) : (Res.ok a m).bind f = f a m := rfl
@[simp] theorem bind_exc {α β : Type} (x : Exn) (m : Mem) (f : α → Mem → Res β) : (Res.exc x m : Res α).bind f = .exc x m := rfl
@[simp] theorem bind_bad {α β : Type} (f : α → Mem → Res β) : (Res.bad : Res α).bind f = .bad := rfl
abbrev EnvD := List (Option D)
abbrev FE := EnvD → Mem → Res D
abbrev FT := EnvD → Mem → Res Bool
abbrev FA := EnvD → Mem → Res (List D)

/-! ### representation -/
structure Gh where
  H : Hp
  F : Hp
  al : Nat → Addr

/-- a tuple: a frozen one -/
def TupA (K : PySem.W.Frag) (F : Hp) (a : Addr) (vs : List V) : Prop := F a = some (.tup vs)
mutual
inductive Is (K : PySem.W.Frag) (F : Hp) (al : Nat → Addr) (n : Nat) : V → D → Prop
  | non : Is K F al n .non .non
  | bl (b : Bool) : Is K F al n (.bl b) (.bl b)
  | int (i : Int) : Is K F al n (.int i) (.int i)
  | str (x : Str) : Is K F al n (.str x) (.str x)
  | ty (x : String) : Is K F al n (.ty x) (.ty x)
  | glo (x : Str) : Is K F al n (.ref (He.ga K x)) (.glo x)
  | lst {a : Addr} {vs : List V} {ds : List D} : F a = some (.lst vs) → vs.length ≤ sizeLine → IsL K F al n vs ds → Is K F al n (.ref a) (.lst ds)
  | slst {a : Addr} {vs : List V} {ds : List D} : SqL K F a vs → vs.length ≤ sizeLine → IsL K F al n vs ds → Is K F al n (.ref a) (.slst ds)
  | tup {a : Addr} {vs : List V} {ds : List D} : TupA K F a vs → vs.length ≤ sizeLine → IsL K F al n vs ds → Is K F al n (.ref a) (.tup ds)
  | stup {a : Addr} {vs : List V} {ds : List D} : SqT K (fun _ => none) a vs → vs.length ≤ sizeLine → IsL K F al n vs ds → Is K F al n (.ref a) (.stup ds)
  | dK {a : Addr} {vs : List (Key × V)} {ds : List (Key × D)} : F a = some (.dK vs) → vs.map (·.1) = ds.map (·.1) → IsL K F al n (vs.map (·.2)) (ds.map (·.2)) → Is K F al n (.ref a) (.dK ds)
  | dT {a : Addr} {vs : List (List Key × V)} {ds : List (List Key × D)} : F a = some (.dT vs) → vs.map (·.1) = ds.map (·.1) → IsL K F al n (vs.map (·.2)) (ds.map (·.2)) → Is K F al n (.ref a) (.dT ds)
  | ins {a dx : Addr} {c : Str} {vs : List (Str × V)} {ds : List (Str × D)} : F a = some (.ins (He.ga K c) dx vs) → vs.map (·.1) = ds.map (·.1) → IsL K F al n (vs.map (·.2)) (ds.map (·.2)) → Is K F al n (.ref a) (.ins c ds)
  | mref {i : Nat} : i < n → Is K F al n (.ref (al i)) (.mref i)
inductive IsL (K : PySem.W.Frag) (F : Hp) (al : Nat → Addr) (n : Nat) : List V → List D → Prop
  | nil : IsL K F al n [] []
  | cons {v : V} {d : D} {vs : List V} {ds : List D} : Is K F al n v d → IsL K F al n vs ds → IsL K F al n (v :: vs) (d :: ds)
end

theorem sqL_mono {K : PySem.W.Frag} {F F' : Hp} {a : Addr} {xs : List V} (e : ∀ b o, F b = some o → F' b = some o) (h : SqL K F a xs) : SqL K F' a xs := by
  rcases h with (h | ⟨o, h⟩) | h
  · exact .inl (.inl (e _ _ h))
  · exact .inl (.inr ⟨o, e _ _ h⟩)
  · exact .inr h
theorem sqT_mono {K : PySem.W.Frag} {F F' : Hp} {a : Addr} {xs : List V} (e : ∀ b o, F b = some o → F' b = some o) (h : SqT K F a xs) : SqT K F' a xs := by
  rcases h with (h | ⟨o, h⟩) | h
  · exact .inl (.inl (e _ _ h))
  · exact .inl (.inr ⟨o, e _ _ h⟩)
  · exact .inr h
section
variable {K : PySem.W.Frag} {F F' : Hp} {al al' : Nat → Addr} {n n' : Nat}
mutual
theorem Is.mono (e : ∀ b o, F b = some o → F' b = some o) (ea : ∀ i, i < n → al' i = al i) (hn : n ≤ n') : ∀ {v : V} {d : D}, Is K F al n v d → Is K F' al' n' v d
  | _, _, .non => .non
  | _, _, .bl b => .bl b
  | _, _, .int i => .int i
  | _, _, .str x => .str x
  | _, _, .ty x => .ty x
  | _, _, .glo x => .glo x
  | _, _, .lst s z l => .lst (e _ _ s) z (IsL.mono e ea hn l)
  | _, _, .slst s z l => .slst (sqL_mono e s) z (IsL.mono e ea hn l)
  | _, _, .tup s z l => .tup (e _ _ s) z (IsL.mono e ea hn l)
  | _, _, .stup s z l => .stup s z (IsL.mono e ea hn l)
  | _, _, .dK s k l => .dK (e _ _ s) k (IsL.mono e ea hn l)
  | _, _, .dT s k l => .dT (e _ _ s) k (IsL.mono e ea hn l)
  | _, _, .ins s k l => .ins (e _ _ s) k (IsL.mono e ea hn l)
  | _, _, .mref (i := i) h => by rw [← ea i h]; exact .mref (Nat.lt_of_lt_of_le h hn)
theorem IsL.mono (e : ∀ b o, F b = some o → F' b = some o) (ea : ∀ i, i < n → al' i = al i) (hn : n ≤ n') : ∀ {vs : List V} {ds : List D}, IsL K F al n vs ds → IsL K F' al' n' vs ds
  | _, _, .nil => .nil
  | _, _, .cons h t => .cons (Is.mono e ea hn h) (IsL.mono e ea hn t)
end
theorem IsL.length : ∀ {vs : List V} {ds : List D}, IsL K F al n vs ds → vs.length = ds.length
  | _, _, .nil => rfl
  | _, _, .cons _ t => congrArg (· + 1) (IsL.length t)
theorem IsL.get : ∀ {vs : List V} {ds : List D} {i : Nat} {d : D}, IsL K F al n vs ds → ds[i]? = some d → ∃ v, vs[i]? = some v ∧ Is K F al n v d
  | _, _, _, _, .nil, e => by simp at e
  | _, _, 0, _, .cons h _, e => by simp at e; subst e; exact ⟨_, rfl, h⟩
  | _, _, i + 1, d, .cons _ t, e => by
    obtain ⟨v, h1, h2⟩ := IsL.get (i := i) (d := d) t (by simpa using e)
    exact ⟨v, by simpa using h1, h2⟩
theorem IsL.getV : ∀ {vs : List V} {ds : List D} {i : Nat} {v : V}, IsL K F al n vs ds → vs[i]? = some v → ∃ d, ds[i]? = some d ∧ Is K F al n v d
  | _, _, _, _, .nil, e => by simp at e
  | _, _, 0, _, .cons h _, e => by simp at e; subst e; exact ⟨_, rfl, h⟩
  | _, _, i + 1, v, .cons _ t, e => by
    obtain ⟨d, h1, h2⟩ := IsL.getV (i := i) (v := v) t (by simpa using e)
    exact ⟨d, by simpa using h1, h2⟩
theorem IsL.append : ∀ {vs ws : List V} {ds es : List D}, IsL K F al n vs ds → IsL K F al n ws es → IsL K F al n (vs ++ ws) (ds ++ es)
  | _, _, _, _, .nil, s => s
  | _, _, _, _, .cons h t, s => .cons h (IsL.append t s)
theorem IsL.take : ∀ {vs : List V} {ds : List D} (k : Nat), IsL K F al n vs ds → IsL K F al n (vs.take k) (ds.take k)
  | _, _, 0, _ => .nil
  | _, _, _ + 1, .nil => .nil
  | _, _, k + 1, .cons h t => .cons h (IsL.take k t)
theorem IsL.drop : ∀ {vs : List V} {ds : List D} (k : Nat), IsL K F al n vs ds → IsL K F al n (vs.drop k) (ds.drop k)
  | _, _, 0, h => h
  | _, _, _ + 1, .nil => .nil
  | _, _, k + 1, .cons _ t => IsL.drop k t
theorem IsL.set : ∀ {vs : List V} {ds : List D} {v : V} {d : D} (k : Nat), IsL K F al n vs ds → Is K F al n v d → IsL K F al n (vs.set k v) (ds.set k d)
  | _, _, _, _, _, .nil, _ => .nil
  | _, _, _, _, 0, .cons _ t, h => .cons h t
  | _, _, _, _, k + 1, .cons a t, h => .cons a (IsL.set k t h)
theorem IsL.eraseIdx : ∀ {vs : List V} {ds : List D} (k : Nat), IsL K F al n vs ds → IsL K F al n (vs.eraseIdx k) (ds.eraseIdx k)
  | _, _, _, .nil => .nil
  | _, _, 0, .cons _ t => t
  | _, _, k + 1, .cons a t => .cons a (IsL.eraseIdx k t)
theorem IsL.reverse {vs : List V} {ds : List D} (h : IsL K F al n vs ds) : IsL K F al n vs.reverse ds.reverse := by
  have go : ∀ {vs ws : List V} {ds es : List D}, IsL K F al n vs ds → IsL K F al n ws es → IsL K F al n (vs.reverseAux ws) (ds.reverseAux es) := by
    intro vs
    induction vs with
    | nil => intro ws ds es h g; cases h; exact g
    | cons v vs ih => intro ws ds es h g; cases h with | cons a t => (have q := ih t (IsL.cons a g); exact q)
  exact go h .nil
end

/-! ### the state -/
def Live (m : Mem) (i : Nat) : Prop := ∃ o, m[i]? = some o ∧ o ≠ .gone
def MOk (K : PySem.W.Frag) (g : Gh) (n : Nat) (a : Addr) : MO → Prop
  | .lst ds => g.F a = none ∧ ∃ vs, g.H a = some (.lst vs) ∧ vs.length ≤ sizeLine ∧ IsL K g.F g.al n vs ds
  | .lkL ds => g.F a = none ∧ ∃ vs, g.H a = some (.lst vs) ∧ vs.length ≤ sizeLine ∧ IsL K g.F g.al n vs ds
  | .dK ds => g.F a = none ∧ ∃ vs : List (Key × V), g.H a = some (.dK vs) ∧ vs.map (·.1) = ds.map (·.1) ∧ IsL K g.F g.al n (vs.map (·.2)) (ds.map (·.2))
  | .dT ds => g.F a = none ∧ ∃ vs : List (List Key × V), g.H a = some (.dT vs) ∧ vs.map (·.1) = ds.map (·.1) ∧ IsL K g.F g.al n (vs.map (·.2)) (ds.map (·.2))
  | .lkK ds => g.F a = none ∧ ∃ (o : Obj) (vs : List (Key × V)), g.H a = some (.frz o (.dK vs)) ∧ vs.map (·.1) = ds.map (·.1) ∧ IsL K g.F g.al n (vs.map (·.2)) (ds.map (·.2))
  | .lkT ds => g.F a = none ∧ ∃ (o : Obj) (vs : List (List Key × V)), g.H a = some (.frz o (.dT vs)) ∧ vs.map (·.1) = ds.map (·.1) ∧ IsL K g.F g.al n (vs.map (·.2)) (ds.map (·.2))
  | .ins c ds => g.F a = none ∧ ∃ (dx : Addr) (vs : List (Str × V)), g.H a = some (.ins (He.ga K c) dx vs) ∧ vs.map (·.1) = ds.map (·.1) ∧ IsL K g.F g.al n (vs.map (·.2)) (ds.map (·.2))
  | .gone => True
def isDic : HO → Prop
  | .dK _ => True
  | .dT _ => True
  | _ => False
structure Rep (K : PySem.W.Frag) (g : Gh) (m : Mem) : Prop where
  sub : ∀ b o, g.F b = some o → g.H b = some o ∨ (isDic o ∧ ∃ ob, g.H b = some (.frz ob o))
  mem : ∀ (i : Nat) (o : MO), m[i]? = some o → MOk K g m.length (g.al i) o
  inj : ∀ i j, Live m i → Live m j → g.al i = g.al j → i = j
/-- locked while it is walked: it cannot change -/
def isLk : MO → Bool
  | .lkL _ => true
  | .lkK _ => true
  | .lkT _ => true
  | _ => false
/-- no tuple -/
def nT (o : HO) : Prop := ∀ vs, o ≠ .tup vs
structure Le (g : Gh) (m : Mem) (g' : Gh) (m' : Mem) : Prop where
  F : ∀ b o, g.F b = some o → g'.F b = some o
  n : m.length ≤ m'.length
  al : ∀ i, i < m.length → g'.al i = g.al i
  oth : ∀ b o, g.H b = some o → nT o → g.F b = none → (∀ i, Live m i → g.al i ≠ b) → g'.H b = some o ∧ g'.F b = none ∧ ∀ i, Live m' i → g'.al i ≠ b
  frz : ∀ b o u, g.H b = some (.frz o u) → g'.H b = some (.frz o u)
  lk : ∀ (i : Nat) (o : MO), m[i]? = some o → isLk o = true → m'[i]? = some o
theorem Le.refl (g : Gh) (m : Mem) : Le g m g m := ⟨fun _ _ h => h, Nat.le_refl _, fun _ _ => rfl, fun _ _ h _ f l => ⟨h, f, l⟩, fun _ _ _ h => h, fun _ _ h _ => h⟩
theorem Le.trans {g g1 g2 : Gh} {m m1 m2 : Mem} (a : Le g m g1 m1) (b : Le g1 m1 g2 m2) : Le g m g2 m2 where
  F := fun x o h => b.F x o (a.F x o h)
  n := Nat.le_trans a.n b.n
  al := fun i h => (b.al i (Nat.lt_of_lt_of_le h a.n)).trans (a.al i h)
  oth := fun x o h n f l => let ⟨h1, f1, l1⟩ := a.oth x o h n f l; b.oth x o h1 n f1 l1
  frz := fun x o u h => b.frz x o u (a.frz x o u h)
  lk := fun i o h k => b.lk i o (a.lk i o h k) k
/-- the same without what is said of objects in nobody's hands -/
structure Lw (g : Gh) (m : Mem) (g' : Gh) (m' : Mem) : Prop where
  F : ∀ b o, g.F b = some o → g'.F b = some o
  n : m.length ≤ m'.length
  al : ∀ i, i < m.length → g'.al i = g.al i
  frz : ∀ b o u, g.H b = some (.frz o u) → g'.H b = some (.frz o u)
  lk : ∀ (i : Nat) (o : MO), m[i]? = some o → isLk o = true → m'[i]? = some o
theorem Le.w {g g' : Gh} {m m' : Mem} (l : Le g m g' m') : Lw g m g' m' := ⟨l.F, l.n, l.al, l.frz, l.lk⟩
theorem Lw.refl (g : Gh) (m : Mem) : Lw g m g m := (Le.refl g m).w
theorem Lw.trans {g g1 g2 : Gh} {m m1 m2 : Mem} (a : Lw g m g1 m1) (b : Lw g1 m1 g2 m2) : Lw g m g2 m2 where
  F := fun x o h => b.F x o (a.F x o h)
  n := Nat.le_trans a.n b.n
  al := fun i h => (b.al i (Nat.lt_of_lt_of_le h a.n)).trans (a.al i h)
  frz := fun x o u h => b.frz x o u (a.frz x o u h)
  lk := fun i o h k => b.lk i o (a.lk i o h k) k
abbrev IsG (K : PySem.W.Frag) (g : Gh) (m : Mem) : V → D → Prop := Is K g.F g.al m.length
abbrev IsGL (K : PySem.W.Frag) (g : Gh) (m : Mem) : List V → List D → Prop := IsL K g.F g.al m.length
theorem Is.le {K : PySem.W.Frag} {g g' : Gh} {m m' : Mem} {v : V} {d : D} (h : IsG K g m v d) (l : Le g m g' m') : IsG K g' m' v d := Is.mono l.F l.al l.n h
theorem IsL.le {K : PySem.W.Frag} {g g' : Gh} {m m' : Mem} {v : List V} {d : List D} (h : IsGL K g m v d) (l : Le g m g' m') : IsGL K g' m' v d := IsL.mono l.F l.al l.n h

theorem Is.lw {K : PySem.W.Frag} {g g' : Gh} {m m' : Mem} {v : V} {d : D} (h : IsG K g m v d) (l : Lw g m g' m') : IsG K g' m' v d := Is.mono l.F l.al l.n h
theorem IsL.lw {K : PySem.W.Frag} {g g' : Gh} {m m' : Mem} {v : List V} {d : List D} (h : IsGL K g m v d) (l : Lw g m g' m') : IsGL K g' m' v d := IsL.mono l.F l.al l.n h
structure EnvOk (K : PySem.W.Frag) (g : Gh) (m : Mem) (σ : St) (ρ : EnvD) : Prop where
  len : σ.length = ρ.length
  at_ : ∀ (i : Nat) (d : D), ρ[i]? = some (some d) → ∃ v, σ[i]? = some (some v) ∧ IsG K g m v d
theorem EnvOk.le {K : PySem.W.Frag} {g g' : Gh} {m m' : Mem} {σ : St} {ρ : EnvD} (h : EnvOk K g m σ ρ) (l : Le g m g' m') : EnvOk K g' m' σ ρ :=
  ⟨h.len, fun i d e => let ⟨v, h1, h2⟩ := h.at_ i d e; ⟨v, h1, h2.le l⟩⟩
theorem EnvOk.lw {K : PySem.W.Frag} {g g' : Gh} {m m' : Mem} {σ : St} {ρ : EnvD} (h : EnvOk K g m σ ρ) (l : Lw g m g' m') : EnvOk K g' m' σ ρ :=
  ⟨h.len, fun i d e => let ⟨v, h1, h2⟩ := h.at_ i d e; ⟨v, h1, h2.lw l⟩⟩
theorem EnvOk.set {K : PySem.W.Frag} {g : Gh} {m : Mem} {σ : St} {ρ : EnvD} (h : EnvOk K g m σ ρ) (i : Nat) {v : V} {d : D} (iv : IsG K g m v d) : EnvOk K g m (σ.set i (some v)) (ρ.set i (some d)) := by
  refine ⟨by rw [List.length_set, List.length_set, h.len], fun j e q => ?_⟩
  by_cases hj : i = j
  · subst hj
    by_cases hl : i < ρ.length
    · rw [List.getElem?_set_self hl] at q
      cases q
      exact ⟨v, List.getElem?_set_self (by rw [h.len]; exact hl), iv⟩
    · rw [List.getElem?_eq_none (by simpa using Nat.le_of_not_lt hl)] at q
      cases q
  · rw [List.getElem?_set_ne hj] at q ⊢
    exact h.at_ j e q
theorem EnvOk.unset {K : PySem.W.Frag} {g : Gh} {m : Mem} {σ : St} {ρ : EnvD} (h : EnvOk K g m σ ρ) (i : Nat) : EnvOk K g m (σ.set i none) (ρ.set i none) := by
  refine ⟨by rw [List.length_set, List.length_set, h.len], fun j e q => ?_⟩
  by_cases hj : i = j
  · subst hj
    by_cases hl : i < ρ.length
    · rw [List.getElem?_set_self hl] at q
      cases q
    · rw [List.getElem?_eq_none (by simpa using Nat.le_of_not_lt hl)] at q
      cases q
  · rw [List.getElem?_set_ne hj] at q ⊢
    exact h.at_ j e q

/-! ### an exception, as it flies -/
def IsX (K : PySem.W.Frag) (g : Gh) (m : Mem) (cls : Value) (dc : Option Addr) (x : Exn) : Prop :=
  cls = .ref (He.ga K x.c) ∧ (x.att = [] ∨ ∃ d vs, dc = some d ∧ g.F d = some (.xd vs) ∧ vs.map (·.1) = x.att.map (·.1) ∧ IsGL K g m (vs.map (·.2)) (x.att.map (·.2)))
theorem IsX.le {K : PySem.W.Frag} {g g' : Gh} {m m' : Mem} {cls : Value} {dc : Option Addr} {x : Exn} (h : IsX K g m cls dc x) (l : Le g m g' m') : IsX K g' m' cls dc x :=
  ⟨h.1, h.2.imp id fun ⟨d, vs, h1, h2, h3, h4⟩ => ⟨d, vs, h1, l.F _ _ h2, h3, h4.le l⟩⟩

/-! ### what is wanted of a result -/
def Pre {A B : Type} (R : Gh → Mem → A → B → Prop) (K : PySem.W.Frag) (W : WX) (σ : St) (g : Gh) (m : Mem) (Q : A → Hp → Prop) : Res B → Prop
  | .ok b m' => ∀ g' a, Rep K g' m' → Le g m g' m' → R g' m' a b → Q a g'.H
  | .exc x m' => ∀ g' cls dc, Rep K g' m' → Le g m g' m' → IsX K g' m' cls dc x → W cls dc σ g'.H
  | .bad => False
theorem Pre.le {A B : Type} {R : Gh → Mem → A → B → Prop} {K : PySem.W.Frag} {W : WX} {σ : St} {g g1 : Gh} {m m1 : Mem} {Q : A → Hp → Prop} : ∀ {r : Res B}, Pre R K W σ g m Q r → Le g m g1 m1 → Pre R K W σ g1 m1 Q r
  | .ok _ _, h, l => fun g' a rp l' ra => h g' a rp (l.trans l') ra
  | .exc _ _, h, l => fun g' c d rp l' x => h g' c d rp (l.trans l') x
  | .bad, h, _ => h
theorem pre_bind {A B A2 B2 : Type} {R : Gh → Mem → A → B → Prop} {R2 : Gh → Mem → A2 → B2 → Prop} {K : PySem.W.Frag} {W : WX} {σ : St} {g : Gh} {m : Mem} {Q : A2 → Hp → Prop} {Q1 : A → Hp → Prop} {r : Res B} {k : B → Mem → Res B2}
    (h : Pre R2 K W σ g m Q (r.bind k)) (hk : ∀ g1 m1 a b, Rep K g1 m1 → Le g m g1 m1 → R g1 m1 a b → Pre R2 K W σ g1 m1 Q (k b m1) → Q1 a g1.H) : Pre R K W σ g m Q1 r := by
  cases r with
  | ok b m1 => exact fun g1 a rp l ra => hk g1 m1 a b rp l ra (Pre.le h l)
  | exc x m1 => exact h
  | bad => exact h
theorem pre_ok {A B : Type} {R : Gh → Mem → A → B → Prop} {K : PySem.W.Frag} {W : WX} {σ : St} {g g' : Gh} {m m' : Mem} {Q : A → Hp → Prop} {a : A} {b : B} (h : Pre R K W σ g m Q (.ok b m')) (rp : Rep K g' m') (l : Le g m g' m') (ra : R g' m' a b) : Q a g'.H := h g' a rp l ra

abbrev RE (K : PySem.W.Frag) : Gh → Mem → V → D → Prop := IsG K
abbrev RA (K : PySem.W.Frag) : Gh → Mem → List V → List D → Prop := IsGL K
abbrev RB : Gh → Mem → Bool → Bool → Prop := fun _ _ a b => a = b
/-- a reading is served by a function of data -/
def SdE (K : PySem.W.Frag) (W : WX) (t : TE) (f : FE) : Prop := ∀ g m σ ρ Q, Rep K g m → EnvOk K g m σ ρ → Pre (RE K) K W σ g m Q (f ρ m) → t σ g.H Q
def SdA (K : PySem.W.Frag) (W : WX) (t : TA) (f : FA) : Prop := ∀ g m σ ρ Q, Rep K g m → EnvOk K g m σ ρ → Pre (RA K) K W σ g m Q (f ρ m) → t σ g.H Q
def SdT (K : PySem.W.Frag) (W : WX) (t : TT) (f : FT) : Prop := ∀ g m σ ρ Q, Rep K g m → EnvOk K g m σ ρ → Pre RB K W σ g m Q (f ρ m) → t σ g.H Q
structure PD (X : Cx) (W : WX) (e : Expr) (f : FE) : Prop where
  ex : ∃ t, PE X e t ∧ SdE X.K W t f
structure PDA (X : Cx) (W : WX) (e : List Expr) (f : FA) : Prop where
  ex : ∃ t, PA X e t ∧ SdA X.K W t f
structure PDT (X : Cx) (W : WX) (e : Expr) (f : FT) : Prop where
  ex : ∃ t, PT X e t ∧ SdT X.K W t f
end DL
end
section
set_option maxRecDepth 100000
set_option maxHeartbeats 2000000
/-! The data layer, part 2: how the state grows and changes. -/
namespace DL
open PySem L2

/-! ### data that speaks of the first n mutable things alone -/
mutual
inductive Bel (n : Nat) : D → Prop
  | non : Bel n .non
  | bl (b : Bool) : Bel n (.bl b)
  | int (i : Int) : Bel n (.int i)
  | str (x : Str) : Bel n (.str x)
  | ty (x : String) : Bel n (.ty x)
  | glo (x : Str) : Bel n (.glo x)
  | lst {ds : List D} : BelL n ds → Bel n (.lst ds)
  | tup {ds : List D} : BelL n ds → Bel n (.tup ds)
  | slst {ds : List D} : BelL n ds → Bel n (.slst ds)
  | stup {ds : List D} : BelL n ds → Bel n (.stup ds)
  | dK {ds : List (Key × D)} : BelL n (ds.map (·.2)) → Bel n (.dK ds)
  | dT {ds : List (List Key × D)} : BelL n (ds.map (·.2)) → Bel n (.dT ds)
  | ins {c : Str} {ds : List (Str × D)} : BelL n (ds.map (·.2)) → Bel n (.ins c ds)
  | mref {i : Nat} : i < n → Bel n (.mref i)
inductive BelL (n : Nat) : List D → Prop
  | nil : BelL n []
  | cons {d : D} {ds : List D} : Bel n d → BelL n ds → BelL n (d :: ds)
end
theorem belL_iff {n : Nat} : ∀ {ds : List D}, BelL n ds ↔ ∀ d ∈ ds, Bel n d
  | [] => ⟨fun _ _ h => by simp at h, fun _ => .nil⟩
  | d :: ds => by
    constructor
    · intro h
      cases h with
      | cons a t =>
        intro x hx
        rcases List.mem_cons.mp hx with rfl | hx
        · exact a
        · exact belL_iff.mp t x hx
    · intro h
      exact .cons (h d (by simp)) (belL_iff.mpr fun x hx => h x (by simp [hx]))
@[simp] theorem bel_non {n : Nat} : Bel n .non ↔ True := ⟨fun _ => trivial, fun _ => .non⟩
@[simp] theorem bel_bl {n : Nat} {b : Bool} : Bel n (.bl b) ↔ True := ⟨fun _ => trivial, fun _ => .bl b⟩
@[simp] theorem bel_int {n : Nat} {b : Int} : Bel n (.int b) ↔ True := ⟨fun _ => trivial, fun _ => .int b⟩
@[simp] theorem bel_str {n : Nat} {b : Str} : Bel n (.str b) ↔ True := ⟨fun _ => trivial, fun _ => .str b⟩
@[simp] theorem bel_ty {n : Nat} {b : String} : Bel n (.ty b) ↔ True := ⟨fun _ => trivial, fun _ => .ty b⟩
@[simp] theorem bel_glo {n : Nat} {b : Str} : Bel n (.glo b) ↔ True := ⟨fun _ => trivial, fun _ => .glo b⟩
@[simp] theorem bel_lst {n : Nat} {ds : List D} : Bel n (.lst ds) ↔ ∀ d ∈ ds, Bel n d := ⟨fun h => by cases h with | lst h => exact belL_iff.mp h, fun h => .lst (belL_iff.mpr h)⟩
@[simp] theorem bel_tup {n : Nat} {ds : List D} : Bel n (.tup ds) ↔ ∀ d ∈ ds, Bel n d := ⟨fun h => by cases h with | tup h => exact belL_iff.mp h, fun h => .tup (belL_iff.mpr h)⟩
@[simp] theorem bel_slst {n : Nat} {ds : List D} : Bel n (.slst ds) ↔ ∀ d ∈ ds, Bel n d := ⟨fun h => by cases h with | slst h => exact belL_iff.mp h, fun h => .slst (belL_iff.mpr h)⟩
@[simp] theorem bel_stup {n : Nat} {ds : List D} : Bel n (.stup ds) ↔ ∀ d ∈ ds, Bel n d := ⟨fun h => by cases h with | stup h => exact belL_iff.mp h, fun h => .stup (belL_iff.mpr h)⟩
@[simp] theorem bel_dK {n : Nat} {ds : List (Key × D)} : Bel n (.dK ds) ↔ ∀ p ∈ ds, Bel n p.2 :=
  ⟨fun h => by cases h with | dK h => exact fun p hp => belL_iff.mp h p.2 (List.mem_map_of_mem hp), fun h => .dK (belL_iff.mpr fun d hd => by obtain ⟨p, hp, rfl⟩ := List.mem_map.mp hd; exact h p hp)⟩
@[simp] theorem bel_dT {n : Nat} {ds : List (List Key × D)} : Bel n (.dT ds) ↔ ∀ p ∈ ds, Bel n p.2 :=
  ⟨fun h => by cases h with | dT h => exact fun p hp => belL_iff.mp h p.2 (List.mem_map_of_mem hp), fun h => .dT (belL_iff.mpr fun d hd => by obtain ⟨p, hp, rfl⟩ := List.mem_map.mp hd; exact h p hp)⟩
@[simp] theorem bel_ins {n : Nat} {c : Str} {ds : List (Str × D)} : Bel n (.ins c ds) ↔ ∀ p ∈ ds, Bel n p.2 :=
  ⟨fun h => by cases h with | ins h => exact fun p hp => belL_iff.mp h p.2 (List.mem_map_of_mem hp), fun h => .ins (belL_iff.mpr fun d hd => by obtain ⟨p, hp, rfl⟩ := List.mem_map.mp hd; exact h p hp)⟩
@[simp] theorem bel_mref {n i : Nat} : Bel n (.mref i) ↔ i < n := ⟨fun h => by cases h with | mref h => exact h, .mref⟩
def BelM (n : Nat) : MO → Prop
  | .lst ds => ∀ d ∈ ds, Bel n d
  | .lkL ds => ∀ d ∈ ds, Bel n d
  | .dK ds => ∀ p ∈ ds, Bel n p.2
  | .lkK ds => ∀ p ∈ ds, Bel n p.2
  | .dT ds => ∀ p ∈ ds, Bel n p.2
  | .lkT ds => ∀ p ∈ ds, Bel n p.2
  | .ins _ ds => ∀ p ∈ ds, Bel n p.2
  | .gone => True
section
variable {K : PySem.W.Frag} {F : Hp} {al : Nat → Addr} {n n' : Nat}
mutual
theorem Is.bel : ∀ {v : V} {d : D}, Is K F al n v d → Bel n d
  | _, _, .non => .non
  | _, _, .bl b => .bl b
  | _, _, .int i => .int i
  | _, _, .str x => .str x
  | _, _, .ty x => .ty x
  | _, _, .glo x => .glo x
  | _, _, .lst _ _ l => .lst (IsL.bel l)
  | _, _, .tup _ _ l => .tup (IsL.bel l)
  | _, _, .slst _ _ l => .slst (IsL.bel l)
  | _, _, .stup _ _ l => .stup (IsL.bel l)
  | _, _, .dK _ _ l => .dK (IsL.bel l)
  | _, _, .dT _ _ l => .dT (IsL.bel l)
  | _, _, .ins _ _ l => .ins (IsL.bel l)
  | _, _, .mref h => .mref h
theorem IsL.bel : ∀ {vs : List V} {ds : List D}, IsL K F al n vs ds → BelL n ds
  | _, _, .nil => .nil
  | _, _, .cons h t => .cons (Is.bel h) (IsL.bel t)
end
mutual
theorem Is.cut : ∀ {v : V} {d : D}, Is K F al n' v d → Bel n d → Is K F al n v d
  | _, _, .non, _ => .non
  | _, _, .bl b, _ => .bl b
  | _, _, .int i, _ => .int i
  | _, _, .str x, _ => .str x
  | _, _, .ty x, _ => .ty x
  | _, _, .glo x, _ => .glo x
  | _, _, .lst a z l, .lst b => .lst a z (IsL.cut l b)
  | _, _, .tup a z l, .tup b => .tup a z (IsL.cut l b)
  | _, _, .slst a z l, .slst b => .slst a z (IsL.cut l b)
  | _, _, .stup a z l, .stup b => .stup a z (IsL.cut l b)
  | _, _, .dK a z l, .dK b => .dK a z (IsL.cut l b)
  | _, _, .dT a z l, .dT b => .dT a z (IsL.cut l b)
  | _, _, .ins a z l, .ins b => .ins a z (IsL.cut l b)
  | _, _, .mref _, .mref h => .mref h
theorem IsL.cut : ∀ {vs : List V} {ds : List D}, IsL K F al n' vs ds → BelL n ds → IsL K F al n vs ds
  | _, _, .nil, _ => .nil
  | _, _, .cons h t, .cons b c => .cons (Is.cut h b) (IsL.cut t c)
end
end
theorem belP {κ : Type} {n : Nat} {ds : List (κ × D)} : BelL n (ds.map (·.2)) ↔ ∀ p ∈ ds, Bel n p.2 :=
  ⟨fun h p hp => belL_iff.mp h p.2 (List.mem_map_of_mem hp), fun h => belL_iff.mpr fun d hd => by obtain ⟨p, hp, rfl⟩ := List.mem_map.mp hd; exact h p hp⟩
theorem MOk.bel {K : PySem.W.Frag} {g : Gh} {n : Nat} {a : Addr} : ∀ {o : MO}, MOk K g n a o → BelM n o
  | .lst _, ⟨_, _, _, _, l⟩ => belL_iff.mp l.bel
  | .lkL _, ⟨_, _, _, _, l⟩ => belL_iff.mp l.bel
  | .dK _, ⟨_, _, _, _, l⟩ => belP.mp l.bel
  | .dT _, ⟨_, _, _, _, l⟩ => belP.mp l.bel
  | .lkK _, ⟨_, _, _, _, _, l⟩ => belP.mp l.bel
  | .lkT _, ⟨_, _, _, _, _, l⟩ => belP.mp l.bel
  | .ins _ _, ⟨_, _, _, _, _, l⟩ => belP.mp l.bel
  | .gone, _ => trivial
theorem MOk.cut {K : PySem.W.Frag} {g : Gh} {n n' : Nat} {a : Addr} : ∀ {o : MO}, MOk K g n' a o → BelM n o → MOk K g n a o
  | .lst _, ⟨f, vs, h, z, l⟩, b => ⟨f, vs, h, z, l.cut (belL_iff.mpr b)⟩
  | .lkL _, ⟨f, vs, h, z, l⟩, b => ⟨f, vs, h, z, l.cut (belL_iff.mpr b)⟩
  | .dK _, ⟨f, vs, h, z, l⟩, b => ⟨f, vs, h, z, l.cut (belP.mpr b)⟩
  | .dT _, ⟨f, vs, h, z, l⟩, b => ⟨f, vs, h, z, l.cut (belP.mpr b)⟩
  | .lkK _, ⟨f, o, vs, h, z, l⟩, b => ⟨f, o, vs, h, z, l.cut (belP.mpr b)⟩
  | .lkT _, ⟨f, o, vs, h, z, l⟩, b => ⟨f, o, vs, h, z, l.cut (belP.mpr b)⟩
  | .ins _ _, ⟨f, dx, vs, h, z, l⟩, b => ⟨f, dx, vs, h, z, l.cut (belP.mpr b)⟩
  | .gone, _, _ => trivial
/-- a mutable thing stands on: its own object is kept, it is not frozen, what is frozen stays -/
theorem MOk.step {K : PySem.W.Frag} {g g' : Gh} {n n' : Nat} {a : Addr} (hH : g'.H a = g.H a) (hF : g.F a = none → g'.F a = none) (mF : ∀ b o, g.F b = some o → g'.F b = some o) (ea : ∀ i, i < n → g'.al i = g.al i) (hn : n ≤ n') : ∀ {o : MO}, MOk K g n a o → MOk K g' n' a o
  | .lst _, ⟨f, vs, h, z, l⟩ => ⟨hF f, vs, hH.trans h, z, l.mono mF ea hn⟩
  | .lkL _, ⟨f, vs, h, z, l⟩ => ⟨hF f, vs, hH.trans h, z, l.mono mF ea hn⟩
  | .dK _, ⟨f, vs, h, z, l⟩ => ⟨hF f, vs, hH.trans h, z, l.mono mF ea hn⟩
  | .dT _, ⟨f, vs, h, z, l⟩ => ⟨hF f, vs, hH.trans h, z, l.mono mF ea hn⟩
  | .lkK _, ⟨f, o, vs, h, z, l⟩ => ⟨hF f, o, vs, hH.trans h, z, l.mono mF ea hn⟩
  | .lkT _, ⟨f, o, vs, h, z, l⟩ => ⟨hF f, o, vs, hH.trans h, z, l.mono mF ea hn⟩
  | .ins _ _, ⟨f, dx, vs, h, z, l⟩ => ⟨hF f, dx, vs, hH.trans h, z, l.mono mF ea hn⟩
  | .gone, _ => trivial
theorem MOk.there {K : PySem.W.Frag} {g : Gh} {n : Nat} {a : Addr} : ∀ {o : MO}, MOk K g n a o → o ≠ .gone → ∃ u, g.H a = some u ∧ g.F a = none
  | .lst _, ⟨f, vs, h, _⟩, _ => ⟨_, h, f⟩
  | .lkL _, ⟨f, vs, h, _⟩, _ => ⟨_, h, f⟩
  | .dK _, ⟨f, vs, h, _⟩, _ => ⟨_, h, f⟩
  | .dT _, ⟨f, vs, h, _⟩, _ => ⟨_, h, f⟩
  | .lkK _, ⟨f, o, vs, h, _⟩, _ => ⟨_, h, f⟩
  | .lkT _, ⟨f, o, vs, h, _⟩, _ => ⟨_, h, f⟩
  | .ins _ _, ⟨f, dx, vs, h, _⟩, _ => ⟨_, h, f⟩
  | .gone, _, n => absurd rfl n
section
variable {K : PySem.W.Frag} {g : Gh} {m : Mem} {p : Addr}
theorem Rep.live (rp : Rep K g m) {i : Nat} (l : Live m i) : ∃ u, g.H (g.al i) = some u ∧ g.F (g.al i) = none := let ⟨o, h, n⟩ := l; (rp.mem i o h).there n
theorem Live.lt {m : Mem} {i : Nat} (l : Live m i) : i < m.length := let ⟨o, h, _⟩ := l; (List.getElem?_eq_some_iff.mp h).1
theorem Rep.free (rp : Rep K g m) (hp : g.H p = none) : g.F p = none := by
  cases e : g.F p with
  | none => rfl
  | some o =>
    rcases rp.sub p o e with h | ⟨_, _, h⟩ <;> (rw [hp] at h; cases h)
theorem upd_some {H : Hp} {b p : Addr} {o u : HO} (hp : H p = none) (h : H b = some u) : upd H p o b = some u := by rw [upd_ne (ne_of_none h hp)]; exact h
/-- a new frozen thing -/
theorem Rep.newF (rp : Rep K g m) (hp : g.H p = none) (o : HO) : Rep K ⟨upd g.H p o, upd g.F p o, g.al⟩ m ∧ Le g m ⟨upd g.H p o, upd g.F p o, g.al⟩ m := by
  have hF := rp.free hp
  have mF : ∀ b u, g.F b = some u → upd g.F p o b = some u := fun b u h => upd_some hF h
  refine ⟨⟨fun b u h => ?_, fun i u h => ?_, fun i j a b e => rp.inj i j a b e⟩, ⟨mF, Nat.le_refl _, fun _ _ => rfl, fun b u h nt f l => ⟨upd_some hp h, ?_, l⟩, fun b u v h => upd_some hp h, fun _ _ h _ => h⟩⟩
  · by_cases hb : b = p
    · subst hb
      rw [show (⟨upd g.H b o, upd g.F b o, g.al⟩ : Gh).F b = some o from upd_same] at h
      cases h
      exact .inl upd_same
    · rw [show (⟨upd g.H p o, upd g.F p o, g.al⟩ : Gh).F b = g.F b from upd_ne hb] at h
      rcases rp.sub b u h with h | ⟨d, ob, h⟩
      · exact .inl (upd_some hp h)
      · exact .inr ⟨d, ob, upd_some hp h⟩
  · by_cases hn : u = .gone
    · subst hn; trivial
    · obtain ⟨w, hw, hf⟩ := (rp.mem i u h).there hn
      have ne : g.al i ≠ p := ne_of_none hw hp
      exact (rp.mem i u h).step (g' := ⟨upd g.H p o, upd g.F p o, g.al⟩) (upd_ne ne) (fun f => by show upd g.F p o (g.al i) = none; rw [upd_ne ne]; exact f) mF (fun _ _ => rfl) (Nat.le_refl _)
  · show upd g.F p o b = none
    rw [upd_ne (ne_of_none h hp)]
    exact f
/-- a new mutable thing -/
def Gh.add (g : Gh) (n : Nat) (p : Addr) (o : HO) : Gh := ⟨upd g.H p o, g.F, fun i => if i = n then p else g.al i⟩
theorem Rep.newM (rp : Rep K g m) (hp : g.H p = none) {o : HO} {mo : MO} (nf : ∀ ob u, o ≠ .frz ob u) (ok : MOk K (g.add m.length p o) (m.length + 1) p mo) : Rep K (g.add m.length p o) (m ++ [mo]) ∧ Le g m (g.add m.length p o) (m ++ [mo]) := by
  have hF := rp.free hp
  have al1 : ∀ i, i < m.length → (g.add m.length p o).al i = g.al i := fun i h => if_neg (Nat.ne_of_lt h)
  have al2 : (g.add m.length p o).al m.length = p := if_pos rfl
  have lv : ∀ i, Live (m ++ [mo]) i → Live m i ∨ i = m.length := fun i ⟨u, h, n⟩ => by
    by_cases hi : i < m.length
    · rw [List.getElem?_append_left hi] at h; exact .inl ⟨u, h, n⟩
    · have := (List.getElem?_eq_some_iff.mp h).1
      rw [List.length_append] at this
      exact .inr (by simp at this; omega)
  have lne : ∀ i, Live m i → g.al i ≠ p := fun i l => let ⟨u, h, _⟩ := rp.live l; ne_of_none h hp
  refine ⟨⟨fun b u h => ?_, fun i u h => ?_, fun i j a b e => ?_⟩, ⟨fun _ _ h => h, by simp, al1, fun b u h nt f l => ⟨upd_some hp h, f, fun i li => ?_⟩, fun b u v h => upd_some hp h, fun i u h _ => by rw [List.getElem?_append_left (List.getElem?_eq_some_iff.mp h).1]; exact h⟩⟩
  · rcases rp.sub b u h with h | ⟨d, ob, h⟩
    · exact .inl (upd_some hp h)
    · exact .inr ⟨d, ob, upd_some hp h⟩
  · by_cases hi : i < m.length
    · rw [List.getElem?_append_left hi] at h
      rw [al1 i hi, List.length_append]
      by_cases hn : u = .gone
      · subst hn; trivial
      · obtain ⟨w, hw, hf⟩ := (rp.mem i u h).there hn
        exact (rp.mem i u h).step (g' := g.add m.length p o) (upd_ne (ne_of_none hw hp)) (fun f => f) (fun _ _ h => h) al1 (Nat.le_add_right _ _)
    · have hl := (List.getElem?_eq_some_iff.mp h).1
      have e : i = m.length := by rw [List.length_append] at hl; simp at hl; omega
      subst e
      rw [List.getElem?_append_right (Nat.le_refl _), Nat.sub_self] at h
      cases h
      rw [al2, List.length_append]
      exact ok
  · rcases lv i a with a | rfl <;> rcases lv j b with b | rfl
    · rw [al1 i a.lt, al1 j b.lt] at e
      exact rp.inj i j a b e
    · rw [al1 i a.lt, al2] at e
      exact absurd e (lne i a)
    · rw [al2, al1 j b.lt] at e
      exact absurd e.symm (lne j b)
    · rfl
  · rcases lv i li with li | rfl
    · rw [al1 i li.lt]; exact l i li
    · rw [al2]; exact (ne_of_none h hp).symm
/-- a mutable thing is written -/
theorem Rep.write (rp : Rep K g m) {i : Nat} {mo mo' : MO} {o : HO} (h : m[i]? = some mo) (hn : mo ≠ .gone) (hk : isLk mo = false) (nf : ∀ ob u, g.H (g.al i) ≠ some (.frz ob u)) (ok : MOk K ⟨upd g.H (g.al i) o, g.F, g.al⟩ m.length (g.al i) mo') :
    Rep K ⟨upd g.H (g.al i) o, g.F, g.al⟩ (m.set i mo') ∧ Le g m ⟨upd g.H (g.al i) o, g.F, g.al⟩ (m.set i mo') := by
  have li : Live m i := ⟨mo, h, hn⟩
  obtain ⟨w, hw, hf⟩ := rp.live li
  have lv : ∀ j, Live (m.set i mo') j → Live m j := fun j ⟨u, hu, n⟩ => by
    by_cases hj : i = j
    · subst hj; exact li
    · rw [List.getElem?_set_ne hj] at hu; exact ⟨u, hu, n⟩
  refine ⟨⟨fun b u q => ?_, fun j u q => ?_, fun j k a b e => rp.inj j k (lv j a) (lv k b) e⟩, ⟨fun _ _ q => q, by simp, fun _ _ => rfl, fun b u q nt f l => ⟨?_, f, fun j lj => l j (lv j lj)⟩, fun b u v q => ?_, fun j u q k => ?_⟩⟩
  · have ne : b ≠ g.al i := fun e => by rw [e, hf] at q; cases q
    rcases rp.sub b u q with q | ⟨d, ob, q⟩
    · exact .inl (by show upd _ _ _ _ = _; rw [upd_ne ne]; exact q)
    · exact .inr ⟨d, ob, by show upd _ _ _ _ = _; rw [upd_ne ne]; exact q⟩
  · rw [List.length_set]
    by_cases hj : i = j
    · subst hj
      rw [List.getElem?_set_self li.lt] at q
      cases q
      exact ok
    · rw [List.getElem?_set_ne hj] at q
      by_cases hu : u = .gone
      · subst hu; trivial
      · have ne : g.al j ≠ g.al i := fun e => hj (rp.inj j i ⟨u, q, hu⟩ li e).symm
        exact (rp.mem j u q).step (g' := ⟨upd g.H (g.al i) o, g.F, g.al⟩) (upd_ne ne) (fun f => f) (fun _ _ q => q) (fun _ _ => rfl) (Nat.le_refl _)
  · show upd _ _ _ _ = _
    rw [upd_ne (fun e => l i li e.symm)]
    exact q
  · show upd _ _ _ _ = _
    rw [upd_ne (fun e : b = g.al i => nf u v (by rw [← e]; exact q))]
    exact q
  · by_cases hj : i = j
    · subst hj
      rw [h] at q
      cases q
      rw [hk] at k
      cases k
    · rw [List.getElem?_set_ne hj]
      exact q
/-- a mutable thing is frozen -/
theorem Rep.freeze (rp : Rep K g m) {i : Nat} {mo : MO} {o : HO} (h : m[i]? = some mo) (hn : mo ≠ .gone) (hk : isLk mo = false) (ho : g.H (g.al i) = some o) :
    Rep K ⟨g.H, upd g.F (g.al i) o, g.al⟩ (m.set i .gone) ∧ Le g m ⟨g.H, upd g.F (g.al i) o, g.al⟩ (m.set i .gone) := by
  have li : Live m i := ⟨mo, h, hn⟩
  obtain ⟨w, hw, hf⟩ := rp.live li
  have mF : ∀ b u, g.F b = some u → upd g.F (g.al i) o b = some u := fun b u q => upd_some hf q
  have lv : ∀ j, Live (m.set i .gone) j → Live m j ∧ j ≠ i := fun j ⟨u, hu, n⟩ => by
    by_cases hj : i = j
    · subst hj
      rw [List.getElem?_set_self li.lt] at hu
      cases hu
      exact absurd rfl n
    · rw [List.getElem?_set_ne hj] at hu; exact ⟨⟨u, hu, n⟩, Ne.symm hj⟩
  refine ⟨⟨fun b u q => ?_, fun j u q => ?_, fun j k a b e => rp.inj j k (lv j a).1 (lv k b).1 e⟩, ⟨mF, by simp, fun _ _ => rfl, fun b u q nt f l => ⟨q, ?_, fun j lj => l j (lv j lj).1⟩, fun b u v q => q, fun j u q k => by
    by_cases hj : i = j
    · subst hj
      rw [h] at q
      cases q
      rw [hk] at k
      cases k
    · rw [List.getElem?_set_ne hj]
      exact q⟩⟩
  · by_cases hb : b = g.al i
    · subst hb
      rw [show (⟨g.H, upd g.F (g.al i) o, g.al⟩ : Gh).F (g.al i) = some o from upd_same] at q
      cases q
      exact .inl ho
    · rw [show (⟨g.H, upd g.F (g.al i) o, g.al⟩ : Gh).F b = g.F b from upd_ne hb] at q
      exact rp.sub b u q
  · rw [List.length_set]
    by_cases hj : i = j
    · subst hj
      rw [List.getElem?_set_self li.lt] at q
      cases q
      trivial
    · rw [List.getElem?_set_ne hj] at q
      by_cases hu : u = .gone
      · subst hu; trivial
      · have ne : g.al j ≠ g.al i := fun e => hj (rp.inj j i ⟨u, q, hu⟩ li e).symm
        exact (rp.mem j u q).step (g := g) (g' := ⟨g.H, upd g.F (g.al i) o, g.al⟩) rfl (fun f => by show upd g.F (g.al i) o (g.al j) = none; rw [upd_ne ne]; exact f) mF (fun _ _ => rfl) (Nat.le_refl _)
  · show upd g.F (g.al i) o b = none
    rw [upd_ne (fun e => l i li e.symm)]
    exact f
end
/-! ### forgetting what was made since -/
open Classical in
noncomputable def cut (m0 m' : Mem) (d : List D) : Mem :=
  if m'.length ≤ m0.length then m'
  else if (∀ x ∈ d, Bel m0.length x) ∧ ∀ i, i < m0.length → m'[i]? = m0[i]? ∨ ∃ o, m'[i]? = some o ∧ BelM m0.length o then m'.take m0.length else m'
theorem cut_ok {K : PySem.W.Frag} {g g' : Gh} {m m' : Mem} {d : List D} {vs : List V} (rp : Rep K g m) (rp' : Rep K g' m') (l : Le g m g' m') (iv : IsGL K g' m' vs d) : Rep K g' (cut m m' d) ∧ Le g m g' (cut m m' d) ∧ IsGL K g' (cut m m' d) vs d := by
  unfold cut
  split
  · exact ⟨rp', l, iv⟩
  · rename_i hlen
    split
    · rename_i hc
      obtain ⟨hd, hm⟩ := hc
      have tl : (m'.take m.length).length = m.length := by rw [List.length_take]; omega
      have gt : ∀ i, i < m.length → (m'.take m.length)[i]? = m'[i]? := fun i hi => by rw [List.getElem?_take, if_pos hi]
      have lv : ∀ i, Live (m'.take m.length) i → Live m' i := fun i li => by
        have hi : i < m.length := by have := li.lt; omega
        obtain ⟨o, h, n⟩ := li
        rw [gt i hi] at h
        exact ⟨o, h, n⟩
      refine ⟨⟨rp'.sub, fun i o h => ?_, fun i j a b e => rp'.inj i j (lv i a) (lv j b) e⟩, ⟨l.F, by rw [tl]; exact Nat.le_refl _, l.al, fun b o h nt f q => ?_, l.frz, fun i o h k => by rw [gt i (List.getElem?_eq_some_iff.mp h).1]; exact l.lk i o h k⟩, ?_⟩
      · have hi : i < m.length := by have := (List.getElem?_eq_some_iff.mp h).1; omega
        rw [gt i hi] at h
        rw [tl]
        refine (rp'.mem i o h).cut ?_
        rcases hm i hi with e | ⟨u, e, b⟩
        · rw [h] at e
          exact (rp.mem i o e.symm).bel
        · rw [h] at e
          cases e
          exact b
      · obtain ⟨a, b', c⟩ := l.oth b o h nt f q
        exact ⟨a, b', fun i li => c i (lv i li)⟩
      · show IsL K g'.F g'.al (m'.take m.length).length vs d
        rw [tl]
        exact iv.cut (belL_iff.mpr hd)
    · exact ⟨rp', l, iv⟩
theorem cut_same (m m' : Mem) (d : List D) (h : m'.length = m.length) : cut m m' d = m' := by unfold cut; rw [if_pos (Nat.le_of_eq h)]
theorem cut_app (m loc : Mem) (d : List D) (h : ∀ x ∈ d, Bel m.length x) : cut m (m ++ loc) d = m := by
  unfold cut
  cases loc with
  | nil => rw [if_pos (by simp)]; simp
  | cons a r =>
    rw [if_neg (by simp), if_pos ⟨h, fun i hi => .inl (List.getElem?_append_left hi)⟩]
    all_goals simp
theorem cut_two (m m1 loc : Mem) (d : List D) (hl : m1.length = m.length) (h : ∀ x ∈ d, Bel m.length x) (hm : ∀ i, i < m.length → m1[i]? = m[i]? ∨ ∃ o, m1[i]? = some o ∧ BelM m.length o) : cut m (m1 ++ loc) d = m1 := by
  unfold cut
  cases loc with
  | nil => rw [if_pos (by simp [hl])]; simp
  | cons a r =>
    have h2 : ∀ i, i < m.length → (m1 ++ a :: r)[i]? = m[i]? ∨ ∃ o, (m1 ++ a :: r)[i]? = some o ∧ BelM m.length o := fun i hi => by
      rw [List.getElem?_append_left (by omega)]; exact hm i hi
    rw [if_neg (by simp [hl]), if_pos ⟨h, h2⟩, ← hl]
    simp
end DL
end
section
set_option maxRecDepth 100000
set_option maxHeartbeats 2000000
/-! The data layer, part 3: operators, comparisons, names, constants, tests, displays. -/
namespace DL
open PySem L2
open Classical

/-! ### views -/
def lstV (m : Mem) : D → Option (List D)
  | .lst xs => some xs
  | .slst xs => some xs
  | .mref i => match m[i]? with
    | some (.lst xs) => some xs
    | some (.lkL xs) => some xs
    | _ => none
  | _ => none
def lstE (m : Mem) : D → Option (List D)
  | .lst xs => some xs
  | .mref i => match m[i]? with
    | some (.lst xs) => some xs
    | some (.lkL xs) => some xs
    | _ => none
  | _ => none
def seqV (m : Mem) : D → Option (List D)
  | .tup xs => some xs
  | .stup xs => some xs
  | d => lstV m d
section
variable {K : PySem.W.Frag} {g : Gh} {m : Mem} {v : V} {d : D} {xs : List D}
theorem Rep.at_ (rp : Rep K g m) {a : Addr} {o : HO} (h : g.F a = some o) (n : ¬ isDic o) : g.H a = some o := by
  rcases rp.sub a o h with h | ⟨z, _⟩
  · exact h
  · exact absurd z n
theorem Rep.sqL (rp : Rep K g m) {a : Addr} {vs : List V} (h : SqL K g.F a vs) : SqL K g.H a vs := by
  rcases h with (h | ⟨o, h⟩) | h
  · exact .inl (.inl (rp.at_ h (fun z => z)))
  · exact .inl (.inr ⟨o, rp.at_ h (fun z => z)⟩)
  · exact .inr h
theorem Rep.sqT (rp : Rep K g m) {a : Addr} {vs : List V} (h : TupA K g.F a vs) : SqT K g.H a vs := by
  exact .inl (.inl (rp.at_ h (fun z => z)))
theorem sqS {K : PySem.W.Frag} {H : Hp} {a : Addr} {vs : List V} (h : SqT K (fun _ => none) a vs) : SqT K H a vs := by
  rcases h with (h | ⟨o, h⟩) | h
  · cases h
  · cases h
  · exact .inr h
theorem lstE_ok (rp : Rep K g m) (iv : IsG K g m v d) (h : lstE m d = some xs) : ∃ a vs, v = .ref a ∧ g.H a = some (.lst vs) ∧ vs.length ≤ sizeLine ∧ IsGL K g m vs xs := by
  cases iv <;> simp only [lstE] at h <;> try cases h
  · rename_i a vs s z l
    exact ⟨a, vs, rfl, rp.at_ s (fun z => z), z, l⟩
  · rename_i i hi
    split at h
    · rename_i ys e
      cases h
      obtain ⟨_, vs, h1, h2, h3⟩ := rp.mem i _ e
      exact ⟨_, vs, rfl, h1, h2, h3⟩
    · rename_i ys e
      cases h
      obtain ⟨_, vs, h1, h2, h3⟩ := rp.mem i _ e
      exact ⟨_, vs, rfl, h1, h2, h3⟩
    · cases h
theorem lstV_ok (rp : Rep K g m) (iv : IsG K g m v d) (h : lstV m d = some xs) : ∃ a vs, v = .ref a ∧ SqL K g.H a vs ∧ vs.length ≤ sizeLine ∧ IsGL K g m vs xs := by
  by_cases he : lstE m d = some xs
  · obtain ⟨a, vs, h1, h2, h3, h4⟩ := lstE_ok rp iv he
    exact ⟨a, vs, h1, SqL.of h2, h3, h4⟩
  · cases iv <;> simp only [lstV, lstE] at h he <;> try cases h
    · exact absurd rfl he
    · rename_i a vs s z l
      exact ⟨a, vs, rfl, rp.sqL s, z, l⟩
    · exact absurd h he
theorem seqV_ok (rp : Rep K g m) (iv : IsG K g m v d) (h : seqV m d = some xs) : ∃ a vs, v = .ref a ∧ (SqL K g.H a vs ∨ SqT K g.H a vs) ∧ vs.length ≤ sizeLine ∧ IsGL K g m vs xs := by
  cases d with
  | tup ys =>
    cases h
    cases iv with
    | tup s z l => exact ⟨_, _, rfl, .inr (rp.sqT s), z, l⟩
  | stup ys =>
    cases h
    cases iv with
    | stup s z l => exact ⟨_, _, rfl, .inr (sqS s), z, l⟩
  | _ =>
    obtain ⟨a, vs, h1, h2, h3, h4⟩ := lstV_ok rp iv h
    exact ⟨a, vs, h1, .inl h2, h3, h4⟩
end

/-! ### results -/
section
variable {K : PySem.W.Frag} {W : WX} {σ : St} {g : Gh} {m : Mem} {Q : VK}
theorem pre_val {v : V} {d : D} (rp : Rep K g m) (h : Pre (RE K) K W σ g m Q (.ok d m)) (iv : IsG K g m v d) : Q v g.H := h g v rp (Le.refl g m) iv
theorem pre_newL {vs : List V} {ds : List D} (rp : Rep K g m) (h : Pre (RE K) K W σ g m Q (.ok (.lst ds) m)) (hz : vs.length ≤ sizeLine) (il : IsGL K g m vs ds) (p : Addr) (hp : g.H p = none) : Q (.ref p) (upd g.H p (.lst vs)) := by
  obtain ⟨r, l⟩ := rp.newF hp (.lst vs)
  exact h _ (.ref p) r l (.lst upd_same hz (il.le l))
theorem pre_newT {vs : List V} {ds : List D} (rp : Rep K g m) (h : Pre (RE K) K W σ g m Q (.ok (.tup ds) m)) (hz : vs.length ≤ sizeLine) (il : IsGL K g m vs ds) (p : Addr) (hp : g.H p = none) : Q (.ref p) (upd g.H p (.tup vs)) := by
  obtain ⟨r, l⟩ := rp.newF hp (.tup vs)
  exact h _ (.ref p) r l (.tup upd_same hz (il.le l))
end

/-! ### operators by values -/
abbrev H2 := D → D → Mem → Res D
def OpSd (K : PySem.W.Frag) (r : R2) (h : H2) : Prop := ∀ (W : WX) (σ : St) g m x y dx dy (Q : VK), Rep K g m → IsG K g m x dx → IsG K g m y dy → Pre (RE K) K W σ g m Q (h dx dy m) → r x y g.H Q
abbrev H1 := D → Mem → Res D
def UnSd (K : PySem.W.Frag) (r : V → Hp → VK → Prop) (h : H1) : Prop := ∀ (W : WX) (σ : St) g m x dx (Q : VK), Rep K g m → IsG K g m x dx → Pre (RE K) K W σ g m Q (h dx m) → r x g.H Q
abbrev HL := List D → Mem → Res D
def CaSd (K : PySem.W.Frag) (r : List V → Hp → VK → Prop) (h : HL) : Prop := ∀ (W : WX) (σ : St) g m xs ds (Q : VK), Rep K g m → IsGL K g m xs ds → Pre (RE K) K W σ g m Q (h ds m) → r xs g.H Q

def eVar (i : Nat) : FE := fun ρ m => match ρ[i]? with
  | some (some d) => .ok d m
  | _ => .bad
def eC (d : D) : FE := fun _ m => .ok d m
def eOp (h : H2) (a b : FE) : FE := fun ρ m => (a ρ m).bind fun x m1 => (b ρ m1).bind fun y m2 => h x y m2
def eUn (h : H1) (a : FE) : FE := fun ρ m => (a ρ m).bind fun x m1 => h x m1
def eCB (h : HL) (a : FA) : FE := fun ρ m => (a ρ m).bind fun x m1 => h x m1
def aNil : FA := fun _ m => .ok [] m
def aCons (a : FE) (r : FA) : FA := fun ρ m => (a ρ m).bind fun x m1 => (r ρ m1).bind fun xs m2 => .ok (x :: xs) m2
def aStar (a : FE) (r : FA) : FA := fun ρ m => (a ρ m).bind fun x m1 => match seqV m1 x with
  | some ys => (r ρ m1).bind fun xs m2 => .ok (ys ++ xs) m2
  | none => .bad
def eTup (a : FA) : FE := fun ρ m => (a ρ m).bind fun xs m1 => if xs.length ≤ sizeLine then .ok (.tup xs) m1 else .bad
def eLst (a : FA) : FE := fun ρ m => (a ρ m).bind fun xs m1 => if xs.length ≤ sizeLine then .ok (.lst xs) m1 else .bad
/-- a new list, kept mutable -/
def eLstM (a : FA) : FE := fun ρ m => (a ρ m).bind fun xs m1 => if xs.length ≤ sizeLine then .ok (.mref m1.length) (m1 ++ [.lst xs]) else .bad
/-! tests -/
def tTr (a : FE) : FT := fun ρ m => (a ρ m).bind fun x m1 => match x with
  | .bl b => .ok b m1
  | _ => .bad
def tAn (a b : FT) : FT := fun ρ m => (a ρ m).bind fun x m1 => if x = true then b ρ m1 else .ok false m1
def tOr' (a b : FT) : FT := fun ρ m => (a ρ m).bind fun x m1 => if x = true then .ok true m1 else b ρ m1
def tNo (a : FT) : FT := fun ρ m => (a ρ m).bind fun x m1 => .ok (!x) m1
def eAn (a b : FE) : FE := fun ρ m => (a ρ m).bind fun x m1 => match x with
  | .bl c => if c = true then b ρ m1 else .ok (.bl false) m1
  | _ => .bad
def eOr (a b : FE) : FE := fun ρ m => (a ρ m).bind fun x m1 => match x with
  | .bl c => if c = true then .ok (.bl true) m1 else b ρ m1
  | _ => .bad
def eNo (a : FE) : FE := fun ρ m => (a ρ m).bind fun x m1 => match x with
  | .bl c => .ok (.bl (!c)) m1
  | _ => .bad
def eIf (c : FT) (a b : FE) : FE := fun ρ m => (c ρ m).bind fun x m1 => if x = true then a ρ m1 else b ρ m1
def eCh (h h' : H2) (a b c : FE) : FE := fun ρ m => (a ρ m).bind fun x m1 => (b ρ m1).bind fun y m2 => (h x y m2).bind fun z m3 => match z with
  | .bl k => if k = true then (c ρ m3).bind fun w m4 => h' y w m4 else .ok (.bl false) m3
  | _ => .bad

section
variable {X : Cx} {W : WX} {a b c : Expr} {fa fb fc : FE} {pos : Pos}
theorem pd_var (i : Nat) {x : Str} (hN : X.N[i]? = some x := by rfl) (hv : Vis X.env.scope x := by first | exact Or.inl rfl | exact Or.inr (Or.inl rfl) | exact Or.inr (Or.inr rfl)) (hd : (x == ("__debug__" : Str)) = false := by decide)
    (hcd : (x == ("__classdict__" : Str)) = false := by decide) : PD X W (.Name x pos) (eVar i) := by
  refine ⟨⟨_, pe_var hN hv hd hcd, fun g m σ ρ Q rp en h => ?_⟩⟩
  unfold eVar at h
  split at h
  · rename_i d e
    obtain ⟨v, h1, h2⟩ := en.at_ i d e
    exact ⟨v, h1, pre_val rp h h2⟩
  · exact h.elim
theorem sd_c {K : PySem.W.Frag} {v : V} {d : D} (iv : ∀ g m, IsG K g m v d) : SdE K W (tC v) (eC d) := fun g m σ ρ Q rp en h => pre_val rp h (iv g m)
theorem pd_int {i j} : PD X W (.Constant (.int i) j pos) (eC (.int i)) := ⟨⟨_, pe_int, sd_c fun _ _ => .int i⟩⟩
theorem pd_bl {i j} : PD X W (.Constant (.bool i) j pos) (eC (.bl i)) := ⟨⟨_, pe_bl, sd_c fun _ _ => .bl i⟩⟩
theorem pd_non {j} : PD X W (.Constant .none j pos) (eC .non) := ⟨⟨_, pe_non, sd_c fun _ _ => .non⟩⟩
theorem pd_str {i j} : PD X W (.Constant (.str i) j pos) (eC (.str i)) := ⟨⟨_, pe_str, sd_c fun _ _ => .str i⟩⟩
/-- a module's constant -/
theorem pd_glob {x : Str} {v : V} {u : Value} {d : D} (hg : Gl X x) (hm : X.mg x = some u) (r : RelV v u) (iv : ∀ g m, IsG X.K g m v d) (hd : (x == ("__debug__" : Str)) = false := by decide) : PD X W (.Name x pos) (eC d) :=
  ⟨⟨_, pe_glob hg hm r hd, sd_c iv⟩⟩
theorem pd_bltn {x : Str} {n : String} (hg : Gl X x) (hm : X.mg x = none) (hv : bootBuiltins x = some (.type n)) (hn : x ≠ "__name__" := by decide) (hd : (x == ("__debug__" : Str)) = false := by decide) : PD X W (.Name x pos) (eC (.ty n)) :=
  ⟨⟨_, pe_bltn hg hm hv (v := .ty n) rfl hn hd, sd_c fun _ _ => .ty n⟩⟩
theorem sd_op {K : PySem.W.Frag} {ta tb : TE} {r : R2} {h : H2} (ho : OpSd K r h) (ha : SdE K W ta fa) (hb : SdE K W tb fb) : SdE K W (tOp r ta tb) (eOp h fa fb) := fun g m σ ρ Q rp en q =>
  ha g m σ ρ _ rp en (pre_bind q fun g1 m1 x dx rp1 l1 ix q1 => hb g1 m1 σ ρ _ rp1 (en.le l1) (pre_bind q1 fun g2 m2 y dy rp2 l2 iy q2 => ho W σ g2 m2 x y dx dy Q rp2 (ix.le l2) iy q2))
theorem sd_un {K : PySem.W.Frag} {ta : TE} {r : V → Hp → VK → Prop} {h : H1} (ho : UnSd K r h) (ha : SdE K W ta fa) : SdE K W (tUn r ta) (eUn h fa) := fun g m σ ρ Q rp en q =>
  ha g m σ ρ _ rp en (pre_bind q fun g1 m1 x dx rp1 l1 ix q1 => ho W σ g1 m1 x dx Q rp1 ix q1)
theorem pd_op {op : Operator} {r : R2} {h : H2} (ho : OpR X (binaryOp op) r) (hs : OpSd X.K r h) (ha : PD X W a fa) (hb : PD X W b fb) : PD X W (.BinOp a op b pos) (eOp h fa fb) := by
  obtain ⟨ta, pa, sa⟩ := ha.ex
  obtain ⟨tb, pb, sb⟩ := hb.ex
  exact ⟨⟨_, pe_op ho pa pb, sd_op hs sa sb⟩⟩
theorem pd_un {op : UnaryOp} {r : V → Hp → VK → Prop} {h : H1} (ho : UnR X (unaryOp op) r) (hs : UnSd X.K r h) (ha : PD X W a fa) : PD X W (.UnaryOp op a pos) (eUn h fa) := by
  obtain ⟨ta, pa, sa⟩ := ha.ex
  exact ⟨⟨_, pe_un ho pa, sd_un hs sa⟩⟩
theorem pd_cmp {op : CmpOp} {r : R2} {h : H2} (ho : OpR X (compareOp op) r) (hs : OpSd X.K r h) (ha : PD X W a fa) (hb : PD X W b fb) (hm : behindInMarks op b = false := by first | exact nomark _ | rfl) : PD X W (.Compare a [op] [b] pos) (eOp h fa fb) := by
  obtain ⟨ta, pa, sa⟩ := ha.ex
  obtain ⟨tb, pb, sb⟩ := hb.ex
  exact ⟨⟨_, pe_cmpR ho pa pb hm, sd_op hs sa sb⟩⟩
theorem pd_cmpN {op : CmpOp} {r : R2} {h : H2} (ho : OpR X (compareOp op) r) (hs : OpSd X.K r h) (ha : PD X W a fa) (hb : PD X W b fb) (hm : behindInMarks op b = false) : PD X W (.Compare a [op] [b] pos) (eOp h fa fb) := pd_cmp ho hs ha hb hm
theorem pdt_cmp {op : CmpOp} {r : R2} {h : H2} (ho : OpR X (compareOp op) r) (hs : OpSd X.K r h) (ha : PD X W a fa) (hb : PD X W b fb) (hm : behindInMarks op b = false := by first | exact nomark _ | rfl) : PDT X W (.Compare a [op] [b] pos) (tTr (eOp h fa fb)) := by
  obtain ⟨ta, pa, sa⟩ := ha.ex
  obtain ⟨tb, pb, sb⟩ := hb.ex
  refine ⟨⟨_, pt_cmpR ho pa pb hm, fun g m σ ρ Q rp en q => ?_⟩⟩
  refine sd_op hs sa sb g m σ ρ _ rp en (pre_bind q fun g1 m1 x dx rp1 l1 ix q1 => ?_)
  cases ix <;> first | exact q1.elim | exact ⟨_, rfl, q1 g1 _ rp1 (Le.refl _ _) rfl⟩
/-- a value as a test -/
theorem pdt_val (ha : PD X W a fa) (he : ∀ whole, isTrue a X.env whole = (do let v ← whole; standAt a.pos; holding [v] (truthy v)) := by intro _; rfl) : PDT X W a (tTr fa) := by
  obtain ⟨ta, pa, sa⟩ := ha.ex
  refine ⟨⟨_, pt_val pa he, fun g m σ ρ Q rp en q => ?_⟩⟩
  refine sa g m σ ρ _ rp en (pre_bind q fun g1 m1 x dx rp1 l1 ix q1 => ?_)
  cases ix <;> first | exact q1.elim | exact ⟨_, rfl, q1 g1 _ rp1 (Le.refl _ _) rfl⟩
variable {ta tb : FT} {rest : List Expr}
/-- and, or, not as tests -/
structure PDW (X : Cx) (W : WX) (e : Expr) (f : FT) : Prop where
  ex : ∃ t, PW X e t ∧ SdT X.K W t f
theorem pdw_and1 (ha : PDT X W a ta) : PDW X W (.BoolOp .And [a] pos) ta := let ⟨t, p, s⟩ := ha.ex; ⟨⟨t, pw_and1 p, s⟩⟩
theorem pdw_or1 (ha : PDT X W a ta) : PDW X W (.BoolOp .Or [a] pos) ta := let ⟨t, p, s⟩ := ha.ex; ⟨⟨t, pw_or1 p, s⟩⟩
theorem pdw_and (ha : PDT X W a ta) (hb : PDW X W (.BoolOp .And (b :: rest) pos) tb) : PDW X W (.BoolOp .And (a :: b :: rest) pos) (tAn ta tb) := by
  obtain ⟨t, p, s⟩ := ha.ex
  obtain ⟨t', p', s'⟩ := hb.ex
  refine ⟨⟨_, pw_and p p', fun g m σ ρ Q rp en q => s g m σ ρ _ rp en (pre_bind q fun g1 m1 x dx rp1 l1 ix q1 => ?_)⟩⟩
  subst ix
  cases x with
  | true => rw [if_pos rfl] at q1 ⊢; exact s' g1 m1 σ ρ Q rp1 (en.le l1) q1
  | false => rw [if_neg Bool.false_ne_true] at q1 ⊢; exact q1 g1 _ rp1 (Le.refl _ _) rfl
theorem pdw_or (ha : PDT X W a ta) (hb : PDW X W (.BoolOp .Or (b :: rest) pos) tb) : PDW X W (.BoolOp .Or (a :: b :: rest) pos) (tOr' ta tb) := by
  obtain ⟨t, p, s⟩ := ha.ex
  obtain ⟨t', p', s'⟩ := hb.ex
  refine ⟨⟨_, pw_or p p', fun g m σ ρ Q rp en q => s g m σ ρ _ rp en (pre_bind q fun g1 m1 x dx rp1 l1 ix q1 => ?_)⟩⟩
  subst ix
  cases x with
  | true => rw [if_pos rfl] at q1 ⊢; exact q1 g1 _ rp1 (Le.refl _ _) rfl
  | false => rw [if_neg Bool.false_ne_true] at q1 ⊢; exact s' g1 m1 σ ρ Q rp1 (en.le l1) q1
theorem PDW.pdt {e : Expr} {f : FT} (h : PDW X W e f) : PDT X W e f := let ⟨t, p, s⟩ := h.ex; ⟨⟨t, p.pt, s⟩⟩
theorem pdt_not (ha : PDT X W a ta) : PDT X W (.UnaryOp .Not a pos) (tNo ta) := by
  obtain ⟨t, p, s⟩ := ha.ex
  refine ⟨⟨_, pt_not p, fun g m σ ρ Q rp en q => s g m σ ρ _ rp en (pre_bind q fun g1 m1 x dx rp1 l1 ix q1 => ?_)⟩⟩
  subst ix
  exact q1 g1 _ rp1 (Le.refl _ _) rfl
/-- and, or, not as values -/
theorem pd_one {op} (h : PD X W a fa) : PD X W (.BoolOp op [a] pos) fa := let ⟨t, p, s⟩ := h.ex; ⟨⟨t, pe_one p, s⟩⟩
theorem pd_and (ha : PD X W a fa) (hb : PD X W (.BoolOp .And (b :: rest) pos) fb) : PD X W (.BoolOp .And (a :: b :: rest) pos) (eAn fa fb) := by
  obtain ⟨t, p, s⟩ := ha.ex
  obtain ⟨t', p', s'⟩ := hb.ex
  refine ⟨⟨_, pe_and p p', fun g m σ ρ Q rp en q => s g m σ ρ _ rp en (pre_bind q fun g1 m1 x dx rp1 l1 ix q1 => ?_)⟩⟩
  cases ix <;> try exact q1.elim
  rename_i k
  refine ⟨k, rfl, ?_⟩
  cases k with
  | true => rw [if_pos rfl]; simp only [if_true] at q1; exact s' g1 m1 σ ρ Q rp1 (en.le l1) q1
  | false => rw [if_neg Bool.false_ne_true]; simp only [Bool.false_eq_true, if_false] at q1; exact pre_val rp1 q1 (.bl false)
theorem pd_or (ha : PD X W a fa) (hb : PD X W (.BoolOp .Or (b :: rest) pos) fb) : PD X W (.BoolOp .Or (a :: b :: rest) pos) (eOr fa fb) := by
  obtain ⟨t, p, s⟩ := ha.ex
  obtain ⟨t', p', s'⟩ := hb.ex
  refine ⟨⟨_, pe_or p p', fun g m σ ρ Q rp en q => s g m σ ρ _ rp en (pre_bind q fun g1 m1 x dx rp1 l1 ix q1 => ?_)⟩⟩
  cases ix <;> try exact q1.elim
  rename_i k
  refine ⟨k, rfl, ?_⟩
  cases k with
  | true => rw [if_pos rfl]; simp only [if_true] at q1; exact pre_val rp1 q1 (.bl true)
  | false => rw [if_neg Bool.false_ne_true]; simp only [Bool.false_eq_true, if_false] at q1; exact s' g1 m1 σ ρ Q rp1 (en.le l1) q1
theorem pd_not (ha : PD X W a fa) : PD X W (.UnaryOp .Not a pos) (eNo fa) := by
  obtain ⟨t, p, s⟩ := ha.ex
  refine ⟨⟨_, pe_not p, fun g m σ ρ Q rp en q => s g m σ ρ _ rp en (pre_bind q fun g1 m1 x dx rp1 l1 ix q1 => ?_)⟩⟩
  cases ix <;> try exact q1.elim
  exact ⟨_, rfl, pre_val rp1 q1 (.bl _)⟩
theorem pd_if (hc : PDT X W c ta) (ha : PD X W a fa) (hb : PD X W b fb) : PD X W (.IfExp c a b pos) (eIf ta fa fb) := by
  obtain ⟨t, p, s⟩ := hc.ex
  obtain ⟨t1, p1, s1⟩ := ha.ex
  obtain ⟨t2, p2, s2⟩ := hb.ex
  refine ⟨⟨_, pe_ifExp p p1 p2, fun g m σ ρ Q rp en q => s g m σ ρ _ rp en (pre_bind q fun g1 m1 x dx rp1 l1 ix q1 => ?_)⟩⟩
  subst ix
  cases x with
  | true => rw [if_pos rfl] at q1 ⊢; exact s1 g1 m1 σ ρ Q rp1 (en.le l1) q1
  | false => rw [if_neg Bool.false_ne_true] at q1 ⊢; exact s2 g1 m1 σ ρ Q rp1 (en.le l1) q1
end

/-! ### argument lists and displays -/
section
variable {X : Cx} {W : WX} {e : Expr} {es : List Expr} {f : FE} {fr : FA} {pos : Pos}
theorem pda_nil : PDA X W [] aNil := ⟨⟨_, pa_nil, fun g m σ ρ Q rp en q => q g _ rp (Le.refl _ _) .nil⟩⟩
theorem pda_cons (h : PD X W e f) (hr : PDA X W es fr) (hs : starEach (e :: es) X.env = (false, eval e X.env) :: starEach es X.env := by rfl) : PDA X W (e :: es) (aCons f fr) := by
  obtain ⟨t, p, s⟩ := h.ex
  obtain ⟨t', p', s'⟩ := hr.ex
  refine ⟨⟨_, pa_cons p p' hs, fun g m σ ρ Q rp en q => s g m σ ρ _ rp en (pre_bind q fun g1 m1 x dx rp1 l1 ix q1 => s' g1 m1 σ ρ _ rp1 (en.le l1) (pre_bind q1 fun g2 m2 xs ds rp2 l2 ixs q2 => ?_))⟩⟩
  exact q2 g2 _ rp2 (Le.refl _ _) (.cons (ix.le l2) ixs)
theorem pda_star {p : Pos} (h : PD X W e f) (hr : PDA X W es fr) (hs : starEach (.Starred e p :: es) X.env = (true, eval e X.env) :: starEach es X.env := by rfl) : PDA X W (.Starred e p :: es) (aStar f fr) := by
  obtain ⟨t, p1, s⟩ := h.ex
  obtain ⟨t', p', s'⟩ := hr.ex
  refine ⟨⟨_, StX.pa_star p1 p' hs, fun g m σ ρ Q rp en q => s g m σ ρ _ rp en (pre_bind q fun g1 m1 x dx rp1 l1 ix q1 => ?_)⟩⟩
  split at q1
  · rename_i ys e
    obtain ⟨a, vs, rfl, h1, h2, h3⟩ := seqV_ok rp1 ix e
    refine ⟨a, vs, rfl, h1.symm, s' g1 m1 σ ρ _ rp1 (en.le l1) (pre_bind q1 fun g2 m2 xs ds rp2 l2 ixs q2 => ?_)⟩
    exact q2 g2 _ rp2 (Le.refl _ _) ((h3.le l2).append ixs)
  · exact q1.elim
theorem pd_tup {x1} (h : PDA X W es fr) : PD X W (.Tuple es x1 pos) (eTup fr) := by
  obtain ⟨t, p, s⟩ := h.ex
  refine ⟨⟨_, pe_tup p, fun g m σ ρ Q rp en q => s g m σ ρ _ rp en (pre_bind q fun g1 m1 x dx rp1 l1 ix q1 => ?_)⟩⟩
  split at q1
  · rename_i hz
    have hz' : x.length ≤ sizeLine := by rw [ix.length]; exact hz
    exact ⟨hz', pre_newT rp1 q1 hz' ix⟩
  · exact q1.elim
theorem pd_lst (h : PDA X W es fr) : PD X W (.List es pos) (eLst fr) := by
  obtain ⟨t, p, s⟩ := h.ex
  refine ⟨⟨_, pe_lst p, fun g m σ ρ Q rp en q => s g m σ ρ _ rp en (pre_bind q fun g1 m1 x dx rp1 l1 ix q1 => ?_)⟩⟩
  split at q1
  · rename_i hz
    have hz' : x.length ≤ sizeLine := by rw [ix.length]; exact hz
    exact ⟨hz', pre_newL rp1 q1 hz' ix⟩
  · exact q1.elim
theorem pre_newM {K : PySem.W.Frag} {σ : St} {g : Gh} {m : Mem} {Q : VK} {vs : List V} {ds : List D} (rp : Rep K g m) (h : Pre (RE K) K W σ g m Q (.ok (.mref m.length) (m ++ [.lst ds]))) (hz : vs.length ≤ sizeLine) (il : IsGL K g m vs ds) (p : Addr) (hp : g.H p = none) : Q (.ref p) (upd g.H p (.lst vs)) := by
  have ea : ∀ i, i < m.length → (g.add m.length p (.lst vs)).al i = g.al i := fun i h => if_neg (Nat.ne_of_lt h)
  obtain ⟨r, l⟩ := rp.newM (o := .lst vs) (mo := .lst ds) hp (fun _ _ z => by cases z) ⟨rp.free hp, vs, upd_same, hz, il.mono (fun _ _ q => q) ea (Nat.le_succ _)⟩
  have e : (g.add m.length p (.lst vs)).al m.length = p := if_pos rfl
  refine h _ (.ref p) r l ?_
  have q : IsG K (g.add m.length p (.lst vs)) (m ++ [.lst ds]) (.ref ((g.add m.length p (.lst vs)).al m.length)) (.mref m.length) := .mref (by simp)
  rw [e] at q
  exact q
theorem pd_lstM (h : PDA X W es fr) : PD X W (.List es pos) (eLstM fr) := by
  obtain ⟨t, p, s⟩ := h.ex
  refine ⟨⟨_, pe_lst p, fun g m σ ρ Q rp en q => s g m σ ρ _ rp en (pre_bind q fun g1 m1 x dx rp1 l1 ix q1 => ?_)⟩⟩
  split at q1
  · rename_i hz
    have hz' : x.length ≤ sizeLine := by rw [ix.length]; exact hz
    exact ⟨hz', pre_newM rp1 q1 hz' ix⟩
  · exact q1.elim
end
end DL
end
section
set_option maxRecDepth 100000
set_option maxHeartbeats 2000000
/-! The data layer, part 4: the operators, built-in functions, places. -/
namespace DL
open PySem L2
open Classical

/-! ### + - * // % ** -/
def hAdd : H2 := fun x y m => match x, y with
  | .int i, .int j => .ok (.int (i + j)) m
  | .str a, .str b => if a.length + b.length ≤ sizeLine then .ok (.str (a ++ b)) m else .bad
  | .tup xs, .tup ys => if xs.length + ys.length ≤ sizeLine then .ok (.tup (xs ++ ys)) m else .bad
  | x, y => match lstE m x, lstE m y with
    | some xs, some ys => if xs.length + ys.length ≤ sizeLine then .ok (.lst (xs ++ ys)) m else .bad
    | _, _ => .bad
def rAddA (K : PySem.W.Frag) : R2 := fun x y H Q => rI0 (fun i j => .int (i + j)) x y H Q ∨ (∃ i j, x = .str i ∧ y = .str j ∧ i.length + j.length ≤ sizeLine ∧ Q (.str (i ++ j)) H) ∨ rCatA K x y H Q ∨ rCat x y H Q
section
variable {X : Cx}
theorem op_addA : OpR X (binaryOp .Add) (rAddA X.K) := op_add.or (op_add_str.or (op_catA.or op_cat))
theorem sd_catL {K : PySem.W.Frag} {W : WX} {σ : St} {g : Gh} {m : Mem} {x y : V} {dx dy : D} {Q : VK} (rp : Rep K g m) (ix : IsG K g m x dx) (iy : IsG K g m y dy)
    (q : Pre (RE K) K W σ g m Q (match lstE m dx, lstE m dy with
      | some xs, some ys => if xs.length + ys.length ≤ sizeLine then .ok (.lst (xs ++ ys)) m else .bad
      | _, _ => .bad)) : rCat x y g.H Q := by
  split at q
  · rename_i xs ys ex ey
    split at q
    · rename_i hz
      obtain ⟨a, vs, rfl, h1, h2, h3⟩ := lstE_ok rp ix ex
      obtain ⟨b, ws, rfl, k1, k2, k3⟩ := lstE_ok rp iy ey
      have e1 := h3.length
      have e2 := k3.length
      exact ⟨a, b, vs, ws, rfl, rfl, h1, k1, by omega, pre_newL rp q (by rw [List.length_append]; omega) (h3.append k3)⟩
    · exact q.elim
  · exact q.elim
theorem sd_add (K : PySem.W.Frag) : OpSd K (rAddA K) hAdd := by
  intro W σ g m x y dx dy Q rp ix iy q
  unfold hAdd at q
  split at q
  · cases ix; cases iy
    exact .inl ⟨_, _, rfl, rfl, pre_val rp q (.int _)⟩
  · split at q
    · rename_i hz
      cases ix; cases iy
      exact .inr (.inl ⟨_, _, rfl, rfl, hz, pre_val rp q (.str _)⟩)
    · exact q.elim
  · split at q
    · rename_i xs ys hz
      cases ix with
      | tup s1 z1 l1 =>
        cases iy with
        | tup s2 z2 l2 =>
          rename_i a vs b ws
          have e1 := l1.length
          have e2 := l2.length
          refine .inr (.inr (.inl ⟨_, _, _, _, rfl, rfl, rp.sqT s1, rp.sqT s2, by omega, fun e => ?_, fun _ e => ?_, fun _ _ p hp => ?_⟩))
          · subst e
            cases l1
            exact pre_val rp q (.tup s2 z2 l2)
          · subst e
            cases l2
            rw [List.append_nil] at q
            exact pre_val rp q (.tup s1 z1 l1)
          · exact pre_newT rp q (by rw [List.length_append]; omega) (l1.append l2) p hp
    · exact q.elim
  · exact .inr (.inr (.inr (sd_catL rp ix iy q)))
theorem pd_add {W : WX} {a b : Expr} {fa fb : FE} {pos : Pos} (ha : PD X W a fa) (hb : PD X W b fb) : PD X W (.BinOp a .Add b pos) (eOp hAdd fa fb) := pd_op op_addA (sd_add X.K) ha hb

/-- an operator of two ints under a condition -/
noncomputable def hI (C : Int → Int → Prop) (f : Int → Int → D) : H2 := fun x y m => match x, y with
  | .int i, .int j => if C i j then .ok (f i j) m else .bad
  | _, _ => .bad
theorem sd_I (K : PySem.W.Frag) (C : Int → Int → Prop) (f : Int → Int → Int) : OpSd K (rI C fun i j => .int (f i j)) (hI C fun i j => .int (f i j)) := by
  intro W σ g m x y dx dy Q rp ix iy q
  unfold hI at q
  split at q
  · split at q
    · rename_i hc
      cases ix; cases iy
      exact ⟨_, _, rfl, rfl, hc, pre_val rp q (.int _)⟩
    · exact q.elim
  · exact q.elim
noncomputable abbrev hSub : H2 := hI (fun _ _ => True) fun i j => .int (i - j)
theorem op_subT : OpR X (binaryOp .Sub) (rI (fun _ _ => True) fun i j => .int (i - j)) := opI fun _ _ _ _ _ _ _ _ q => PyProof.Rows.sub_int q
theorem pd_sub {W : WX} {a b : Expr} {fa fb : FE} {pos : Pos} (ha : PD X W a fa) (hb : PD X W b fb) : PD X W (.BinOp a .Sub b pos) (eOp hSub fa fb) := pd_op op_subT (sd_I X.K _ _) ha hb
noncomputable abbrev hFdiv : H2 := hI CDivW fun i j => .int (i / j)
theorem pd_fdiv {W : WX} {a b : Expr} {fa fb : FE} {pos : Pos} (ha : PD X W a fa) (hb : PD X W b fb) : PD X W (.BinOp a .FloorDiv b pos) (eOp hFdiv fa fb) := pd_op op_fdivW (sd_I X.K _ _) ha hb
noncomputable abbrev hMod : H2 := hI (fun _ j => 0 < j) fun i j => .int (i % j)
theorem pd_mod {W : WX} {a b : Expr} {fa fb : FE} {pos : Pos} (ha : PD X W a fa) (hb : PD X W b fb) : PD X W (.BinOp a .Mod b pos) (eOp hMod fa fb) := pd_op op_mod (sd_I X.K _ _) ha hb
noncomputable abbrev hPow : H2 := hI CPow fun i j => .int (i ^ j.toNat)
theorem pd_pow {W : WX} {a b : Expr} {fa fb : FE} {pos : Pos} (ha : PD X W a fa) (hb : PD X W b fb) : PD X W (.BinOp a .Pow b pos) (eOp hPow fa fb) := pd_op op_pow (sd_I X.K _ _) ha hb
/-- * of ints, a list times an int -/
noncomputable def hMul : H2 := fun x y m => match x, y with
  | .int i, .int j => if CMul i j ∨ CMulW i j then .ok (.int (i * j)) m else .bad
  | x, .int k => match lstE m x with
    | some xs => if -(2 ^ 63) ≤ k ∧ k < 2 ^ 63 ∧ xs.length * k.toNat ≤ sizeLine then .ok (.lst (List.replicate k.toNat xs).flatten) m else .bad
    | none => .bad
  | _, _ => .bad
def rMulA : R2 := fun x y H Q => rI CMul (fun i j => .int (i * j)) x y H Q ∨ rI CMulW (fun i j => .int (i * j)) x y H Q ∨ rRep x y H Q
theorem op_mulA : OpR X (binaryOp .Mult) rMulA := op_mul.or (op_mulW.or op_rep)
theorem IsL.rep {K : PySem.W.Frag} {F : Hp} {al : Nat → Addr} {n : Nat} {vs : List V} {ds : List D} (h : IsL K F al n vs ds) : ∀ k : Nat, IsL K F al n (List.replicate k vs).flatten (List.replicate k ds).flatten
  | 0 => .nil
  | k + 1 => by rw [List.replicate_succ, List.replicate_succ, List.flatten_cons, List.flatten_cons]; exact h.append (IsL.rep h k)
theorem sd_mul (K : PySem.W.Frag) : OpSd K rMulA hMul := by
  intro W σ g m x y dx dy Q rp ix iy q
  unfold hMul at q
  split at q
  · split at q
    · rename_i hc
      cases ix; cases iy
      rcases hc with hc | hc
      · exact .inl ⟨_, _, rfl, rfl, hc, pre_val rp q (.int _)⟩
      · exact .inr (.inl ⟨_, _, rfl, rfl, hc, pre_val rp q (.int _)⟩)
    · exact q.elim
  · split at q
    · rename_i xs ex
      split at q
      · rename_i hc
        obtain ⟨a, vs, rfl, h1, h2, h3⟩ := lstE_ok rp ix ex
        cases iy
        have e1 := h3.length
        refine .inr (.inr ⟨a, _, vs, rfl, rfl, h1, hc.1, hc.2.1, by rw [e1]; exact hc.2.2, pre_newL rp q ?_ (h3.rep _)⟩)
        rw [PyProof.Rows.lm_len_rep_flat, Nat.mul_comm, e1]
        exact hc.2.2
      · exact q.elim
    · exact q.elim
  · exact q.elim
theorem pd_mul {W : WX} {a b : Expr} {fa fb : FE} {pos : Pos} (ha : PD X W a fa) (hb : PD X W b fb) : PD X W (.BinOp a .Mult b pos) (eOp hMul fa fb) := pd_op op_mulA (sd_mul X.K) ha hb
def hNeg : H1 := fun x m => match x with
  | .int i => .ok (.int (-i)) m
  | _ => .bad
theorem pd_neg {W : WX} {a : Expr} {fa : FE} {pos : Pos} (ha : PD X W a fa) : PD X W (.UnaryOp .USub a pos) (eUn hNeg fa) := by
  refine pd_un un_neg (fun W σ g m x dx Q rp ix q => ?_) ha
  unfold hNeg at q
  split at q
  · cases ix; exact ⟨_, rfl, pre_val rp q (.int _)⟩
  · exact q.elim

/-! ### < <= > >= -/
def hCmp (p : Int → Int → Bool) : H2 := fun x y m => match x, y with
  | .int i, .int j => .ok (.bl (p i j)) m
  | _, _ => .bad
theorem sd_cmp (K : PySem.W.Frag) (p : Int → Int → Bool) : OpSd K (rI0 fun i j => .bl (p i j)) (hCmp p) := by
  intro W σ g m x y dx dy Q rp ix iy q
  unfold hCmp at q
  split at q
  · cases ix; cases iy
    exact ⟨_, _, rfl, rfl, pre_val rp q (.bl _)⟩
  · exact q.elim
abbrev hLt : H2 := hCmp fun i j => decide (i < j)
abbrev hLe : H2 := hCmp fun i j => decide (i ≤ j)
abbrev hGt : H2 := hCmp fun i j => decide (j < i)
abbrev hGe : H2 := hCmp fun i j => decide (j ≤ i)

/-! ### == and != of plain data -/
mutual
def toPy (m : Mem) : D → Option PyData
  | .non => some .none
  | .bl b => some (.bool b)
  | .int i => some (.int i)
  | .str x => some (.str x)
  | .tup xs => (toPyL m xs).map .tuple
  | .stup xs => (toPyL m xs).map .tuple
  | .lst xs => (toPyL m xs).map .list
  | _ => none
def toPyL (m : Mem) : List D → Option (List PyData)
  | [] => some []
  | d :: ds => match toPy m d, toPyL m ds with
    | some a, some r => some (a :: r)
    | _, _ => none
end
section
variable {K : PySem.W.Frag} {g : Gh} {m : Mem}
mutual
theorem toPy_ok (rp : Rep K g m) : ∀ {v : V} {d : D} {a : PyData}, IsG K g m v d → toPy m d = some a → Dp K g.H v a
  | _, _, _, .non, h => by simp only [toPy] at h; cases h; exact .non
  | _, _, _, .bl b, h => by simp only [toPy] at h; cases h; exact .bl b
  | _, _, _, .int b, h => by simp only [toPy] at h; cases h; exact .int b
  | _, _, _, .str b, h => by simp only [toPy] at h; cases h; exact .str b
  | _, _, _, .ty _, h => by simp only [toPy] at h; cases h
  | _, _, _, .glo _, h => by simp only [toPy] at h; cases h
  | _, _, _, .lst s _ l, h => by
    simp only [toPy] at h
    obtain ⟨r, h1, rfl⟩ := Option.map_eq_some_iff.mp h
    exact .lst (SqL.of (rp.at_ s fun z => z)) (toPyL_ok rp l h1)
  | _, _, _, .slst _ _ _, h => by simp only [toPy] at h; cases h
  | _, _, _, .tup s _ l, h => by
    simp only [toPy] at h
    obtain ⟨r, h1, rfl⟩ := Option.map_eq_some_iff.mp h
    exact .tup (rp.sqT s) (toPyL_ok rp l h1)
  | _, _, _, .stup s _ l, h => by
    simp only [toPy] at h
    obtain ⟨r, h1, rfl⟩ := Option.map_eq_some_iff.mp h
    exact .tup (sqS s) (toPyL_ok rp l h1)
  | _, _, _, .dK _ _ _, h => by simp only [toPy] at h; cases h
  | _, _, _, .dT _ _ _, h => by simp only [toPy] at h; cases h
  | _, _, _, .ins _ _ _, h => by simp only [toPy] at h; cases h
  | _, _, _, .mref _, h => by simp only [toPy] at h; cases h
theorem toPyL_ok (rp : Rep K g m) : ∀ {v : List V} {d : List D} {a : List PyData}, IsGL K g m v d → toPyL m d = some a → DpAll K g.H v a
  | _, _, _, .nil, h => by simp only [toPyL] at h; cases h; exact .nil
  | _, _, _, .cons i t, h => by
    simp only [toPyL] at h
    split at h
    · rename_i a r e1 e2
      cases h
      exact .cons (toPy_ok rp i e1) (toPyL_ok rp t e2)
    · cases h
end
end
/-- a value as plain data, a mutable list as what it holds -/
def toPyM (m : Mem) (d : D) : Option PyData := match d with
  | .mref _ => match lstE m d with
    | some xs => (toPyL m xs).map .list
    | none => none
  | d => toPy m d
theorem toPyM_ok {K : PySem.W.Frag} {g : Gh} {m : Mem} (rp : Rep K g m) {v : V} {d : D} {a : PyData} (iv : IsG K g m v d) (h : toPyM m d = some a) : Dp K g.H v a := by
  unfold toPyM at h
  split at h
  · split at h
    · rename_i xs e
      obtain ⟨r, h1, rfl⟩ := Option.map_eq_some_iff.mp h
      obtain ⟨b, vs, rfl, h2, h3, h4⟩ := lstE_ok rp iv e
      exact .lst (SqL.of h2) (toPyL_ok rp h4 h1)
    · cases h
  · exact toPy_ok rp iv h
def hEqP (neg : Bool) : H2 := fun x y m => match toPyM m x, toPyM m y with
  | some a, some b => if SeqAt.shaped a = true ∧ SeqAt.shaped b = true then .ok (.bl (if neg then !PyData.eqv a b else PyData.eqv a b)) m else .bad
  | _, _ => .bad
theorem sd_eqP (K : PySem.W.Frag) : OpSd K (rEqD K) (hEqP false) := by
  intro W σ g m x y dx dy Q rp ix iy q
  unfold hEqP at q
  split at q
  · rename_i a b ea eb
    split at q
    · rename_i hs
      exact ⟨a, b, toPyM_ok rp ix ea, toPyM_ok rp iy eb, hs.1, hs.2, pre_val rp q (.bl _)⟩
    · exact q.elim
  · exact q.elim
theorem sd_neP (K : PySem.W.Frag) : OpSd K (rNeD K) (hEqP true) := by
  intro W σ g m x y dx dy Q rp ix iy q
  unfold hEqP at q
  split at q
  · rename_i a b ea eb
    split at q
    · rename_i hs
      exact ⟨a, b, toPyM_ok rp ix ea, toPyM_ok rp iy eb, hs.1, hs.2, pre_val rp q (.bl _)⟩
    · exact q.elim
  · exact q.elim

/-! ### in, not in: a text in a text; a scalar in a list or tuple of scalars -/
def flatD : D → Bool
  | .non => true
  | .bl _ => true
  | .int _ => true
  | .str _ => true
  | _ => false
def toV : D → V
  | .bl b => .bl b
  | .int i => .int i
  | .str x => .str x
  | _ => .non
def hIn (neg : Bool) : H2 := fun x y m => match x, y with
  | .str a, .str b => .ok (.bl (if neg then !(!(Builtin.Str.occurrences b a 0 b.length 1).isEmpty) else !(Builtin.Str.occurrences b a 0 b.length 1).isEmpty)) m
  | x, y => match seqV m y with
    | some ys => if flatD x = true ∧ ys.all flatD = true then .ok (.bl (if neg then !inV (toV x) (ys.map toV) else inV (toV x) (ys.map toV))) m else .bad
    | none => .bad
def rInA (K : PySem.W.Frag) (neg : Bool) : R2 := fun x y H Q => (∃ i j, x = .str i ∧ y = .str j ∧ Q (.bl (if neg then !(!(Builtin.Str.occurrences j i 0 j.length 1).isEmpty) else !(Builtin.Str.occurrences j i 0 j.length 1).isEmpty)) H) ∨ rIn K neg x y H Q
theorem op_inA : OpR X (compareOp .In) (rInA X.K false) := op_in_str.or op_in_seq
theorem op_notInA : OpR X (compareOp .NotIn) (rInA X.K true) := op_notin_str.or op_notIn_seq
theorem flat_toV {K : PySem.W.Frag} {F : Hp} {al : Nat → Addr} {n : Nat} {v : V} {d : D} (h : Is K F al n v d) (f : flatD d = true) : v = toV d ∧ flatV v = true := by
  cases h <;> simp only [flatD] at f <;> first | (cases f; done) | exact ⟨rfl, rfl⟩
theorem flat_toVL {K : PySem.W.Frag} {F : Hp} {al : Nat → Addr} {n : Nat} : ∀ {vs : List V} {ds : List D}, IsL K F al n vs ds → ds.all flatD = true → vs = ds.map toV ∧ vs.all flatV = true
  | _, _, .nil, _ => ⟨rfl, rfl⟩
  | _, _, .cons h t, f => by
    rw [List.all_cons, Bool.and_eq_true] at f
    obtain ⟨e1, f1⟩ := flat_toV h f.1
    obtain ⟨e2, f2⟩ := flat_toVL t f.2
    exact ⟨by rw [List.map_cons, e1, e2], by rw [List.all_cons, f1, f2]; rfl⟩
theorem sd_in (K : PySem.W.Frag) (neg : Bool) : OpSd K (rInA K neg) (hIn neg) := by
  intro W σ g m x y dx dy Q rp ix iy q
  unfold hIn at q
  split at q
  · cases ix; cases iy
    exact .inl ⟨_, _, rfl, rfl, pre_val rp q (.bl _)⟩
  · split at q
    · rename_i ys e
      split at q
      · rename_i hf
        obtain ⟨a, vs, rfl, h1, h2, h3⟩ := seqV_ok rp iy e
        obtain ⟨e1, f1⟩ := flat_toV ix hf.1
        obtain ⟨e2, f2⟩ := flat_toVL h3 hf.2
        refine .inr ⟨a, vs, rfl, h1, f1, f2, ?_⟩
        rw [e1, e2]
        exact pre_val rp q (.bl _)
      · exact q.elim
    · exact q.elim

/-! ### is -/
def isNon : D → Bool
  | .non => true
  | _ => false
def hIsN (neg : Bool) : H2 := fun x y m => match x, y with
  | x, .non => .ok (.bl (if neg then !isNon x else isNon x)) m
  | .bl a, .bl b => .ok (.bl (if neg then !decide (a = b) else decide (a = b))) m
  | _, _ => .bad
def rIsA (neg : Bool) : R2 := fun x y H Q => (y = .non ∧ Q (.bl (if neg then !decide (x = .non) else decide (x = .non))) H) ∨ (∃ a b, x = .bl a ∧ y = .bl b ∧ Q (.bl (if neg then !decide (a = b) else decide (a = b))) H)
theorem op_isA : OpR X (compareOp .Is) (rIsA false) := op_isN.or op_isBl
theorem op_isNotA : OpR X (compareOp .IsNot) (rIsA true) := op_notN.or op_notBl
theorem non_dec {K : PySem.W.Frag} {F : Hp} {al : Nat → Addr} {n : Nat} {v : V} {d : D} (h : Is K F al n v d) : decide (v = .non) = isNon d := by
  cases h <;> simp [isNon]
theorem sd_is (K : PySem.W.Frag) (neg : Bool) : OpSd K (rIsA neg) (hIsN neg) := by
  intro W σ g m x y dx dy Q rp ix iy q
  unfold hIsN at q
  split at q
  · cases iy
    refine .inl ⟨rfl, ?_⟩
    have e := non_dec ix
    rw [e]
    exact pre_val rp q (.bl _)
  · cases ix; cases iy
    exact .inr ⟨_, _, rfl, rfl, pre_val rp q (.bl _)⟩
  · exact q.elim

/-! ### built-in functions of values -/
theorem pd_cb {W : WX} {id : String} {r : List V → Hp → VK → Prop} {h : HL} {x : Str} {e : Expr} {es : List Expr} {f : FA} {p pos : Pos} (hc : CallR X (.builtin id) r) (hs : CaSd X.K r h) (hg : Gl X x) (hm : X.mg x = none) (hv : bootBuiltins x = some (.builtin id)) (ha : PDA X W (e :: es) f)
    (hn : x ≠ "__name__" := by decide) (hdb : (x == ("__debug__" : Str)) = false := by decide) (he : starEach (e :: es) X.env = (false, eval e X.env) :: starEach es X.env := by rfl) (hpl : (backTo pos (starEach es X.env)).any (·.1) = false := by rfl) :
    PD X W (.Call (.Name x p) (e :: es) [] pos) (eCB h f) := by
  obtain ⟨t, pt, s⟩ := ha.ex
  exact ⟨⟨_, pe_callB hc hg hm hv pt hn hdb he hpl, fun g m σ ρ Q rp en q => s g m σ ρ _ rp en (pre_bind q fun g1 m1 x dx rp1 l1 ix q1 => hs W σ g1 m1 x dx Q rp1 ix q1)⟩⟩
theorem pd_ct {W : WX} {T : String} {r : List V → Hp → VK → Prop} {h : HL} {x : Str} {e : Expr} {es : List Expr} {f : FA} {p pos : Pos} (hc : CallR X (.type T) r) (hs : CaSd X.K r h) (hg : Gl X x) (hm : X.mg x = none) (hv : bootBuiltins x = some (.type T)) (ha : PDA X W (e :: es) f)
    (hn : x ≠ "__name__" := by decide) (hdb : (x == ("__debug__" : Str)) = false := by decide) (he : starEach (e :: es) X.env = (false, eval e X.env) :: starEach es X.env := by rfl) (hpl : (backTo pos (starEach es X.env)).any (·.1) = false := by rfl) :
    PD X W (.Call (.Name x p) (e :: es) [] pos) (eCB h f) := by
  obtain ⟨t, pt, s⟩ := ha.ex
  exact ⟨⟨_, pe_callTy hc hg hm hv pt hn hdb he hpl, fun g m σ ρ Q rp en q => s g m σ ρ _ rp en (pre_bind q fun g1 m1 x dx rp1 l1 ix q1 => hs W σ g1 m1 x dx Q rp1 ix q1)⟩⟩
def dicV (m : Mem) : D → Option Nat
  | .dK kvs => some kvs.length
  | .dT kvs => some kvs.length
  | .mref i => match m[i]? with
    | some (.dK kvs) => some kvs.length
    | some (.lkK kvs) => some kvs.length
    | some (.dT kvs) => some kvs.length
    | some (.lkT kvs) => some kvs.length
    | _ => none
  | _ => none
/-- len of a list, a tuple, a text -/
def hLen : HL := fun ds m => match ds with
  | [.str x] => if x.length ≤ sizeLine then .ok (.int x.length) m else .bad
  | [d] => match seqV m d with
    | some xs => .ok (.int xs.length) m
    | none => .bad
  | _ => .bad
theorem call_lenA : CallR X (.builtin "len") (fun xs H Q => (∃ p ys, xs = [.ref p] ∧ (SqL X.K H p ys ∨ SqT X.K H p ys) ∧ Q (.int ys.length) H) ∨ (∃ z, xs = [.str z] ∧ z.length ≤ sizeLine ∧ Q (.int z.length) H)) := call_len_seq.or call_len_str
theorem sd_len (K : PySem.W.Frag) : CaSd K (fun xs H Q => (∃ p ys, xs = [.ref p] ∧ (SqL K H p ys ∨ SqT K H p ys) ∧ Q (.int ys.length) H) ∨ (∃ z, xs = [.str z] ∧ z.length ≤ sizeLine ∧ Q (.int z.length) H)) hLen := by
  intro W σ g m xs ds Q rp ix q
  unfold hLen at q
  split at q
  · split at q
    · rename_i hz
      cases ix with
      | cons h t => cases t; cases h; exact .inr ⟨_, rfl, hz, pre_val rp q (.int _)⟩
    · exact q.elim
  · split at q
    · rename_i ys e
      cases ix with
      | cons h t =>
        cases t
        obtain ⟨a, vs, rfl, h1, h2, h3⟩ := seqV_ok rp h e
        refine .inl ⟨a, vs, rfl, h1, ?_⟩
        rw [h3.length]
        exact pre_val rp q (.int _)
    · exact q.elim
  · exact q.elim
/-- list(..) and tuple(..) of a list or tuple; the list frozen or kept mutable -/
def hList : HL := fun ds m => match ds with
  | [d] => match seqV m d with
    | some xs => .ok (.lst xs) m
    | none => .bad
  | _ => .bad
def hListM : HL := fun ds m => match ds with
  | [d] => match seqV m d with
    | some xs => .ok (.mref m.length) (m ++ [.lst xs])
    | none => .bad
  | _ => .bad
theorem sd_list (K : PySem.W.Frag) : CaSd K (fun xs H Q => ∃ p ys, xs = [.ref p] ∧ (SqL K H p ys ∨ SqT K H p ys) ∧ ∀ l, H l = none → Q (.ref l) (upd H l (.lst ys))) hList := by
  intro W σ g m xs ds Q rp ix q
  unfold hList at q
  split at q
  · split at q
    · rename_i ys e
      cases ix with
      | cons h t =>
        cases t
        obtain ⟨a, vs, rfl, h1, h2, h3⟩ := seqV_ok rp h e
        exact ⟨a, vs, rfl, h1, pre_newL rp q h2 h3⟩
    · exact q.elim
  · exact q.elim
theorem sd_listM (K : PySem.W.Frag) : CaSd K (fun xs H Q => ∃ p ys, xs = [.ref p] ∧ (SqL K H p ys ∨ SqT K H p ys) ∧ ∀ l, H l = none → Q (.ref l) (upd H l (.lst ys))) hListM := by
  intro W σ g m xs ds Q rp ix q
  unfold hListM at q
  split at q
  · split at q
    · rename_i ys e
      cases ix with
      | cons h t =>
        cases t
        obtain ⟨a, vs, rfl, h1, h2, h3⟩ := seqV_ok rp h e
        exact ⟨a, vs, rfl, h1, pre_newM rp q h2 h3⟩
    · exact q.elim
  · exact q.elim
def hTuple : HL := fun ds m => match ds with
  | [.tup xs] => .ok (.tup xs) m
  | [d] => match lstV m d with
    | some xs => .ok (.tup xs) m
    | none => .bad
  | _ => .bad
theorem sd_tuple (K : PySem.W.Frag) : CaSd K (fun xs H Q => ∃ p ys, xs = [.ref p] ∧ ((SqL K H p ys ∧ ∀ l, H l = none → Q (.ref l) (upd H l (.tup ys))) ∨ (SqT K H p ys ∧ Q (.ref p) H))) hTuple := by
  intro W σ g m xs ds Q rp ix q
  unfold hTuple at q
  split at q
  · cases ix with
    | cons h t =>
      cases t
      cases h with
      | tup s z l => exact ⟨_, _, rfl, .inr ⟨rp.sqT s, pre_val rp q (.tup s z l)⟩⟩
  · split at q
    · rename_i ys e
      cases ix with
      | cons h t =>
        cases t
        obtain ⟨a, vs, rfl, h1, h2, h3⟩ := lstV_ok rp h e
        exact ⟨a, vs, rfl, .inl ⟨h1, pre_newT rp q h2 h3⟩⟩
    · exact q.elim
  · exact q.elim
def hInt : HL := fun ds m => match ds with
  | [.int i] => .ok (.int i) m
  | [.bl b] => .ok (.int (if b then 1 else 0)) m
  | _ => .bad
theorem sd_int (K : PySem.W.Frag) : CaSd K (fun xs H Q => (∃ i, xs = [.int i] ∧ Q (.int i) H) ∨ ∃ k, xs = [.bl k] ∧ Q (.int (if k then 1 else 0)) H) hInt := by
  intro W σ g m xs ds Q rp ix q
  unfold hInt at q
  split at q
  · cases ix with | cons h t => cases t; cases h; exact .inl ⟨_, rfl, pre_val rp q (.int _)⟩
  · cases ix with | cons h t => cases t; cases h; exact .inr ⟨_, rfl, pre_val rp q (.int _)⟩
  · exact q.elim
def hAbs : HL := fun ds m => match ds with
  | [.int i] => .ok (.int (if i < 0 then -i else i)) m
  | _ => .bad
theorem sd_abs (K : PySem.W.Frag) : CaSd K (fun xs H Q => ∃ i, xs = [.int i] ∧ Q (.int (if i < 0 then -i else i)) H) hAbs := by
  intro W σ g m xs ds Q rp ix q
  unfold hAbs at q
  split at q
  · cases ix with | cons h t => cases t; cases h; exact ⟨_, rfl, pre_val rp q (.int _)⟩
  · exact q.elim
/-- all, any of a list of truth values; sum of ints -/
def blsV : List D → Option (List Bool)
  | [] => some []
  | .bl b :: r => (blsV r).map (b :: ·)
  | _ :: _ => none
def intsV : List D → Option (List Int)
  | [] => some []
  | .int b :: r => (intsV r).map (b :: ·)
  | _ :: _ => none
theorem blsV_ok {K : PySem.W.Frag} {F : Hp} {al : Nat → Addr} {n : Nat} : ∀ {vs : List V} {ds : List D} {bs : List Bool}, IsL K F al n vs ds → blsV ds = some bs → vs = bs.map V.bl
  | _, _, _, .nil, h => by simp only [blsV] at h; cases h; rfl
  | _, _, _, .cons i t, h => by
    cases i <;> simp only [blsV] at h <;> try (cases h; done)
    obtain ⟨r, h1, rfl⟩ := Option.map_eq_some_iff.mp h
    rw [blsV_ok t h1]
    rfl
theorem intsV_ok {K : PySem.W.Frag} {F : Hp} {al : Nat → Addr} {n : Nat} : ∀ {vs : List V} {ds : List D} {bs : List Int}, IsL K F al n vs ds → intsV ds = some bs → vs = bs.map V.int
  | _, _, _, .nil, h => by simp only [intsV] at h; cases h; rfl
  | _, _, _, .cons i t, h => by
    cases i <;> simp only [intsV] at h <;> try (cases h; done)
    obtain ⟨r, h1, rfl⟩ := Option.map_eq_some_iff.mp h
    rw [intsV_ok t h1]
    rfl
def hBls (f : List Bool → Bool) : HL := fun ds m => match ds with
  | [d] => match lstV m d with
    | some xs => match blsV xs with
      | some bs => .ok (.bl (f bs)) m
      | none => .bad
    | none => .bad
  | _ => .bad
theorem sd_bls (K : PySem.W.Frag) (f : List Bool → Bool) : CaSd K (fun vs H Q => ∃ (a : Addr) (bs : List Bool), vs = [V.ref a] ∧ SqL K H a (bs.map V.bl) ∧ Q (.bl (f bs)) H) (hBls f) := by
  intro W σ g m xs ds Q rp ix q
  unfold hBls at q
  split at q
  · split at q
    · rename_i ys e
      split at q
      · rename_i bs eb
        cases ix with
        | cons h t =>
          cases t
          obtain ⟨a, vs, rfl, h1, h2, h3⟩ := lstV_ok rp h e
          have ev := blsV_ok h3 eb
          subst ev
          exact ⟨a, bs, rfl, h1, pre_val rp q (.bl _)⟩
      · exact q.elim
    · exact q.elim
  · exact q.elim
def hSum : HL := fun ds m => match ds with
  | [d] => match lstV m d with
    | some xs => match intsV xs with
      | some bs => .ok (.int bs.sum) m
      | none => .bad
    | none => .bad
  | _ => .bad
theorem sd_sum (K : PySem.W.Frag) : CaSd K (rSum K) hSum := by
  intro W σ g m xs ds Q rp ix q
  unfold hSum at q
  split at q
  · split at q
    · rename_i ys e
      split at q
      · rename_i bs eb
        cases ix with
        | cons h t =>
          cases t
          obtain ⟨a, vs, rfl, h1, h2, h3⟩ := lstV_ok rp h e
          have ev := intsV_ok h3 eb
          subst ev
          exact ⟨a, bs, rfl, h1, pre_val rp q (.int _)⟩
      · exact q.elim
    · exact q.elim
  · exact q.elim

/-! ### places and slices -/
def hIx : H2 := fun x y m => match x, y with
  | .str z, .int i => if z.length ≤ sizeLine then (match atI z.cps.toList i with
    | some c => .ok (.str ⟨#[c]⟩) m
    | none => .bad) else .bad
  | x, .int i => match seqV m x with
    | some xs => (match atI xs i with
      | some d => .ok d m
      | none => .bad)
    | none => .bad
  | _, _ => .bad
theorem atI_is {K : PySem.W.Frag} {F : Hp} {al : Nat → Addr} {n : Nat} {vs : List V} {ds : List D} {i : Int} {d : D} (l : IsL K F al n vs ds) (h : atI ds i = some d) : ∃ v, atI vs i = some v ∧ Is K F al n v d := by
  unfold atI at h ⊢
  rw [l.length]
  cases e : ixN ds.length i with
  | none => rw [e] at h; cases h
  | some j =>
    rw [e] at h
    exact l.get h
theorem sd_ix (K : PySem.W.Frag) : OpSd K (rIx K) hIx := by
  intro W σ g m x y dx dy Q rp ix iy q
  unfold hIx at q
  split at q
  · split at q
    · rename_i hz
      split at q
      · rename_i c e
        cases ix; cases iy
        exact .inr (.inr ⟨_, _, _, rfl, rfl, hz, e, pre_val rp q (.str _)⟩)
      · exact q.elim
    · exact q.elim
  · split at q
    · rename_i xs e
      split at q
      · rename_i d ed
        obtain ⟨a, vs, rfl, h1, h2, h3⟩ := seqV_ok rp ix e
        cases iy
        obtain ⟨v, ev, iv⟩ := atI_is h3 ed
        rcases h1 with h1 | h1
        · exact .inl ⟨a, vs, _, v, rfl, rfl, h1, ev, pre_val rp q iv⟩
        · exact .inr (.inl ⟨a, vs, _, v, rfl, rfl, h1, ev, pre_val rp q iv⟩)
      · exact q.elim
    · exact q.elim
  · exact q.elim
theorem pd_ix {W : WX} {a b : Expr} {fa fb : FE} {pos : Pos} (ha : PD X W a fa) (hb : PD X W b fb) (hs : PlainIx b := by exact fun _ _ => rfl) : PD X W (.Subscript a b pos) (eOp hIx fa fb) := by
  obtain ⟨ta, pa, sa⟩ := ha.ex
  obtain ⟨tb, pb, sb⟩ := hb.ex
  exact ⟨⟨_, pe_ix ix_seq pa pb hs, sd_op (sd_ix X.K) sa sb⟩⟩
abbrev FO := EnvD → Mem → Res (Option Int)
def oNo : FO := fun _ m => .ok none m
def oSo (a : FE) : FO := fun ρ m => (a ρ m).bind fun x m1 => match x with
  | .int i => .ok (some i) m1
  | _ => .bad
abbrev RO : Gh → Mem → Option Int → Option Int → Prop := fun _ _ a b => a = b
structure PDO (X : Cx) (W : WX) (e : Option Expr) (f : FO) : Prop where
  ex : ∃ t, PO X e t ∧ ∀ g m σ ρ Q, Rep X.K g m → EnvOk X.K g m σ ρ → Pre RO X.K W σ g m Q (f ρ m) → t σ g.H Q
theorem pdo_no {W : WX} : PDO X W none oNo := ⟨⟨_, po_none, fun g m σ ρ Q rp en q => q g _ rp (Le.refl _ _) rfl⟩⟩
theorem pdo_so {W : WX} {e : Expr} {f : FE} (h : PD X W e f) : PDO X W (some e) (oSo f) := by
  obtain ⟨t, p, s⟩ := h.ex
  refine ⟨⟨_, po_some p, fun g m σ ρ Q rp en q => s g m σ ρ _ rp en (pre_bind q fun g1 m1 x dx rp1 l1 ix q1 => ?_)⟩⟩
  cases ix <;> first | exact q1.elim | exact ⟨_, rfl, q1 g1 _ rp1 (Le.refl _ _) rfl⟩
def cutD (xs : List D) (lo hi : Option Int) : List D := (xs.drop (HT.sIx xs.length 0 lo)).take (HT.sIx xs.length xs.length hi - HT.sIx xs.length 0 lo)
theorem cutD_is {K : PySem.W.Frag} {F : Hp} {al : Nat → Addr} {n : Nat} {vs : List V} {ds : List D} (l : IsL K F al n vs ds) (lo hi : Option Int) : IsL K F al n (cutV vs lo hi) (cutD ds lo hi) := by
  unfold cutV cutD
  rw [l.length]
  exact (l.drop _).take _
/-- x[lo:hi] of a tuple, of a list (frozen, or kept mutable) -/
def hSl (mu : Bool) (x : D) (lo hi : Option Int) (m : Mem) : Res D := match x with
  | .tup xs => .ok (.tup (cutD xs lo hi)) m
  | x => match lstV m x with
    | some xs => if mu then .ok (.mref m.length) (m ++ [.lst (cutD xs lo hi)]) else .ok (.lst (cutD xs lo hi)) m
    | none => .bad
def eSl (mu : Bool) (a : FE) (l h : FO) : FE := fun ρ m => (a ρ m).bind fun x m1 => (l ρ m1).bind fun lo m2 => (h ρ m2).bind fun hi m3 => hSl mu x lo hi m3
theorem whole_cut (xs : List D) (lo hi : Option Int) (h : HT.sIx xs.length 0 lo = 0 ∧ HT.sIx xs.length xs.length hi = xs.length) : cutD xs lo hi = xs := by
  unfold cutD
  rw [h.1, h.2, List.drop_zero, Nat.sub_zero, List.take_length]
theorem pd_slice {W : WX} (mu : Bool) {e : Expr} {f : FE} {lo hi : Option Expr} {fl fh : FO} {p2 pos : Pos} (he : PD X W e f) (hl : PDO X W lo fl) (hh : PDO X W hi fh) : PD X W (.Subscript e (.Slice lo hi none p2) pos) (eSl mu f fl fh) := by
  obtain ⟨t, p, s⟩ := he.ex
  obtain ⟨tl, pl, sl⟩ := hl.ex
  obtain ⟨th, ph, sh⟩ := hh.ex
  refine ⟨⟨_, pe_slice (sl_tupA.or sl_list) p pl ph, fun g m σ ρ Q rp en q => s g m σ ρ _ rp en (pre_bind q fun g1 m1 x dx rp1 l1 ix q1 => sl g1 m1 σ ρ _ rp1 (en.le l1) (pre_bind q1 fun g2 m2 lo lo' rp2 l2 el q2 =>
    sh g2 m2 σ ρ _ rp2 (en.le (l1.trans l2)) (pre_bind q2 fun g3 m3 hi hi' rp3 l3 eh q3 => ?_)))⟩⟩
  subst el
  subst eh
  have ix3 := (ix.le l2).le l3
  unfold hSl at q3
  split at q3
  · cases ix3 with
    | tup s z l =>
      rename_i a vs
      refine .inl ⟨_, _, rfl, rp3.sqT s, fun hw => ?_, fun _ p hp => ?_⟩
      · rw [l.length] at hw
        rw [whole_cut _ _ _ hw] at q3
        exact pre_val rp3 q3 (.tup s z l)
      · exact pre_newT rp3 q3 (Nat.le_trans (cutV_length _ _ _) z) (cutD_is l _ _) p hp
  · split at q3
    · rename_i xs ex
      obtain ⟨a, vs, rfl, h1, h2, h3⟩ := lstV_ok rp3 ix3 ex
      refine .inr ⟨a, vs, rfl, h1, fun p hp => ?_⟩
      split at q3
      · exact pre_newM rp3 q3 (Nat.le_trans (cutV_length _ _ _) h2) (cutD_is h3 _ _) p hp
      · exact pre_newL rp3 q3 (Nat.le_trans (cutV_length _ _ _) h2) (cutD_is h3 _ _) p hp
    · exact q3.elim
/-- x[::-1] -/
def hRev : H1 := fun x m => match lstV m x with
  | some xs => .ok (.lst xs.reverse) m
  | none => .bad
theorem pd_rev {W : WX} {e : Expr} {f : FE} {k : Nat} {p1 p2 p3 pos : Pos} (he : PD X W e f) : PD X W (.Subscript e (.Slice none none (some (.UnaryOp .USub (.Constant (.int 1) k p1) p2)) p3) pos) (eUn hRev f) := by
  obtain ⟨t, p, s⟩ := he.ex
  refine ⟨⟨_, pe_revL p, fun g m σ ρ Q rp en q => s g m σ ρ _ rp en (pre_bind q fun g1 m1 x dx rp1 l1 ix q1 => ?_)⟩⟩
  unfold hRev at q1
  split at q1
  · rename_i xs ex
    obtain ⟨a, vs, rfl, h1, h2, h3⟩ := lstV_ok rp1 ix ex
    exact ⟨a, vs, rfl, h1, pre_newL rp1 q1 (by rw [List.length_reverse]; exact h2) h3.reverse⟩
  · exact q1.elim
end
end DL
end
section
set_option maxRecDepth 100000
set_option maxHeartbeats 2000000
/-! The data layer, part 5: what is walked, targets, list comprehensions. -/
namespace DL
open PySem L2
open Classical

/-! ### the reading of a function of data -/
def cE (K : PySem.W.Frag) (W : WX) (f : FE) : TE := fun σ H Q => ∃ g m ρ, g.H = H ∧ Rep K g m ∧ EnvOk K g m σ ρ ∧ Pre (RE K) K W σ g m Q (f ρ m)
def cT (K : PySem.W.Frag) (W : WX) (f : FT) : TT := fun σ H Q => ∃ g m ρ, g.H = H ∧ Rep K g m ∧ EnvOk K g m σ ρ ∧ Pre RB K W σ g m Q (f ρ m)
theorem PD.can {X : Cx} {W : WX} {e : Expr} {f : FE} (h : PD X W e f) : PE X e (cE X.K W f) := by
  obtain ⟨t, p, s⟩ := h.ex
  refine ⟨fun pins s0 σ H Q I q => ?_⟩
  obtain ⟨g, m, ρ, rfl, rp, en, q⟩ := q
  exact p.run pins s0 σ g.H Q I (s g m σ ρ Q rp en q)
theorem sd_cE {K : PySem.W.Frag} {W : WX} {f : FE} : SdE K W (cE K W f) f := fun g m σ ρ Q rp en q => ⟨g, m, ρ, rfl, rp, en, q⟩
theorem PDT.can {X : Cx} {W : WX} {e : Expr} {f : FT} (h : PDT X W e f) : PT X e (cT X.K W f) := by
  obtain ⟨t, p, s⟩ := h.ex
  refine ⟨fun pins s0 σ H Q I q => ?_⟩
  obtain ⟨g, m, ρ, rfl, rp, en, q⟩ := q
  exact p.run pins s0 σ g.H Q I (s g m σ ρ Q rp en q)
theorem sd_cT {K : PySem.W.Frag} {W : WX} {f : FT} : SdT K W (cT K W f) f := fun g m σ ρ Q rp en q => ⟨g, m, ρ, rfl, rp, en, q⟩
theorem PE.or {X : Cx} {e : Expr} {t u : TE} (h : PE X e t) (h' : PE X e u) : PE X e (fun σ H Q => t σ H Q ∨ u σ H Q) := ⟨fun pins s σ H Q I q => q.elim (h.run pins s σ H Q I) (h'.run pins s σ H Q I)⟩
theorem PI.or {X : Cx} {tg e : Expr} {t u : TI} (h : PI X tg e t) (h' : PI X tg e u) : PI X tg e (fun σ H Q => t σ H Q ∨ u σ H Q) := ⟨fun pins s σ H Q I q => q.elim (h.run pins s σ H Q I) (h'.run pins s σ H Q I)⟩
theorem PS.or {X : Cx} {e : Stmt} {t u : TS} (h : PS X e t) (h' : PS X e u) : PS X e (fun D σ H => t D σ H ∨ u D σ H) := ⟨fun pins s σ H D I q => q.elim (h.run pins s σ H D I) (h'.run pins s σ H D I)⟩

/-! ### targets -/
abbrev FG := D → EnvD → Mem → Res EnvD
abbrev FGs := List D → EnvD → Mem → Res EnvD
/-- the slots outside of is are kept -/
def Sl (is : List Nat) (σ σ' : St) : Prop := σ'.length = σ.length ∧ ∀ j, j ∉ is → σ'[j]? = σ[j]?
theorem Sl.refl (is : List Nat) (σ : St) : Sl is σ σ := ⟨rfl, fun _ _ => rfl⟩
theorem Sl.trans {is js : List Nat} {σ σ1 σ2 : St} (a : Sl is σ σ1) (b : Sl js σ1 σ2) : Sl (is ++ js) σ σ2 :=
  ⟨b.1.trans a.1, fun j h => by rw [List.mem_append, not_or] at h; exact (b.2 j h.2).trans (a.2 j h.1)⟩
theorem wipe_get (σ : St) : ∀ (vs : List Nat) (j : Nat), (wipe σ vs)[j]? = if j ∈ vs ∧ j < σ.length then some none else σ[j]?
  | [], j => by simp [wipe]
  | v :: vs, j => by
    unfold wipe
    by_cases hj : v = j
    · subst hj
      by_cases hl : v < σ.length
      · rw [List.getElem?_set_self (by rw [wipe_length]; exact hl), if_pos ⟨by simp, hl⟩]
      · rw [if_neg (fun z => hl z.2), List.getElem?_eq_none (by rw [List.length_set, wipe_length]; omega), List.getElem?_eq_none (by omega)]
    · rw [List.getElem?_set_ne hj, wipe_get σ vs j]
      have e : (j ∈ v :: vs) ↔ j ∈ vs := by rw [List.mem_cons]; exact ⟨fun z => z.resolve_left (fun q => hj q.symm), .inr⟩
      simp only [e]
theorem Sl.wipe {is vs : List Nat} {σ σ' : St} (h : Sl is σ σ') (hs : ∀ i ∈ is, i ∈ vs) : wipe σ' vs = wipe σ vs := by
  apply List.ext_getElem?
  intro j
  rw [wipe_get, wipe_get, h.1]
  by_cases hj : j ∈ vs
  · by_cases hl : j < σ.length
    · rw [if_pos ⟨hj, hl⟩, if_pos ⟨hj, hl⟩]
    · rw [if_neg (fun z => hl z.2), if_neg (fun z => hl z.2), List.getElem?_eq_none (by rw [h.1]; omega), List.getElem?_eq_none (by omega)]
  · rw [if_neg (fun z => hj z.1), if_neg (fun z => hj z.1)]
    exact h.2 j fun z => hj (hs j z)
theorem wipe_wipe (σ : St) (vs : List Nat) : wipe (wipe σ vs) vs = wipe σ vs := by
  apply List.ext_getElem?
  intro j
  rw [wipe_get, wipe_get, wipe_length]
  split <;> rfl
abbrev RG (K : PySem.W.Frag) (is : List Nat) (σ : St) : Gh → Mem → St → EnvD → Prop := fun g m σ' ρ' => EnvOk K g m σ' ρ' ∧ Sl is σ σ'
def SdG (K : PySem.W.Frag) (W : WX) (t : TG) (f : FG) (is : List Nat) : Prop := ∀ g m σ ρ v d (Q : St → Hp → Prop), Rep K g m → EnvOk K g m σ ρ → IsG K g m v d → Pre (RG K is σ) K W σ g m Q (f d ρ m) → t v σ g.H Q
def SdGs (K : PySem.W.Frag) (W : WX) (t : TGs) (f : FGs) (is : List Nat) : Prop := ∀ g m σ ρ v d (Q : St → Hp → Prop), Rep K g m → EnvOk K g m σ ρ → IsGL K g m v d → Pre (RG K is σ) K W σ g m Q (f d ρ m) → t v σ g.H Q
structure PDG (X : Cx) (W : WX) (tg : Expr) (f : FG) (is : List Nat) : Prop where
  ex : ∃ t, PG X tg t ∧ SdG X.K W t f is
structure PDGs (X : Cx) (W : WX) (tg : List Expr) (f : FGs) (is : List Nat) : Prop where
  ex : ∃ t, PGs X tg t ∧ SdGs X.K W t f is
def gN (i : Nat) : FG := fun d ρ m => .ok (ρ.set i (some d)) m
def gsNil : FGs := fun ds ρ m => match ds with
  | [] => .ok ρ m
  | _ => .bad
def gsCons (f : FG) (r : FGs) : FGs := fun ds ρ m => match ds with
  | d :: ds => (f d ρ m).bind fun ρ1 m1 => r ds ρ1 m1
  | [] => .bad
def gT (n : Nat) (f : FGs) : FG := fun d ρ m => match d with
  | .tup xs => if xs.length = n then f xs ρ m else .bad
  | _ => .bad
section
variable {X : Cx} {W : WX} {pos : Pos}
theorem pdg_name (i : Nat) {x : Str} (hN : X.N.Nodup) (hi : X.N[i]? = some x := by rfl) (hx : Loc X.env.scope x := by first | exact Or.inl rfl | exact Or.inr rfl) (hf : X.fn x = true ∨ X.env.scope.names.lookup x = some .local := by first | exact .inl rfl | exact .inr rfl | assumption) : PDG X W (.Name x pos) (gN i) [i] := by
  refine ⟨⟨_, pg_name hN hi hx hf, fun g m σ ρ v d Q rp en iv q => ?_⟩⟩
  exact q g (σ.set i (some v)) rp (Le.refl _ _) ⟨en.set i iv, by rw [List.length_set], fun j h => List.getElem?_set_ne (fun e => h (by simp [e]))⟩
theorem pdgs_nil : PDGs X W [] gsNil [] := by
  refine ⟨⟨_, pgs_nil, fun g m σ ρ v d Q rp en iv q => ?_⟩⟩
  cases iv with
  | nil => exact ⟨rfl, q g σ rp (Le.refl _ _) ⟨en, Sl.refl _ _⟩⟩
  | cons _ _ => exact q.elim
theorem Pre.mapR {A B : Type} {R R' : Gh → Mem → A → B → Prop} {K : PySem.W.Frag} {σ : St} {g : Gh} {m : Mem} {Q : A → Hp → Prop} (h : ∀ g m a b, R' g m a b → R g m a b) : ∀ {r : Res B}, Pre R K W σ g m Q r → Pre R' K W σ g m Q r
  | .ok _ _, q => fun g' a rp l ra => q g' a rp l (h _ _ _ _ ra)
  | .exc _ _, q => q
  | .bad, q => q
theorem pre_bindG {A B A2 B2 : Type} {R : Gh → Mem → A → B → Prop} {R2 : Gh → Mem → A2 → B2 → Prop} {K : PySem.W.Frag} {σ σ1 : St} {g : Gh} {m : Mem} {Q : A2 → Hp → Prop} {Q1 : A → Hp → Prop} {r : Res B} {k : B → Mem → Res B2}
    (h : Pre R2 K W σ g m Q (r.bind k)) (hk : ∀ g1 m1 a b, Rep K g1 m1 → Le g m g1 m1 → R g1 m1 a b → Pre R2 K W σ g1 m1 Q (k b m1) → Q1 a g1.H) : Pre R K W σ g m Q1 r := pre_bind h hk
/-- the exception part of what is wanted does not look at the slots -/
def Flat (W : WX) : Prop := ∀ c d σ σ' H, W c d σ H → W c d σ' H
theorem Pre.flat {A B : Type} {R : Gh → Mem → A → B → Prop} {K : PySem.W.Frag} {σ σ' : St} {g : Gh} {m : Mem} {Q : A → Hp → Prop} (hW : Flat W) : ∀ {r : Res B}, Pre R K W σ g m Q r → Pre R K W σ' g m Q r
  | .ok _ _, q => q
  | .exc _ _, q => fun g' c d rp l x => hW _ _ _ _ _ (q g' c d rp l x)
  | .bad, q => q
/-- binding names raises nothing of its own: results that are no exception -/
def NoX {B : Type} (r : Res B) : Prop := ∀ x m, r ≠ .exc x m
theorem Pre.nox {A B : Type} {R : Gh → Mem → A → B → Prop} {K : PySem.W.Frag} {W' : WX} {σ σ' : St} {g : Gh} {m : Mem} {Q : A → Hp → Prop} : ∀ {r : Res B}, NoX r → Pre R K W σ g m Q r → Pre R K W' σ' g m Q r
  | .ok _ _, _, q => q
  | .exc _ _, n, _ => absurd rfl (n _ _)
  | .bad, _, q => q
theorem pdgs_cons {e : Expr} {es : List Expr} {f : FG} {r : FGs} {is js : List Nat} (h1 : PDG X W e f is) (h2 : PDGs X W es r js) (n2 : ∀ ds ρ m, NoX (r ds ρ m)) (hs : (assignEach (e :: es) X.env).map (·.2) = assign e X.env :: (assignEach es X.env).map (·.2) := by rfl) : PDGs X W (e :: es) (gsCons f r) (is ++ js) := by
  obtain ⟨t, p, s⟩ := h1.ex
  obtain ⟨t', p', s'⟩ := h2.ex
  refine ⟨⟨_, pgs_cons p p' hs, fun g m σ ρ v d Q rp en iv q => ?_⟩⟩
  cases iv with
  | nil => exact q.elim
  | cons iv il =>
    refine ⟨_, _, rfl, s g m σ ρ _ _ _ rp en iv (pre_bind q fun g1 m1 σ1 ρ1 rp1 l1 r1 q1 => ?_)⟩
    refine s' g1 m1 σ1 ρ1 _ _ _ rp1 r1.1 (il.le l1) (Pre.mapR ?_ (Pre.nox (n2 _ _ _) q1))
    exact fun g2 m2 σ2 ρ2 r2 => ⟨r2.1, r1.2.trans r2.2⟩
theorem pdg_tup {es : List Expr} {k n : Nat} {f : FGs} {is : List Nat} (hc : X.calm = true) (h : PDGs X W es f is) (hn : (assignEach es X.env).length = n := by rfl) (hst : (assignEach es X.env).findIdx? (·.1) = none := by rfl) : PDG X W (.Tuple es k pos) (gT n f) is := by
  obtain ⟨t, p, s⟩ := h.ex
  refine ⟨⟨_, pg_tup hc p hn hst, fun g m σ ρ v d Q rp en iv q => ?_⟩⟩
  unfold gT at q
  split at q
  · split at q
    · rename_i hl
      cases iv with
      | tup z1 z2 z3 => exact ⟨_, _, rfl, rp.sqT z1, by rw [z3.length]; exact hl, s g m σ ρ _ _ Q rp en z3 q⟩
    · exact q.elim
  · exact q.elim
end
theorem nox_gN (i : Nat) (d : D) (ρ : EnvD) (m : Mem) : NoX (gN i d ρ m) := fun _ _ h => by cases h
theorem nox_nil (ds : List D) (ρ : EnvD) (m : Mem) : NoX (gsNil ds ρ m) := fun _ _ h => by unfold gsNil at h; split at h <;> cases h
theorem nox_cons {f : FG} {r : FGs} (h1 : ∀ d ρ m, NoX (f d ρ m)) (h2 : ∀ ds ρ m, NoX (r ds ρ m)) (ds : List D) (ρ : EnvD) (m : Mem) : NoX (gsCons f r ds ρ m) := fun x m' h => by
  unfold gsCons at h
  split at h
  · rename_i d ds
    cases e : f d ρ m with
    | ok a m1 => rw [e] at h; exact h2 _ _ _ _ _ h
    | exc y m1 => exact h1 d ρ m y m1 e
    | bad => rw [e] at h; cases h
  · cases h
theorem nox_tup {n : Nat} {f : FGs} (h : ∀ ds ρ m, NoX (f ds ρ m)) (d : D) (ρ : EnvD) (m : Mem) : NoX (gT n f d ρ m) := fun x m' q => by
  unfold gT at q
  split at q
  · split at q
    · exact h _ _ _ _ _ q
    · cases q
  · cases q

/-! ### what is walked -/
abbrev FI := EnvD → Mem → Res (List D)
structure IterOk (K : PySem.W.Frag) (J : It) (g1 : Gh) (m1 : Mem) (ds : List D) : Prop where
  sz : ds.length ≤ sizeLine
  go : ∀ g m, Rep K g m → Lw g1 m1 g m → ∀ i d, ds[i]? = some d → J.go i g.H ∧ ∀ x H', J.yld i g.H x H' → ∃ g', g'.H = H' ∧ Rep K g' m ∧ Le g m g' m ∧ IsG K g' m x d
  stop : ∀ g m, Rep K g m → Lw g1 m1 g m → J.stop ds.length g.H
theorem IterOk.le {K : PySem.W.Frag} {J : It} {g1 g2 : Gh} {m1 m2 : Mem} {ds : List D} (h : IterOk K J g1 m1 ds) (l : Lw g1 m1 g2 m2) : IterOk K J g2 m2 ds :=
  ⟨h.sz, fun g m rp l' => h.go g m rp (l.trans l'), fun g m rp l' => h.stop g m rp (l.trans l')⟩
structure PDI (X : Cx) (W : WX) (tg it : Expr) (f : FI) : Prop where
  ex : ∃ w, PI X tg it w ∧ ∀ g m σ ρ R, Rep X.K g m → EnvOk X.K g m σ ρ → Pre (fun g m J ds => IterOk X.K J g m ds) X.K W σ g m R (f ρ m) → w σ g.H R
/-- frozen, or locked -/
def lstK (m : Mem) : D → Option (List D)
  | .lst xs => some xs
  | .slst xs => some xs
  | .mref i => match m[i]? with
    | some (.lkL xs) => some xs
    | _ => none
  | _ => none
def iSeq (a : FE) : FI := fun ρ m => (a ρ m).bind fun x m1 => match x with
  | .tup xs => .ok xs m1
  | .str z => if z.length ≤ sizeLine then .ok (z.cps.toList.map fun c => .str ⟨#[c]⟩) m1 else .bad
  | x => match lstK m1 x with
    | some xs => .ok xs m1
    | none => .bad
section
variable {K : PySem.W.Frag} {g : Gh} {m : Mem}
/-- a list that is frozen or locked stays as it is -/
theorem lstK_stays (rp : Rep K g m) {v : V} {d : D} {xs : List D} (iv : IsG K g m v d) (h : lstK m d = some xs) : ∃ a, v = .ref a ∧ xs.length ≤ sizeLine ∧ ∀ g' m', Rep K g' m' → Lw g m g' m' → ∃ vs, SqL K g'.H a vs ∧ IsGL K g' m' vs xs := by
  cases iv with
  | lst s z l =>
    cases h
    exact ⟨_, rfl, by rw [← l.length]; exact z, fun g' m' rp' le => ⟨_, SqL.of (rp'.at_ (le.F _ _ s) fun z => z), l.lw le⟩⟩
  | slst s z l =>
    cases h
    exact ⟨_, rfl, by rw [← l.length]; exact z, fun g' m' rp' le => ⟨_, rp'.sqL (sqL_mono le.F s), l.lw le⟩⟩
  | mref hi =>
    rename_i i
    simp only [lstK] at h
    split at h
    · rename_i ys e
      cases h
      refine ⟨g.al i, rfl, ?_, fun g' m' rp' le => ?_⟩
      · obtain ⟨_, vs, h1, h2, h3⟩ := rp.mem i _ e
        rw [← h3.length]
        exact h2
      · have e' := le.lk i _ e rfl
        obtain ⟨_, vs, h1, h2, h3⟩ := rp'.mem i _ e'
        rw [le.al i hi] at h1
        exact ⟨vs, SqL.of h1, h3⟩
    · cases h
  | _ => cases h
theorem iter_list {a : Addr} {xs : List D} (hz : xs.length ≤ sizeLine) (h : ∀ g' m', Rep K g' m' → Lw g m g' m' → ∃ vs, SqL K g'.H a vs ∧ IsGL K g' m' vs xs) : IterOk K (Itl K a) g m xs where
  sz := hz
  go := fun g' m' rp le i d e => by
    obtain ⟨vs, h1, h2⟩ := h g' m' rp le
    obtain ⟨v, ev, iv⟩ := h2.get e
    refine ⟨⟨vs, v, h1, ev⟩, fun x H' y => ?_⟩
    obtain ⟨rfl, hy⟩ := y
    have := hy vs h1
    rw [ev] at this
    cases this
    exact ⟨g', rfl, rp, Le.refl _ _, iv⟩
  stop := fun g' m' rp le => by
    obtain ⟨vs, h1, h2⟩ := h g' m' rp le
    exact ⟨vs, h1, by rw [h2.length]; exact Nat.le_refl _⟩
theorem iter_tup {a : Addr} {xs : List D} {vs : List V} (hz : vs.length ≤ sizeLine) (s : TupA K g.F a vs) (il : IsGL K g m vs xs) : IterOk K (Itt K a) g m xs where
  sz := by rw [← il.length]; exact hz
  go := fun g' m' rp le i d e => by
    have h1 : SqT K g'.H a vs := rp.sqT (le.F _ _ s)
    obtain ⟨v, ev, iv⟩ := (il.lw le).get e
    refine ⟨⟨vs, v, h1, ev⟩, fun x H' y => ?_⟩
    obtain ⟨rfl, hy⟩ := y
    have := hy vs h1
    rw [ev] at this
    cases this
    exact ⟨g', rfl, rp, Le.refl _ _, iv⟩
  stop := fun g' m' rp le => ⟨vs, rp.sqT (le.F _ _ s), by rw [il.length]; exact Nat.le_refl _⟩
theorem iter_str {x : Str} (hz : x.length ≤ sizeLine) : IterOk K (Its x) g m (x.cps.toList.map fun c => D.str ⟨#[c]⟩) where
  sz := by rw [List.length_map, Array.length_toList]; exact hz
  go := fun g' m' rp le i d e => by
    rw [List.getElem?_map] at e
    obtain ⟨c, hc, rfl⟩ := Option.map_eq_some_iff.mp e
    rw [Array.getElem?_toList] at hc
    refine ⟨(Array.getElem?_eq_some_iff.mp hc).1, fun v H' y => ?_⟩
    obtain ⟨rfl, c', hc', rfl⟩ := y
    rw [hc] at hc'
    cases hc'
    exact ⟨g', rfl, rp, Le.refl _ _, .str _⟩
  stop := fun g' m' rp le => by
    show x.cps.size ≤ _
    rw [List.length_map, Array.length_toList]
    exact Nat.le_refl _
theorem iter_range {lo : Int} {n : Nat} (hz : n ≤ sizeLine) : IterOk K (Itr lo n) g m ((List.range n).map fun i => D.int (lo + (i : Nat))) where
  sz := by rw [List.length_map, List.length_range]; exact hz
  go := fun g' m' rp le i d e => by
    rw [List.getElem?_map] at e
    obtain ⟨c, hc, rfl⟩ := Option.map_eq_some_iff.mp e
    obtain ⟨hi, rfl⟩ := List.getElem?_eq_some_iff.mp hc
    rw [List.length_range] at hi
    refine ⟨hi, fun v H' y => ?_⟩
    obtain ⟨rfl, rfl⟩ := y
    refine ⟨g', rfl, rp, Le.refl _ _, ?_⟩
    rw [List.getElem_range]
    exact .int _
  stop := fun g' m' rp le => by
    show n ≤ _
    rw [List.length_map, List.length_range]
    exact Nat.le_refl _
end
section
variable {X : Cx} {W : WX} {tg : Expr} {pos : Pos}
theorem pdi_seq {e : Expr} {f : FE} (h : PD X W e f) : PDI X W tg e (iSeq f) := by
  obtain ⟨t, p, s⟩ := h.ex
  refine ⟨⟨_, PI.or (pi_tup p) (PI.or (pi_list p) (pi_str p)), fun g m σ ρ R rp en q => ?_⟩⟩
  unfold iSeq at q
  have s' := s g m σ ρ
  cases hf : f ρ m with
  | bad => rw [hf] at q; exact q.elim
  | exc x m1 =>
    rw [hf] at q s'
    exact .inl (s' _ rp en q)
  | ok d m1 =>
    rw [hf] at q s'
    rw [bind_ok] at q
    split at q
    · refine .inl (s' _ rp en fun g1 v rp1 l1 iv => ?_)
      cases iv with
      | tup a b c => exact ⟨_, rfl, ⟨_, rp1.sqT a⟩, q g1 _ rp1 l1 (iter_tup b a c)⟩
    · split at q
      · rename_i hz
        refine .inr (.inr (s' _ rp en fun g1 v rp1 l1 iv => ?_))
        cases iv
        exact ⟨_, rfl, q g1 _ rp1 l1 (iter_str hz)⟩
      · exact q.elim
    · split at q
      · rename_i xs e
        refine .inr (.inl (s' _ rp en fun g1 v rp1 l1 iv => ?_))
        obtain ⟨a, rfl, hz, hs⟩ := lstK_stays rp1 iv e
        obtain ⟨vs, h1, h2⟩ := hs g1 m1 rp1 (Lw.refl _ _)
        exact ⟨a, rfl, ⟨vs, h1⟩, q g1 _ rp1 l1 (iter_list hz hs)⟩
      · exact q.elim
/-- range(n), range(a, b) -/
def iRg1 (a : FE) : FI := fun ρ m => (a ρ m).bind fun x m1 => match x with
  | .int j => if -(2 ^ 62) ≤ j ∧ j < 2 ^ 62 ∧ j.toNat ≤ sizeLine then .ok ((List.range j.toNat).map fun i => D.int (0 + (i : Nat))) m1 else .bad
  | _ => .bad
def iRg2 (a b : FE) : FI := fun ρ m => (a ρ m).bind fun x m1 => (b ρ m1).bind fun y m2 => match x, y with
  | .int i, .int j => if (-(2 ^ 62) ≤ i ∧ i < 2 ^ 62 ∧ -(2 ^ 62) ≤ j ∧ j < 2 ^ 62) ∧ (j - i).toNat ≤ sizeLine then .ok ((List.range (j - i).toNat).map fun k => D.int (i + (k : Nat))) m2 else .bad
  | _, _ => .bad
theorem pdi_range1 {a : Expr} {f : FE} {p : Pos} (hg : Gl X "range") (hm : X.mg "range" = none) (h : PD X W a f) (hs : starEach [a] X.env = [(false, eval a X.env)] := by rfl) (hs1 : starEach (a :: []) X.env = (false, eval a X.env) :: starEach [] X.env := by rfl) : PDI X W tg (.Call (.Name "range" p) [a] [] pos) (iRg1 f) := by
  obtain ⟨t, pt, s⟩ := h.ex
  refine ⟨⟨_, pi_range1 hg hm (pa_cons pt pa_nil hs1) hs, fun g m σ ρ R rp en q => s g m σ ρ _ rp en (pre_bind q fun g1 m1 x dx rp1 l1 ix q1 => ?_)⟩⟩
  cases ix <;> try exact q1.elim
  simp only at q1
  split at q1
  · rename_i hc
    exact ⟨_, rfl, hc.1, hc.2.1, q1 g1 _ rp1 (Le.refl _ _) (iter_range hc.2.2)⟩
  · exact q1.elim
theorem pdi_range2 {a b : Expr} {f f2 : FE} {p : Pos} (hg : Gl X "range") (hm : X.mg "range" = none) (h : PD X W a f) (h2 : PD X W b f2) (hs : starEach [a, b] X.env = [(false, eval a X.env), (false, eval b X.env)] := by rfl) (hs2 : starEach [b] X.env = [(false, eval b X.env)] := by rfl)
    (hs1 : starEach (a :: [b]) X.env = (false, eval a X.env) :: starEach [b] X.env := by rfl) (hs3 : starEach (b :: []) X.env = (false, eval b X.env) :: starEach [] X.env := by rfl) : PDI X W tg (.Call (.Name "range" p) [a, b] [] pos) (iRg2 f f2) := by
  obtain ⟨t, pt, s⟩ := h.ex
  obtain ⟨t', pt', s'⟩ := h2.ex
  refine ⟨⟨_, pi_range2 hg hm (pa_cons pt (pa_cons pt' pa_nil hs3) hs1) hs hs2, fun g m σ ρ R rp en q => s g m σ ρ _ rp en (pre_bind q fun g1 m1 x dx rp1 l1 ix q1 => s' g1 m1 σ ρ _ rp1 (en.le l1) (pre_bind q1 fun g2 m2 y dy rp2 l2 iy q2 => ?_))⟩⟩
  cases ix <;> try exact q2.elim
  cases iy <;> try exact q2.elim
  simp only at q2
  split at q2
  · rename_i hc
    exact ⟨_, _, rfl, hc.1, q2 g2 _ rp2 (Le.refl _ _) (iter_range hc.2)⟩
  · exact q2.elim
end
end DL
end
section
set_option maxRecDepth 100000
set_option maxHeartbeats 2000000
/-! The data layer, part 6: list comprehensions. -/
namespace DL
open PySem L2
open Classical

/-! ### an object that is in nobody's hands yet -/
section
variable {K : PySem.W.Frag} {g : Gh} {m : Mem} {p : Addr} {o o' : HO}
theorem Rep.other (rp : Rep K g m) (hp : g.H p = none) (o : HO) : Rep K ⟨upd g.H p o, g.F, g.al⟩ m ∧ Le g m ⟨upd g.H p o, g.F, g.al⟩ m := by
  have hF := rp.free hp
  refine ⟨⟨fun b u h => ?_, fun i u h => ?_, rp.inj⟩, ⟨fun _ _ h => h, Nat.le_refl _, fun _ _ => rfl, fun b u h nt f l => ⟨upd_some hp h, f, l⟩, fun b u v h => upd_some hp h, fun _ _ h _ => h⟩⟩
  · rcases rp.sub b u h with h | ⟨d, ob, h⟩
    · exact .inl (upd_some hp h)
    · exact .inr ⟨d, ob, upd_some hp h⟩
  · by_cases hn : u = .gone
    · subst hn; trivial
    · obtain ⟨w, hw, hf⟩ := (rp.mem i u h).there hn
      exact (rp.mem i u h).step (g' := ⟨upd g.H p o, g.F, g.al⟩) (upd_ne (ne_of_none hw hp)) (fun f => f) (fun _ _ h => h) (fun _ _ => rfl) (Nat.le_refl _)
/-- in nobody's hands: neither frozen nor mutable -/
structure Oth (g : Gh) (m : Mem) (p : Addr) (o : HO) : Prop where
  h : g.H p = some o
  f : g.F p = none
  l : ∀ i, Live m i → g.al i ≠ p
theorem Oth.le {g' : Gh} {m' : Mem} (x : Oth g m p o) (l : Le g m g' m') (nt : nT o := by intro _ z; cases z) : Oth g' m' p o := let ⟨a, b, c⟩ := l.oth p o x.h nt x.f x.l; ⟨a, b, c⟩
theorem Oth.write (x : Oth g m p o) (rp : Rep K g m) (nf : ∀ ob u, o ≠ .frz ob u) (o' : HO) : Rep K ⟨upd g.H p o', g.F, g.al⟩ m ∧ Oth ⟨upd g.H p o', g.F, g.al⟩ m p o' := by
  refine ⟨⟨fun b u h => ?_, fun i u h => ?_, rp.inj⟩, ⟨upd_same, x.f, x.l⟩⟩
  · have ne : b ≠ p := fun e => by rw [e, x.f] at h; cases h
    rcases rp.sub b u h with h | ⟨d, ob, h⟩
    · exact .inl ((upd_ne ne).trans h)
    · exact .inr ⟨d, ob, (upd_ne ne).trans h⟩
  · by_cases hn : u = .gone
    · subst hn; trivial
    · exact (rp.mem i u h).step (g' := ⟨upd g.H p o', g.F, g.al⟩) (upd_ne (x.l i ⟨u, h, hn⟩)) (fun f => f) (fun _ _ h => h) (fun _ _ => rfl) (Nat.le_refl _)
theorem Oth.leW {g1 : Gh} {m1 : Mem} (l : Le g1 m1 g m) (hp : g1.H p = none) (o' : HO) : Le g1 m1 ⟨upd g.H p o', g.F, g.al⟩ m :=
  ⟨l.F, l.n, l.al, fun b u h nt f q => let ⟨a, b', c⟩ := l.oth b u h nt f q; ⟨(upd_ne (ne_of_none h hp)).trans a, b', c⟩, fun b u v h => (upd_ne (ne_of_none h hp)).trans (l.frz b u v h), l.lk⟩
/-- it is frozen -/
theorem Oth.freeze {g1 : Gh} {m1 : Mem} (x : Oth g m p o) (rp : Rep K g m) (l : Le g1 m1 g m) (hp : g1.H p = none) : Rep K ⟨g.H, upd g.F p o, g.al⟩ m ∧ Le g1 m1 ⟨g.H, upd g.F p o, g.al⟩ m := by
  have mF : ∀ b u, g.F b = some u → upd g.F p o b = some u := fun b u h => upd_some x.f h
  refine ⟨⟨fun b u h => ?_, fun i u h => ?_, rp.inj⟩, ⟨fun b u h => mF b u (l.F b u h), l.n, l.al, fun b u h nt f q => ?_, l.frz, l.lk⟩⟩
  · by_cases hb : b = p
    · subst hb
      rw [show (⟨g.H, upd g.F b o, g.al⟩ : Gh).F b = some o from upd_same] at h
      cases h
      exact .inl x.h
    · rw [show (⟨g.H, upd g.F p o, g.al⟩ : Gh).F b = g.F b from upd_ne hb] at h
      exact rp.sub b u h
  · by_cases hn : u = .gone
    · subst hn; trivial
    · exact (rp.mem i u h).step (g := g) (g' := ⟨g.H, upd g.F p o, g.al⟩) rfl (fun f => by show upd g.F p o (g.al i) = none; rw [upd_ne (x.l i ⟨u, h, hn⟩)]; exact f) mF (fun _ _ => rfl) (Nat.le_refl _)
  · obtain ⟨a, b', c⟩ := l.oth b u h nt f q
    exact ⟨a, by show upd g.F p o b = none; rw [upd_ne (ne_of_none h hp)]; exact b', c⟩
/-- it is a mutable thing from now on -/
def Gh.tag (g : Gh) (n : Nat) (p : Addr) : Gh := ⟨g.H, g.F, fun i => if i = n then p else g.al i⟩
theorem Oth.adopt {g1 : Gh} {m1 : Mem} (x : Oth g m p o) (rp : Rep K g m) (l : Le g1 m1 g m) (hp : g1.H p = none) {mo : MO} (ok : MOk K (g.tag m.length p) (m.length + 1) p mo) : Rep K (g.tag m.length p) (m ++ [mo]) ∧ Le g1 m1 (g.tag m.length p) (m ++ [mo]) := by
  have al1 : ∀ i, i < m.length → (g.tag m.length p).al i = g.al i := fun i h => if_neg (Nat.ne_of_lt h)
  have al2 : (g.tag m.length p).al m.length = p := if_pos rfl
  have lv : ∀ i, Live (m ++ [mo]) i → Live m i ∨ i = m.length := fun i ⟨u, h, n⟩ => by
    by_cases hi : i < m.length
    · rw [List.getElem?_append_left hi] at h; exact .inl ⟨u, h, n⟩
    · have := (List.getElem?_eq_some_iff.mp h).1
      rw [List.length_append] at this
      exact .inr (by simp at this; omega)
  refine ⟨⟨rp.sub, fun i u h => ?_, fun i j a b e => ?_⟩, ⟨l.F, by rw [List.length_append]; exact Nat.le_trans l.n (Nat.le_add_right _ _), fun i h => (al1 i (Nat.lt_of_lt_of_le h l.n)).trans (l.al i h), fun b u h nt f q => ?_, l.frz, fun i u h k => ?_⟩⟩
  · by_cases hi : i < m.length
    · rw [List.getElem?_append_left hi] at h
      rw [al1 i hi, List.length_append]
      exact (rp.mem i u h).step (g := g) (g' := g.tag m.length p) rfl (fun f => f) (fun _ _ h => h) al1 (Nat.le_add_right _ _)
    · have hl := (List.getElem?_eq_some_iff.mp h).1
      have e : i = m.length := by rw [List.length_append] at hl; simp at hl; omega
      subst e
      rw [List.getElem?_append_right (Nat.le_refl _), Nat.sub_self] at h
      cases h
      rw [al2, List.length_append]
      exact ok
  · rcases lv i a with a | rfl <;> rcases lv j b with b | rfl
    · rw [al1 i a.lt, al1 j b.lt] at e
      exact rp.inj i j a b e
    · rw [al1 i a.lt, al2] at e
      exact absurd e (x.l i a)
    · rw [al2, al1 j b.lt] at e
      exact absurd e.symm (x.l j b)
    · rfl
  · obtain ⟨a, b', c⟩ := l.oth b u h nt f q
    refine ⟨a, b', fun i li => ?_⟩
    rcases lv i li with li | rfl
    · rw [al1 i li.lt]; exact c i li
    · rw [al2]; exact (ne_of_none h hp).symm
  · have := l.lk i u h k
    rw [List.getElem?_append_left (List.getElem?_eq_some_iff.mp this).1]
    exact this
end

/-! ### results that must not be exceptions -/
def bindN {α β : Type} : Res α → (α → Mem → Res β) → Res β
  | .ok a m, f => f a m
  | _, _ => .bad
@[simp] theorem bindN_ok {α β : Type} (a : α) (m : Mem) (f : α → Mem → Res β) : bindN (Res.ok a m) f = f a m := rfl
abbrev W0 : WX := fun _ _ _ _ => False
/-- a step towards what is wanted at a fixed base -/
theorem pre_stepN {A B A2 B2 : Type} {R : Gh → Mem → A → B → Prop} {R2 : Gh → Mem → A2 → B2 → Prop} {K : PySem.W.Frag} {W W' : WX} {σ σ' : St} {g1 g : Gh} {m1 m : Mem} {Q : A2 → Hp → Prop} {Q1 : A → Hp → Prop} {r : Res B} {k : B → Mem → Res B2}
    (h : Pre R2 K W σ g1 m1 Q (bindN r k)) (hk : ∀ g2 m2 a b, Rep K g2 m2 → Le g m g2 m2 → R g2 m2 a b → Pre R2 K W σ g1 m1 Q (k b m2) → Q1 a g2.H) : Pre R K W' σ' g m Q1 r := by
  cases r with
  | ok b m2 => exact fun g2 a rp l ra => hk g2 m2 a b rp l ra h
  | exc x m2 => exact h.elim
  | bad => exact h.elim

def lcGo (fg : FG) (ft : FT) (fe : FE) (ρ : EnvD) : List D → List D → Mem → Res (List D)
  | [], acc, m => .ok acc m
  | x :: xs, acc, m => bindN (fg x ρ m) fun ρ2 m2 => bindN (ft ρ2 m2) fun b m3 => if b = true then bindN (fe ρ2 m3) fun y m4 => lcGo fg ft fe ρ xs (acc ++ [y]) m4 else lcGo fg ft fe ρ xs acc m3
def wipeD (ρ : EnvD) : List Nat → EnvD
  | [] => ρ
  | v :: vs => (wipeD ρ vs).set v none
theorem wipeD_ok {K : PySem.W.Frag} {g : Gh} {m : Mem} {σ : St} {ρ : EnvD} (en : EnvOk K g m σ ρ) : ∀ vs : List Nat, EnvOk K g m (wipe σ vs) (wipeD ρ vs)
  | [] => en
  | v :: vs => (wipeD_ok en vs).unset v
/-- the made list at the end: frozen, or kept mutable -/
def finL (mu : Bool) (ys : List D) (m : Mem) : Res D := if mu then .ok (.mref m.length) (m ++ [.lst ys]) else .ok (.lst ys) m
theorem fin_ok {K : PySem.W.Frag} {W : WX} {σ : St} {g1 g : Gh} {m1 m : Mem} {p : Addr} {vs : List V} {ys : List D} {Q : VK} {mu : Bool} (rp : Rep K g m) (l : Le g1 m1 g m) (hp : g1.H p = none) (x : Oth g m p (.lst vs)) (hz : vs.length ≤ sizeLine) (il : IsGL K g m vs ys)
    (q : Pre (RE K) K W σ g1 m1 Q (finL mu ys m)) : Q (.ref p) g.H := by
  unfold finL at q
  split at q
  · have al2 : (g.tag m.length p).al m.length = p := if_pos rfl
    obtain ⟨rp', l'⟩ := x.adopt rp l hp (mo := .lst ys) ⟨x.f, vs, x.h, hz, il.mono (fun _ _ h => h) (fun i h => if_neg (Nat.ne_of_lt h)) (Nat.le_succ _)⟩
    refine q (g.tag m.length p) (.ref p) rp' l' ?_
    have z : IsG K (g.tag m.length p) (m ++ [.lst ys]) (.ref ((g.tag m.length p).al m.length)) (.mref m.length) := .mref (by simp)
    rw [al2] at z
    exact z
  · obtain ⟨rp', l'⟩ := x.freeze rp l hp
    exact q ⟨g.H, upd g.F p (.lst vs), g.al⟩ (.ref p) rp' l' (.lst upd_same hz (il.mono (fun b u h => upd_some x.f h) (fun _ _ => rfl) (Nat.le_refl _)))
def eLc (mu : Bool) (vs : List Nat) (fi : FI) (fg : FG) (ft : FT) (fe : FE) : FE := fun ρ m => (fi ρ m).bind fun ds m1 => bindN (lcGo fg ft fe (wipeD ρ vs) ds [] m1) fun ys m2 => finL mu ys m2
/-- the loop of a comprehension, over an iterator that stands -/
theorem lc_loop {K : PySem.W.Frag} {W : WX} {J : It} {tg : TG} {tt : TT} {te : TE} {fg : FG} {ft : FT} {fe : FE} {is vs : List Nat} {σ : St} {ρ : EnvD} {g1 : Gh} {m1 : Mem} {ds : List D} {Q : VK} {mu : Bool}
    (hg : SdG K W0 tg fg is) (his : ∀ i ∈ is, i ∈ vs) (ht : SdT K W0 tt ft) (he : SdE K W0 te fe) (rp : Rep K g1 m1) (en : EnvOk K g1 m1 σ ρ) (ok : IterOk K J g1 m1 ds)
    (q : Pre (RE K) K W σ g1 m1 Q (bindN (lcGo fg ft fe (wipeD ρ vs) ds [] m1) fun ys m2 => finL mu ys m2)) (p : Addr) (hp : g1.H p = none) :
    ∃ Wd : Nat → Nat → Hp → Prop, (∃ m, Wd 0 m (upd g1.H p (.lst []))) ∧ ∀ i m H, Wd i m H →
      (J.stop i H ∧ Q (.ref p) H) ∨ (J.go i H ∧ ∃ Nx : Hp → Prop, (∀ H', Nx H' → ∃ m', m' < m ∧ Wd (i + 1) m' H') ∧ ∀ x H', J.yld i H x H' → tg x (wipe σ vs) H' fun σ2 H2 => wipe σ2 vs = wipe σ vs ∧ tt σ2 H2 fun b H3 =>
        if b = true then te σ2 H3 fun y H4 => ∃ acc, H4 p = some (.lst acc) ∧ acc.length < sizeLine ∧ Nx (upd H4 p (.lst (acc ++ [y]))) else Nx H3) := by
  refine ⟨fun i k H => k = ds.length - i ∧ i ≤ ds.length ∧ ∃ g m vsA acc, g.H = H ∧ Rep K g m ∧ Le g1 m1 g m ∧ Oth g m p (.lst vsA) ∧ IsGL K g m vsA acc ∧ acc.length ≤ i ∧
    Pre (RE K) K W σ g1 m1 Q (bindN (lcGo fg ft fe (wipeD ρ vs) (ds.drop i) acc m) fun ys m2 => finL mu ys m2), ⟨ds.length, ?_⟩, ?_⟩
  · obtain ⟨rp', l'⟩ := rp.other hp (.lst [])
    refine ⟨by simp, Nat.zero_le _, ⟨upd g1.H p (.lst []), g1.F, g1.al⟩, m1, [], [], rfl, rp', l', ⟨upd_same, rp.free hp, fun i li => ?_⟩, .nil, Nat.le_refl _, by simpa using q⟩
    obtain ⟨u, hu, _⟩ := rp.live li
    exact ne_of_none hu hp
  · rintro i k H ⟨rfl, hi, g, m, vsA, acc, rfl, rpg, le, ox, ia, hla, qi⟩
    by_cases hlt : i < ds.length
    · obtain ⟨d, ed⟩ : ∃ d, ds[i]? = some d := ⟨ds[i], by simp [hlt]⟩
      have hdrop : ds.drop i = d :: ds.drop (i + 1) := by
        rw [List.drop_eq_getElem_cons hlt]
        congr 1
        have := List.getElem?_eq_getElem hlt
        rw [ed] at this
        exact (Option.some.inj this).symm
      rw [hdrop] at qi
      obtain ⟨hgo, hy⟩ := ok.go g m rpg le.w i d ed
      refine .inr ⟨hgo, _, fun H' n => n, fun x H' y => ?_⟩
      obtain ⟨g2, rfl, rp2, l2, ix⟩ := hy x H' y
      have fin : ∀ (g4 : Gh) (m4 : Mem) (vs4 : List V) (acc4 : List D), Rep K g4 m4 → Le g1 m1 g4 m4 → Oth g4 m4 p (.lst vs4) → IsGL K g4 m4 vs4 acc4 → acc4.length ≤ i + 1 → Pre (RE K) K W σ g1 m1 Q (bindN (lcGo fg ft fe (wipeD ρ vs) (ds.drop (i + 1)) acc4 m4) fun ys m2 => finL mu ys m2) →
          ∃ m', m' < ds.length - i ∧ (m' = ds.length - (i + 1) ∧ i + 1 ≤ ds.length ∧ ∃ g m vsA acc, g.H = g4.H ∧ Rep K g m ∧ Le g1 m1 g m ∧ Oth g m p (.lst vsA) ∧ IsGL K g m vsA acc ∧ acc.length ≤ i + 1 ∧
            Pre (RE K) K W σ g1 m1 Q (bindN (lcGo fg ft fe (wipeD ρ vs) (ds.drop (i + 1)) acc m) fun ys m2 => finL mu ys m2)) := fun g4 m4 vs4 acc4 a b c d e f =>
        ⟨ds.length - (i + 1), by omega, rfl, hlt, g4, m4, vs4, acc4, rfl, a, b, c, d, e, f⟩
      have en2 : EnvOk K g2 m (wipe σ vs) (wipeD ρ vs) := wipeD_ok (en.le (le.trans l2)) vs
      have qi' : Pre (RE K) K W σ g1 m1 Q (bindN (fg d (wipeD ρ vs) m) fun ρ2 m2 => bindN (bindN (ft ρ2 m2) fun b m3 => if b = true then bindN (fe ρ2 m3) fun y m4 => lcGo fg ft fe (wipeD ρ vs) (ds.drop (i + 1)) (acc ++ [y]) m4 else lcGo fg ft fe (wipeD ρ vs) (ds.drop (i + 1)) acc m3) fun ys m2 => finL mu ys m2) := by
        cases hf : fg d (wipeD ρ vs) m with
        | ok a b => rw [lcGo, hf] at qi; exact qi
        | exc a b => rw [lcGo, hf] at qi; exact qi
        | bad => rw [lcGo, hf] at qi; exact qi
      refine hg g2 m (wipe σ vs) (wipeD ρ vs) x d _ rp2 en2 ix (pre_stepN qi' fun g3 m3 σ3 ρ3 rp3 l3 r3 q3 => ?_)
      refine ⟨(r3.2.wipe his).trans (wipe_wipe _ _), ?_⟩
      have q3' : Pre (RE K) K W σ g1 m1 Q (bindN (ft ρ3 m3) fun b m4 => bindN (if b = true then bindN (fe ρ3 m4) fun y m5 => lcGo fg ft fe (wipeD ρ vs) (ds.drop (i + 1)) (acc ++ [y]) m5 else lcGo fg ft fe (wipeD ρ vs) (ds.drop (i + 1)) acc m4) fun ys m2 => finL mu ys m2) := by
        cases hf : ft ρ3 m3 with
        | ok a b => rw [hf] at q3; exact q3
        | exc a b => rw [hf] at q3; exact q3
        | bad => rw [hf] at q3; exact q3
      refine ht g3 m3 σ3 ρ3 _ rp3 r3.1 (pre_stepN q3' fun g4 m4 b b' rp4 l4 eb q4 => ?_)
      have eb' : b = b' := eb
      subst eb'
      have l14 : Le g1 m1 g4 m4 := ((le.trans l2).trans l3).trans l4
      have lg4 : Le g m g4 m4 := (l2.trans l3).trans l4
      cases b with
      | false =>
        rw [if_neg Bool.false_ne_true]
        rw [if_neg Bool.false_ne_true] at q4
        exact fin g4 m4 vsA acc rp4 l14 (ox.le lg4) (ia.le lg4) (by omega) q4
      | true =>
        rw [if_pos rfl]
        rw [if_pos rfl] at q4
        have q4' : Pre (RE K) K W σ g1 m1 Q (bindN (fe ρ3 m4) fun y m5 => bindN (lcGo fg ft fe (wipeD ρ vs) (ds.drop (i + 1)) (acc ++ [y]) m5) fun ys m2 => finL mu ys m2) := by
          cases hf : fe ρ3 m4 with
          | ok a b => rw [hf] at q4; exact q4
          | exc a b => rw [hf] at q4; exact q4
          | bad => rw [hf] at q4; exact q4
        refine he g4 m4 σ3 ρ3 _ rp4 (r3.1.le l4) (pre_stepN q4' fun g5 m5 v y rp5 l5 iy q5 => ?_)
        have ox5 := ox.le (lg4.trans l5)
        have ia5 := ia.le (lg4.trans l5)
        have el := ia5.length
        have hz := ok.sz
        refine ⟨vsA, ox5.h, by omega, ?_⟩
        obtain ⟨rp6, ox6⟩ := ox5.write rp5 (fun _ _ z => by cases z) (.lst (vsA ++ [v]))
        refine fin ⟨upd g5.H p (.lst (vsA ++ [v])), g5.F, g5.al⟩ m5 (vsA ++ [v]) (acc ++ [y]) rp6 (Oth.leW (l14.trans l5) hp _) ox6 (ia5.append (.cons iy .nil)) ?_ q5
        rw [List.length_append, List.length_singleton]
        omega
    · have e : i = ds.length := by omega
      subst e
      rw [List.drop_length] at qi
      refine .inl ⟨ok.stop g m rpg le.w, ?_⟩
      have el := ia.length
      have hz := ok.sz
      exact fin_ok rpg le hp ox (by omega) ia qi

/-! ### the rule -/
structure PDTs (X : Cx) (W : WX) (ifs : List Expr) (f : FT) : Prop where
  ex : ∃ t, PTs X ifs t ∧ SdT X.K W t f
def tY : FT := fun _ m => .ok true m
section
variable {X : Cx} {W : WX}
theorem pdts_nil : PDTs X W [] tY := ⟨⟨_, pts_nil, fun g m σ ρ Q rp en q => q g _ rp (Le.refl _ _) rfl⟩⟩
theorem pdts_one {c : Expr} {f : FT} (h : PDT X W c f) : PDTs X W [c] f := let ⟨t, p, s⟩ := h.ex; ⟨⟨t, pts_one p, s⟩⟩
theorem PDTs.can {e : List Expr} {f : FT} (h : PDTs X W e f) : PTs X e (cT X.K W f) := by
  obtain ⟨t, p, s⟩ := h.ex
  refine ⟨fun pins s0 σ H Q I q => ?_⟩
  obtain ⟨g, m, ρ, rfl, rp, en, q⟩ := q
  exact p.run pins s0 σ g.H Q I (s g m σ ρ Q rp en q)
def cG (K : PySem.W.Frag) (W : WX) (f : FG) (is : List Nat) : TG := fun v σ H Q => ∃ g m ρ d, g.H = H ∧ Rep K g m ∧ EnvOk K g m σ ρ ∧ IsG K g m v d ∧ Pre (RG K is σ) K W σ g m Q (f d ρ m)
theorem PDG.can {e : Expr} {f : FG} {is : List Nat} (h : PDG X W e f is) : PG X e (cG X.K W f is) := by
  obtain ⟨t, p, s⟩ := h.ex
  refine ⟨fun pins s0 σ H v u Q I r q => ?_⟩
  obtain ⟨g, m, ρ, d, rfl, rp, en, iv, q⟩ := q
  exact p.run pins s0 σ g.H v u Q I r (s g m σ ρ v d Q rp en iv q)
theorem sd_cG {K : PySem.W.Frag} {f : FG} {is : List Nat} : SdG K W (cG K W f is) f is := fun g m σ ρ v d Q rp en iv q => ⟨g, m, ρ, d, rfl, rp, en, iv, q⟩
/-- contexts of a comprehension's block -/
abbrev Blk (X : Cx) (scope : Scope) (P : Cx → Prop) : Prop := ∀ (s : Shared) (H : Hp) (C : Addr) (cl : List (Str × Addr)) (fp : List Addr), P (X.blk s H scope (compEnvC scope cl C X.env) fp)
theorem pd_lc (mu : Bool) {elt tg iter : Expr} {ifs : List Expr} {scope : Scope} {own : List (Str × Nat)} {pos : Pos} {fi : FI} {fg : FG} {ft : FT} {fe : FE} {is : List Nat} (hc : X.calm = true) (hN : X.N.Nodup) (ok : BlkOk X.N X.env.scope scope own) (hi : PDI X W tg iter fi)
    (hg : Blk X scope fun Y => PDG Y W0 tg fg is) (his : ∀ i ∈ is, i ∈ own.map (·.2)) (ht : Blk X scope fun Y => PDTs Y W0 ifs ft) (he : Blk X scope fun Y => PD Y W0 elt fe) (hs : ∀ x, foldedSetIterable iter X.env x = pure x := by intro _; rfl) :
    PD X W (.ListComp elt [⟨tg, iter, ifs, 0⟩] scope pos) (eLc mu (own.map (·.2)) fi fg ft fe) := by
  obtain ⟨w, pi, si⟩ := hi.ex
  refine ⟨⟨_, pe_lc (own := own) (g := cG X.K W0 fg is) (tt := cT X.K W0 ft) (te := cE X.K W0 fe) hc hN pi ok (fun s H C cl fp => (hg s H C cl fp).can) (fun s H C cl fp => (ht s H C cl fp).can) (fun s H C cl fp => (he s H C cl fp).can) hs, fun g m σ ρ Q rp en q => ?_⟩⟩
  refine si g m σ ρ _ rp en (pre_bind q fun g1 m1 J ds rp1 l1 ok1 q1 => ?_)
  exact fun p hp => lc_loop sd_cG his sd_cT sd_cE rp1 (en.le l1) ok1 q1 p hp
end
end DL
end
section
set_option maxRecDepth 100000
set_option maxHeartbeats 2000000
/-! The data layer, part 7: statements. -/
namespace DL
open PySem L2
open Classical

inductive RS where
  | nx (ρ : EnvD) (m : Mem) | rt (d : D) (m : Mem) | bk (ρ : EnvD) (m : Mem) | ct (ρ : EnvD) (m : Mem) | exc (x : Exn) (ρ : EnvD) (m : Mem) | bad
abbrev FS := EnvD → Mem → RS
def PreS (K : PySem.W.Frag) (W : WX) (g : Gh) (m : Mem) (D : Ends) : RS → Prop
  | .nx ρ' m' => ∀ g' σ', Rep K g' m' → Le g m g' m' → EnvOk K g' m' σ' ρ' → D.nx σ' g'.H
  | .rt d m' => ∀ g' v, Rep K g' m' → Le g m g' m' → IsG K g' m' v d → D.rt v g'.H
  | .bk ρ' m' => ∀ g' σ', Rep K g' m' → Le g m g' m' → EnvOk K g' m' σ' ρ' → D.bk σ' g'.H
  | .ct ρ' m' => ∀ g' σ', Rep K g' m' → Le g m g' m' → EnvOk K g' m' σ' ρ' → D.ct σ' g'.H
  | .exc x ρ' m' => ∀ g' σ' cls dc, Rep K g' m' → Le g m g' m' → EnvOk K g' m' σ' ρ' → IsX K g' m' cls dc x → W cls dc σ' g'.H
  | .bad => False
theorem PreS.le {K : PySem.W.Frag} {W : WX} {g g1 : Gh} {m m1 : Mem} {D : Ends} : ∀ {r : RS}, PreS K W g m D r → Le g m g1 m1 → PreS K W g1 m1 D r
  | .nx _ _, h, l => fun g' s rp l' e => h g' s rp (l.trans l') e
  | .rt _ _, h, l => fun g' s rp l' e => h g' s rp (l.trans l') e
  | .bk _ _, h, l => fun g' s rp l' e => h g' s rp (l.trans l') e
  | .ct _ _, h, l => fun g' s rp l' e => h g' s rp (l.trans l') e
  | .exc _ _ _, h, l => fun g' s c d rp l' e x => h g' s c d rp (l.trans l') e x
  | .bad, h, _ => h
def SdS (K : PySem.W.Frag) (W : WX) (t : TS) (f : FS) : Prop := ∀ g m σ ρ D, Rep K g m → EnvOk K g m σ ρ → PreS K W g m D (f ρ m) → t D σ g.H
structure PDS (X : Cx) (W : WX) (st : Stmt) (f : FS) : Prop where
  ex : ∃ t, PS X st t ∧ SdS X.K W t f
structure PDSs (X : Cx) (W : WX) (st : List Stmt) (f : FS) : Prop where
  ex : ∃ t, PSs X st t ∧ SdS X.K W t f
/-- an expression's result, and what follows -/
def onE {B : Type} (r : Res B) (ρ : EnvD) (k : B → Mem → RS) : RS := match r with
  | .ok d m => k d m
  | .exc x m => .exc x ρ m
  | .bad => .bad
@[simp] theorem onE_ok {B : Type} (d : B) (m : Mem) (ρ : EnvD) (k : B → Mem → RS) : onE (.ok d m) ρ k = k d m := rfl
@[simp] theorem onE_exc {B : Type} (x : Exn) (m : Mem) (ρ : EnvD) (k : B → Mem → RS) : onE (.exc x m) ρ k = .exc x ρ m := rfl
@[simp] theorem onE_bad {B : Type} (ρ : EnvD) (k : B → Mem → RS) : onE .bad ρ k = .bad := rfl
theorem preS_on {A B : Type} {R : Gh → Mem → A → B → Prop} {K : PySem.W.Frag} {W : WX} {σ : St} {ρ : EnvD} {g : Gh} {m : Mem} {D : Ends} {Q : A → Hp → Prop} {r : Res B} {k : B → Mem → RS} (en : EnvOk K g m σ ρ) (h : PreS K W g m D (onE r ρ k))
    (hk : ∀ g1 m1 a b, Rep K g1 m1 → Le g m g1 m1 → R g1 m1 a b → PreS K W g1 m1 D (k b m1) → Q a g1.H) : Pre R K W σ g m Q r := by
  cases r with
  | ok b m1 => exact fun g1 a rp l ra => hk g1 m1 a b rp l ra (PreS.le h l)
  | exc x m1 => exact fun g1 c d rp l ix => h g1 σ c d rp l (en.le l) ix
  | bad => exact h
def sSeq (a b : FS) : FS := fun ρ m => match a ρ m with
  | .nx ρ1 m1 => b ρ1 m1
  | r => r
def sNx : FS := fun ρ m => .nx ρ m
def sBk : FS := fun ρ m => .bk ρ m
def sCt : FS := fun ρ m => .ct ρ m
def sBad : FS := fun _ _ => .bad
def sEx (a : FE) : FS := fun ρ m => onE (a ρ m) ρ fun _ m1 => .nx ρ m1
def sRt (a : FE) : FS := fun ρ m => onE (a ρ m) ρ fun d m1 => .rt d m1
def sRtN : FS := fun _ m => .rt .non m
def sIf (c : FT) (a b : FS) : FS := fun ρ m => onE (c ρ m) ρ fun x m1 => if x = true then a ρ m1 else b ρ m1
def sSet (i : Nat) (a : FE) : FS := fun ρ m => onE (a ρ m) ρ fun d m1 => .nx (ρ.set i (some d)) m1
def sAsg (a : FE) (g : FG) : FS := fun ρ m => onE (a ρ m) ρ fun d m1 => onE (g d ρ m1) ρ fun ρ1 m2 => .nx ρ1 m2
def sPar (i j : Nat) (a : FA) : FS := fun ρ m => onE (a ρ m) ρ fun ds m1 => match ds with
  | [x, y] => .nx ((ρ.set i (some x)).set j (some y)) m1
  | _ => .bad
def sPar3 (i j k : Nat) (a : FA) : FS := fun ρ m => onE (a ρ m) ρ fun ds m1 => match ds with
  | [x, y, z] => .nx (((ρ.set i (some x)).set j (some y)).set k (some z)) m1
  | _ => .bad
section
variable {X : Cx} {W : WX} {pos : Pos} {e : Expr} {f : FE} {st : Stmt} {sts : List Stmt} {a b : FS}
theorem pdss_nil : PDSs X W [] sNx := ⟨⟨_, pss_nil, fun g m σ ρ D rp en q => q g σ rp (Le.refl _ _) en⟩⟩
theorem sd_seq {K : PySem.W.Frag} {t u : TS} (h1 : SdS K W t a) (h2 : SdS K W u b) : SdS K W (tSeq t u) (sSeq a b) := fun g m σ ρ D rp en q => by
  refine h1 g m σ ρ _ rp en ?_
  unfold sSeq at q
  cases hf : a ρ m with
  | nx ρ1 m1 =>
    rw [hf] at q
    exact fun g1 σ1 rp1 l1 en1 => h2 g1 m1 σ1 ρ1 D rp1 en1 (PreS.le q l1)
  | rt d m1 => rw [hf] at q; exact q
  | bk ρ1 m1 => rw [hf] at q; exact q
  | ct ρ1 m1 => rw [hf] at q; exact q
  | exc x ρ1 m1 => rw [hf] at q; exact q
  | bad => rw [hf] at q; exact q
theorem pdss_cons (h1 : PDS X W st a) (h2 : PDSs X W sts b) : PDSs X W (st :: sts) (sSeq a b) := by
  obtain ⟨t, p, s⟩ := h1.ex
  obtain ⟨t', p', s'⟩ := h2.ex
  exact ⟨⟨_, pss_cons p p', sd_seq s s'⟩⟩
theorem pdss_one (h1 : PDS X W st a) : PDSs X W [st] a := let ⟨t, p, s⟩ := h1.ex; ⟨⟨t, pss_one p, s⟩⟩
theorem pds_never : PDS X W st sBad := ⟨⟨_, ps_never, fun g m σ ρ D rp en q => q⟩⟩
theorem pdss_never : PDSs X W sts sBad := ⟨⟨_, pss_never, fun g m σ ρ D rp en q => q⟩⟩
theorem pds_pass : PDS X W (.Pass pos) sNx := ⟨⟨_, ps_pass, fun g m σ ρ D rp en q => q g σ rp (Le.refl _ _) en⟩⟩
theorem pds_break : PDS X W (.Break pos) sBk := ⟨⟨_, ps_break, fun g m σ ρ D rp en q => q g σ rp (Le.refl _ _) en⟩⟩
theorem pds_continue : PDS X W (.Continue pos) sCt := ⟨⟨_, ps_continue, fun g m σ ρ D rp en q => q g σ rp (Le.refl _ _) en⟩⟩
theorem pds_expr (h : PD X W e f) (hs : swapsWith e none pos.line X.env = pure false := by rfl) : PDS X W (.Expr e pos) (sEx f) := by
  obtain ⟨t, p, s⟩ := h.ex
  exact ⟨⟨_, ps_expr p hs, fun g m σ ρ D rp en q => s g m σ ρ _ rp en (preS_on en q fun g1 m1 v d rp1 l1 iv q1 => q1 g1 σ rp1 (Le.refl _ _) (en.le l1))⟩⟩
theorem pds_ret (h : PD X W e f) : PDS X W (.Return (some e) pos) (sRt f) := by
  obtain ⟨t, p, s⟩ := h.ex
  exact ⟨⟨_, ps_ret p, fun g m σ ρ D rp en q => s g m σ ρ _ rp en (preS_on en q fun g1 m1 v d rp1 l1 iv q1 => q1 g1 v rp1 (Le.refl _ _) iv)⟩⟩
theorem pds_retN : PDS X W (.Return none pos) sRtN := ⟨⟨_, ps_retN, fun g m σ ρ D rp en q => q g .non rp (Le.refl _ _) .non⟩⟩
theorem pds_if {c : Expr} {sa sb : List Stmt} {fc : FT} (hc : PDT X W c fc) (ha : PDSs X W sa a) (hb : PDSs X W sb b) : PDS X W (.If c sa sb pos) (sIf fc a b) := by
  obtain ⟨t, p, s⟩ := hc.ex
  obtain ⟨t1, p1, s1⟩ := ha.ex
  obtain ⟨t2, p2, s2⟩ := hb.ex
  refine ⟨⟨_, ps_if p p1 p2, fun g m σ ρ D rp en q => s g m σ ρ _ rp en (preS_on en q fun g1 m1 x x' rp1 l1 ix q1 => ?_)⟩⟩
  have ex : x = x' := ix
  subst ex
  cases x with
  | true => rw [if_pos rfl] at q1 ⊢; exact s1 g1 m1 σ ρ D rp1 (en.le l1) q1
  | false => rw [if_neg Bool.false_ne_true] at q1 ⊢; exact s2 g1 m1 σ ρ D rp1 (en.le l1) q1
theorem pds_set (i : Nat) {x : Str} {pos' : Pos} (hN : X.N.Nodup) (he : PD X W e f) (hi : X.N[i]? = some x := by rfl) (hx : Loc X.env.scope x := by first | exact Or.inl rfl | exact Or.inr rfl) (hs : swapsWith e (some (.Name x pos')) pos.line X.env = pure false := by rfl)
    (hf : X.fn x = true ∨ X.env.scope.names.lookup x = some .local := by first | exact .inl rfl | exact .inr rfl | assumption) : PDS X W (.Assign [.Name x pos'] e pos) (sSet i f) := by
  obtain ⟨t, p, s⟩ := he.ex
  exact ⟨⟨_, ps_set hN hi hx p hs hf, fun g m σ ρ D rp en q => s g m σ ρ _ rp en (preS_on en q fun g1 m1 v d rp1 l1 iv q1 => q1 g1 (σ.set i (some v)) rp1 (Le.refl _ _) ((en.le l1).set i iv))⟩⟩
theorem pds_asg {tg : Expr} {fg : FG} {is : List Nat} (he : PD X W e f) (hg : PDG X W tg fg is) (hs : swapsWithSole [tg] e pos.line X.env = pure false := by rfl) (hw : swappedStores [tg] e X.env = pure none := by rfl)
    (h1 : (assignEach [tg] X.env).map (·.2) = [assign tg X.env] := by rfl) : PDS X W (.Assign [tg] e pos) (sAsg f fg) := by
  obtain ⟨t, p, s⟩ := he.ex
  obtain ⟨t', p', s'⟩ := hg.ex
  refine ⟨⟨_, ps_asg p p' hs hw h1, fun g m σ ρ D rp en q => s g m σ ρ _ rp en (preS_on en q fun g1 m1 v d rp1 l1 iv q1 => ?_)⟩⟩
  exact s' g1 m1 σ ρ v d _ rp1 (en.le l1) iv (preS_on (en.le l1) q1 fun g2 m2 σ2 ρ2 rp2 l2 r2 q2 => q2 g2 σ2 rp2 (Le.refl _ _) r2.1)
theorem pds_par (i j : Nat) {x y : Str} {a b : Expr} {fa : FA} {px py pt : Pos} {kt k2 pt2} (hc : X.calm = true) (hN : X.N.Nodup) (ha : PDA X W [a, b] fa) (hi : X.N[i]? = some x := by rfl) (hj : X.N[j]? = some y := by rfl) (hij : i ≠ j := by decide)
    (hx : X.env.scope.names.lookup x = some .local := by rfl) (hy : X.env.scope.names.lookup y = some .local := by rfl)
    (hw : swappedStores [.Tuple [.Name x px, .Name y py] kt pt] (.Tuple [a, b] k2 pt2) X.env = pure (some [x, y]) := by rfl)
    (hs : swapsWithSole [.Tuple [.Name x px, .Name y py] kt pt] (.Tuple [a, b] k2 pt2) pos.line X.env = pure false := by rfl) :
    PDS X W (.Assign [.Tuple [.Name x px, .Name y py] kt pt] (.Tuple [a, b] k2 pt2) pos) (sPar i j fa) := by
  obtain ⟨t, p, s⟩ := ha.ex
  refine ⟨⟨_, ps_par hc hN hi hj hij hx hy p hw hs, fun g m σ ρ D rp en q => s g m σ ρ _ rp en (preS_on en q fun g1 m1 vs ds rp1 l1 il q1 => ?_)⟩⟩
  cases il with
  | nil => exact q1.elim
  | cons i1 il =>
    cases il with
    | nil => exact q1.elim
    | cons i2 il =>
      cases il with
      | cons _ _ => exact q1.elim
      | nil => exact ⟨_, _, rfl, q1 g1 _ rp1 (Le.refl _ _) (((en.le l1).set i i1).set j i2)⟩
/-- name = [..] on one line -/
theorem pds_setLc (mu : Bool) (i : Nat) {y : Str} {py : Pos} {elt tg iter : Expr} {ifs : List Expr} {scope : Scope} {own : List (Str × Nat)} {lpos : Pos} {fi : FI} {fg : FG} {ft : FT} {fe : FE} {is : List Nat} (hc : X.calm = true) (hN : X.N.Nodup)
    (ok : BlkOk X.N X.env.scope scope own) (hi : PDI X W tg iter fi)
    (hg : Blk X scope fun Y => PDG Y W0 tg fg is) (his : ∀ i ∈ is, i ∈ own.map (·.2)) (ht : Blk X scope fun Y => PDTs Y W0 ifs ft) (he : Blk X scope fun Y => PD Y W0 elt fe)
    (hy : X.N[i]? = some y := by rfl) (hyl : X.env.scope.names.lookup y = some .local := by rfl)
    (hsw : swapsWith (.ListComp elt [⟨tg, iter, ifs, 0⟩] scope lpos) (some (.Name y py)) pos.line X.env = pure true := by exact sw_true rfl rfl rfl (by decide +kernel)) (hs : ∀ x, foldedSetIterable iter X.env x = pure x := by intro _; rfl) :
    PDS X W (.Assign [.Name y py] (.ListComp elt [⟨tg, iter, ifs, 0⟩] scope lpos) pos) (sSet i (eLc mu (own.map (·.2)) fi fg ft fe)) := by
  obtain ⟨w, pi, si⟩ := hi.ex
  refine ⟨⟨_, ps_setLc (own := own) (g := cG X.K W0 fg is) (tt := cT X.K W0 ft) (te := cE X.K W0 fe) hc hN hy hyl hsw pi ok (fun s H C cl fp => (hg s H C cl fp).can) (fun s H C cl fp => (ht s H C cl fp).can) (fun s H C cl fp => (he s H C cl fp).can) hs, fun g m σ ρ D rp en q => ?_⟩⟩
  have z : SdE X.K W (tLc w (cG X.K W0 fg is) (cT X.K W0 ft) (cE X.K W0 fe) (own.map (·.2))) (eLc mu (own.map (·.2)) fi fg ft fe) := fun g m σ ρ Q rp en q =>
    si g m σ ρ _ rp en (pre_bind q fun g1 m1 J ds rp1 l1 ok1 q1 => fun p hp => lc_loop sd_cG his sd_cT sd_cE rp1 (en.le l1) ok1 q1 p hp)
  exact z g m σ ρ _ rp en (preS_on en q fun g1 m1 v d rp1 l1 iv q1 => q1 g1 (σ.set i (some v)) rp1 (Le.refl _ _) ((en.le l1).set i iv))
end

/-! ### for -/
def forGo (fg : FG) (fb : FS) : List D → EnvD → Mem → RS
  | [], ρ, m => .nx ρ m
  | x :: xs, ρ, m => match fg x ρ m with
    | .ok ρ2 m2 => (match fb ρ2 m2 with
      | .nx ρ3 m3 => forGo fg fb xs ρ3 m3
      | .ct ρ3 m3 => forGo fg fb xs ρ3 m3
      | .bk ρ3 m3 => .nx ρ3 m3
      | .rt d m3 => .rt d m3
      | .exc x ρ3 m3 => .exc x ρ3 m3
      | .bad => .bad)
    | _ => .bad
def sFor (fi : FI) (fg : FG) (fb : FS) : FS := fun ρ m => onE (fi ρ m) ρ fun ds m1 => forGo fg fb ds ρ m1
theorem for_loop {K : PySem.W.Frag} {W : WX} {J : It} {tg : TG} {tb : TS} {fg : FG} {fb : FS} {is : List Nat} {σ : St} {ρ : EnvD} {g1 : Gh} {m1 : Mem} {ds : List D} {D : Ends} (hg : SdG K W tg fg is) (hb : SdS K W tb fb) (rp : Rep K g1 m1) (en : EnvOk K g1 m1 σ ρ) (ok : IterOk K J g1 m1 ds)
    (q : PreS K W g1 m1 D (forGo fg fb ds ρ m1)) :
    ∃ Wd : Nat → Nat → St → Hp → Prop, (∃ m, Wd 0 m σ g1.H) ∧ ∀ i m σ H, Wd i m σ H →
      (J.stop i H ∧ D.nx σ H) ∨ (J.go i H ∧ ∃ N : St → Hp → Prop, (∀ σ' H', N σ' H' → ∃ m', m' < m ∧ Wd (i + 1) m' σ' H') ∧ ∀ x H', J.yld i H x H' → tg x σ H' fun σ2 H2 => tb { D with nx := N, ct := N, bk := D.nx } σ2 H2) := by
  refine ⟨fun i k σ H => k = ds.length - i ∧ i ≤ ds.length ∧ ∃ g m ρ, g.H = H ∧ Rep K g m ∧ Le g1 m1 g m ∧ EnvOk K g m σ ρ ∧ PreS K W g1 m1 D (forGo fg fb (ds.drop i) ρ m), ⟨ds.length, by simp, Nat.zero_le _, g1, m1, ρ, rfl, rp, Le.refl _ _, en, by simpa using q⟩, ?_⟩
  rintro i k σ H ⟨rfl, hi, g, m, ρ, rfl, rpg, le, en, qi⟩
  by_cases hlt : i < ds.length
  · obtain ⟨d, ed⟩ : ∃ d, ds[i]? = some d := ⟨ds[i], by simp [hlt]⟩
    have hdrop : ds.drop i = d :: ds.drop (i + 1) := by
      rw [List.drop_eq_getElem_cons hlt]
      congr 1
      have := List.getElem?_eq_getElem hlt
      rw [ed] at this
      exact (Option.some.inj this).symm
    rw [hdrop] at qi
    obtain ⟨hgo, hy⟩ := ok.go g m rpg le.w i d ed
    refine .inr ⟨hgo, _, fun σ' H' n => n, fun x H' y => ?_⟩
    obtain ⟨g2, rfl, rp2, l2, ix⟩ := hy x H' y
    have fin : ∀ (g4 : Gh) (m4 : Mem) (σ4 : St) (ρ4 : EnvD), Rep K g4 m4 → Le g1 m1 g4 m4 → EnvOk K g4 m4 σ4 ρ4 → PreS K W g1 m1 D (forGo fg fb (ds.drop (i + 1)) ρ4 m4) →
        ∃ m', m' < ds.length - i ∧ (m' = ds.length - (i + 1) ∧ i + 1 ≤ ds.length ∧ ∃ g m ρ, g.H = g4.H ∧ Rep K g m ∧ Le g1 m1 g m ∧ EnvOk K g m σ4 ρ ∧ PreS K W g1 m1 D (forGo fg fb (ds.drop (i + 1)) ρ m)) := fun g4 m4 σ4 ρ4 a b c d =>
      ⟨ds.length - (i + 1), by omega, rfl, hlt, g4, m4, ρ4, rfl, a, b, c, d⟩
    rw [forGo] at qi
    cases hf : fg d ρ m with
    | exc x m3 => rw [hf] at qi; exact qi.elim
    | bad => rw [hf] at qi; exact qi.elim
    | ok ρ3 m3 =>
      rw [hf] at qi
      refine hg g2 m σ ρ x d _ rp2 (en.le l2) ix ?_
      rw [hf]
      intro g3 σ3 rp3 l3 r3
      refine hb g3 m3 σ3 ρ3 _ rp3 r3.1 ?_
      have l13 : Le g1 m1 g3 m3 := (le.trans l2).trans l3
      simp only at qi
      cases hb2 : fb ρ3 m3 with
      | nx ρ4 m4 => rw [hb2] at qi; exact fun g4 σ4 rp4 l4 e4 => fin g4 m4 σ4 ρ4 rp4 (l13.trans l4) e4 qi
      | ct ρ4 m4 => rw [hb2] at qi; exact fun g4 σ4 rp4 l4 e4 => fin g4 m4 σ4 ρ4 rp4 (l13.trans l4) e4 qi
      | bk ρ4 m4 => rw [hb2] at qi; exact fun g4 σ4 rp4 l4 e4 => qi g4 σ4 rp4 (l13.trans l4) e4
      | rt v m4 => rw [hb2] at qi; exact fun g4 σ4 rp4 l4 e4 => qi g4 σ4 rp4 (l13.trans l4) e4
      | exc v ρ4 m4 => rw [hb2] at qi; exact fun g4 σ4 c d rp4 l4 e4 x4 => qi g4 σ4 c d rp4 (l13.trans l4) e4 x4
      | bad => rw [hb2] at qi; exact qi.elim
  · have e : i = ds.length := by omega
    subst e
    rw [List.drop_length] at qi
    exact .inl ⟨ok.stop g m rpg le.w, qi g σ rpg le en⟩
theorem pds_for {X : Cx} {W : WX} {tg iter : Expr} {body : List Stmt} {fi : FI} {fg : FG} {fb : FS} {is : List Nat} {pos : Pos} (hp : PassesOwn (model X.prog X.w) X.A X.env X.xe) (hc : X.calm = true) (hi : PDI X W tg iter fi) (hg : PDG X W tg fg is) (hb : PDSs X W body fb)
    (hs : ∀ x, foldedSetIterable iter X.env x = pure x := by intro _; rfl) : PDS X W (.For tg iter body [] pos) (sFor fi fg fb) := by
  obtain ⟨w, pi, si⟩ := hi.ex
  obtain ⟨t, pt, st⟩ := hg.ex
  obtain ⟨t', pt', st'⟩ := hb.ex
  refine ⟨⟨_, ps_for hp hc pi pt pt' hs, fun g m σ ρ D rp en q => si g m σ ρ _ rp en (preS_on en q fun g1 m1 J ds rp1 l1 ok1 q1 => ?_)⟩⟩
  exact for_loop st st' rp1 (en.le l1) ok1 q1
end DL
end
section
set_option maxRecDepth 100000
set_option maxHeartbeats 2000000
/-! The data layer, part 8: defs and their calls, instances, mutable lists, freezing. -/
namespace DL
open PySem L2
open Classical

/-! ### one of two readings, by what the data say -/
def orR {B : Type} : Res B → Res B → Res B
  | .bad, r => r
  | r, _ => r
def eOrE (a b : FE) : FE := fun ρ m => orR (a ρ m) (b ρ m)
theorem PD.or {X : Cx} {W : WX} {e : Expr} {f f' : FE} (h : PD X W e f) (h' : PD X W e f') : PD X W e (eOrE f f') := by
  obtain ⟨t, p, s⟩ := h.ex
  obtain ⟨t', p', s'⟩ := h'.ex
  refine ⟨⟨_, PE.or p p', fun g m σ ρ Q rp en q => ?_⟩⟩
  unfold eOrE at q
  have s1 := s g m σ ρ Q rp en
  cases hf : f ρ m with
  | ok d m1 => rw [hf] at q s1; exact .inl (s1 q)
  | exc x m1 => rw [hf] at q s1; exact .inl (s1 q)
  | bad => rw [hf] at q; exact .inr (s' g m σ ρ Q rp en q)

/-! ### freezing -/
noncomputable def frzR (m0 : Mem) (d : D) (m1 : Mem) : Res D := match d with
  | .mref i => match m1[i]? with
    | some (.lst xs) => .ok (.lst xs) (cut m0 (m1.set i .gone) [.lst xs])
    | some (.dK xs) => .ok (.dK xs) (cut m0 (m1.set i .gone) [.dK xs])
    | some (.dT xs) => .ok (.dT xs) (cut m0 (m1.set i .gone) [.dT xs])
    | some (.ins c xs) => .ok (.ins c xs) (cut m0 (m1.set i .gone) [.ins c xs])
    | _ => .bad
  | d => .ok d m1
noncomputable def eFrz (a : FE) : FE := fun ρ m => (a ρ m).bind fun d m1 => frzR m d m1
theorem frz_ok {K : PySem.W.Frag} {W : WX} {σ : St} {g g1 : Gh} {m m1 : Mem} {Q : VK} {v : V} {d : D} (rp : Rep K g m) (rp1 : Rep K g1 m1) (l1 : Le g m g1 m1) (iv : IsG K g1 m1 v d) (q : Pre (RE K) K W σ g m Q (frzR m d m1)) : Q v g1.H := by
  cases iv <;> try exact q g1 _ rp1 l1 (by first | exact .non | exact .bl _ | exact .int _ | exact .str _ | exact .ty _ | exact .glo _ | (constructor <;> assumption))
  rename_i i hi
  simp only [frzR] at q
  have fin : ∀ (o : HO) (d' : D) (mo : MO), m1[i]? = some mo → mo ≠ .gone → isLk mo = false → g1.H (g1.al i) = some o → (∀ F', (∀ b u, g1.F b = some u → F' b = some u) → F' (g1.al i) = some o → Is K F' g1.al m1.length (.ref (g1.al i)) d') →
      Pre (RE K) K W σ g m Q (.ok d' (cut m (m1.set i .gone) [d'])) → Q (.ref (g1.al i)) g1.H := fun o d' mo e n k ho is q => by
    obtain ⟨rp2, l2⟩ := rp1.freeze e n k ho
    have hf : g1.F (g1.al i) = none := ((rp1.live ⟨mo, e, n⟩).elim fun _ h => h.2)
    have i2 : IsG K ⟨g1.H, upd g1.F (g1.al i) o, g1.al⟩ (m1.set i .gone) (.ref (g1.al i)) d' := by
      show Is K _ _ _ _ _
      rw [List.length_set]
      exact is _ (fun b u h => upd_some hf h) upd_same
    obtain ⟨rp3, l3, i3⟩ := cut_ok rp rp2 (l1.trans l2) (.cons i2 .nil)
    cases i3 with
    | cons i3 _ => exact q ⟨g1.H, upd g1.F (g1.al i) o, g1.al⟩ _ rp3 l3 i3
  split at q
  · rename_i xs e
    obtain ⟨_, vs, h1, h2, h3⟩ := rp1.mem i _ e
    exact fin (.lst vs) _ _ e (fun z => by cases z) rfl h1 (fun F' mF hF => .lst hF h2 (h3.mono mF (fun _ _ => rfl) (Nat.le_refl _))) q
  · rename_i xs e
    obtain ⟨_, vs, h1, h2, h3⟩ := rp1.mem i _ e
    exact fin (.dK vs) _ _ e (fun z => by cases z) rfl h1 (fun F' mF hF => .dK hF h2 (h3.mono mF (fun _ _ => rfl) (Nat.le_refl _))) q
  · rename_i xs e
    obtain ⟨_, vs, h1, h2, h3⟩ := rp1.mem i _ e
    exact fin (.dT vs) _ _ e (fun z => by cases z) rfl h1 (fun F' mF hF => .dT hF h2 (h3.mono mF (fun _ _ => rfl) (Nat.le_refl _))) q
  · rename_i c xs e
    obtain ⟨_, dx, vs, h1, h2, h3⟩ := rp1.mem i _ e
    exact fin (.ins _ dx vs) _ _ e (fun z => by cases z) rfl h1 (fun F' mF hF => .ins hF h2 (h3.mono mF (fun _ _ => rfl) (Nat.le_refl _))) q
  · exact q.elim
theorem pd_frz {X : Cx} {W : WX} {e : Expr} {f : FE} (h : PD X W e f) : PD X W e (eFrz f) := by
  obtain ⟨t, p, s⟩ := h.ex
  refine ⟨⟨t, p, fun g m σ ρ Q rp en q => ?_⟩⟩
  refine s g m σ ρ Q rp en ?_
  unfold eFrz at q
  cases hf : f ρ m with
  | bad => rw [hf] at q; exact q
  | exc x m1 => rw [hf] at q; exact q
  | ok d m1 =>
    rw [hf] at q
    exact fun g1 v rp1 l1 iv => frz_ok rp rp1 l1 iv q

/-! ### instances -/
def insV (m : Mem) : D → Option (Str × List (Str × D))
  | .ins c fs => some (c, fs)
  | .mref i => match m[i]? with
    | some (.ins c fs) => some (c, fs)
    | _ => none
  | _ => none
theorem insV_ok {K : PySem.W.Frag} {g : Gh} {m : Mem} {v : V} {d : D} {c : Str} {fs : List (Str × D)} (rp : Rep K g m) (iv : IsG K g m v d) (h : insV m d = some (c, fs)) :
    ∃ a dx vs, v = .ref a ∧ g.H a = some (.ins (He.ga K c) dx vs) ∧ vs.map (·.1) = fs.map (·.1) ∧ IsGL K g m (vs.map (·.2)) (fs.map (·.2)) := by
  cases iv <;> simp only [insV] at h <;> try (cases h; done)
  · rename_i a dx c' vs ds s k l
    cases h
    exact ⟨_, _, _, rfl, rp.at_ s (fun z => z), k, l⟩
  · rename_i i hi
    split at h
    · rename_i c' fs' e
      cases h
      obtain ⟨_, dx, vs, h1, h2, h3⟩ := rp.mem i _ e
      exact ⟨_, dx, vs, rfl, h1, h2, h3⟩
    · cases h
theorem lookup_is {K : PySem.W.Frag} {F : Hp} {al : Nat → Addr} {n : Nat} {f : Str} : ∀ {vs : List (Str × V)} {ds : List (Str × D)} {d : D}, vs.map (·.1) = ds.map (·.1) → IsL K F al n (vs.map (·.2)) (ds.map (·.2)) → ds.lookup f = some d → ∃ v, vs.lookup f = some v ∧ Is K F al n v d
  | [], [], _, _, _, h => by cases h
  | [], _ :: _, _, e, _, _ => by cases e
  | _ :: _, [], _, e, _, _ => by cases e
  | (a, x) :: vs, (b, y) :: ds, d, e, l, h => by
    rw [List.map_cons, List.map_cons] at e
    injection e with e1 e2
    simp only at e1
    subst e1
    cases l with
    | cons i t =>
      rw [List.lookup_cons] at h ⊢
      split at h
      · cases h
        exact ⟨_, rfl, i⟩
      · exact lookup_is e2 t h
theorem lookup_no {f : Str} : ∀ {vs : List (Str × V)} {ds : List (Str × D)}, vs.map (·.1) = ds.map (·.1) → ds.lookup f = none → vs.lookup f = none
  | [], [], _, _ => rfl
  | [], _ :: _, e, _ => by cases e
  | _ :: _, [], e, _ => by cases e
  | (a, x) :: vs, (b, y) :: ds, e, h => by
    rw [List.map_cons, List.map_cons] at e
    injection e with e1 e2
    simp only at e1
    subst e1
    rw [List.lookup_cons] at h ⊢
    split at h
    · cases h
    · exact lookup_no e2 h
/-- e.f, of an instance of one of the classes cs -/
def eAt (cs : List Str) (f : Str) (o : FE) : FE := fun ρ m => (o ρ m).bind fun x m1 => match insV m1 x with
  | some (c, fs) => if c ∈ cs then (match fs.lookup f with
    | some d => .ok d m1
    | none => .bad) else .bad
  | none => .bad
theorem pd_at {X : Cx} {W : WX} {e : Expr} {fo : FE} {f : Str} {cs : List Str} {pos : Pos} (ha : ∀ c ∈ cs, Cls X.K (He.ga X.K c) ∧ NoAttr X.K (He.ga X.K c) f) (h : PD X W e fo) (hb : attributeBase e f X.env (eval e X.env) = eval e X.env := by rfl) : PD X W (.Attribute e f pos) (eAt cs f fo) := by
  obtain ⟨t, p, s⟩ := h.ex
  refine ⟨⟨_, pe_fld p hb, fun g m σ ρ Q rp en q => s g m σ ρ _ rp en (pre_bind q fun g1 m1 x dx rp1 l1 ix q1 => ?_)⟩⟩
  split at q1
  · rename_i c fs e1
    split at q1
    · rename_i hc
      split at q1
      · rename_i d e2
        obtain ⟨a, dx', vs, rfl, h1, h2, h3⟩ := insV_ok rp1 ix e1
        obtain ⟨v, e3, iv⟩ := lookup_is h2 h3 e2
        exact ⟨a, _, dx', vs, v, rfl, h1, (ha c hc).1, (ha c hc).2, e3, pre_val rp1 q1 iv⟩
      · exact q1.elim
    · exact q1.elim
  · exact q1.elim
/-- o.f = e, o a mutable instance -/
def putD (f : Str) (d : D) : List (Str × D) → List (Str × D)
  | [] => [(f, d)]
  | (a, x) :: r => if a = f then (a, d) :: r else (a, x) :: putD f d r
theorem put_is {K : PySem.W.Frag} {F : Hp} {al : Nat → Addr} {n : Nat} {f : Str} {v : V} {d : D} (iv : Is K F al n v d) : ∀ {vs : List (Str × V)} {ds : List (Str × D)}, vs.map (·.1) = ds.map (·.1) → IsL K F al n (vs.map (·.2)) (ds.map (·.2)) →
    (putF f v vs).map (·.1) = (putD f d ds).map (·.1) ∧ IsL K F al n ((putF f v vs).map (·.2)) ((putD f d ds).map (·.2))
  | [], [], _, _ => ⟨rfl, .cons iv .nil⟩
  | [], _ :: _, e, _ => by cases e
  | _ :: _, [], e, _ => by cases e
  | (a, x) :: vs, (b, y) :: ds, e, l => by
    rw [List.map_cons, List.map_cons] at e
    injection e with e1 e2
    simp only at e1
    subst e1
    cases l with
    | cons i t =>
      unfold putF putD
      split
      · rename_i hb
        exact ⟨by simp [e2], .cons iv t⟩
      · obtain ⟨h1, h2⟩ := put_is iv e2 t
        exact ⟨by simp [h1], .cons i h2⟩
def sFl (cs : List Str) (f : Str) (o e : FE) : FS := fun ρ m => onE (e ρ m) ρ fun d m1 => onE (o ρ m1) ρ fun x m2 => match x with
  | .mref i => (match m2[i]? with
    | some (.ins c fs) => if c ∈ cs ∧ fs.length < 1000 then .nx ρ (m2.set i (.ins c (putD f d fs))) else .bad
    | _ => .bad)
  | _ => .bad
theorem pds_fld {X : Cx} {W : WX} {o e : Expr} {fo fe : FE} {f : Str} {cs : List Str} {pos pos' : Pos} (ha : ∀ c ∈ cs, Cls X.K (He.ga X.K c) ∧ NoAttr X.K (He.ga X.K c) f) (ho : PD X W o fo) (he : PD X W e fe) (hs : swapsWith e (some (.Attribute o f pos')) pos.line X.env = pure false := by rfl) :
    PDS X W (.Assign [.Attribute o f pos'] e pos) (sFl cs f fo fe) := by
  obtain ⟨t, p, s⟩ := ho.ex
  obtain ⟨t', p', s'⟩ := he.ex
  refine ⟨⟨_, ps_fld p p' hs, fun g m σ ρ D rp en q => s' g m σ ρ _ rp en (preS_on en q fun g1 m1 v d rp1 l1 iv q1 => s g1 m1 σ ρ _ rp1 (en.le l1) (preS_on (en.le l1) q1 fun g2 m2 x dx rp2 l2 ix q2 => ?_))⟩⟩
  cases ix <;> try exact q2.elim
  rename_i i hi
  simp only at q2
  split at q2
  · rename_i c fs e1
    split at q2
    · rename_i hc
      obtain ⟨_, dx', vs, h1, h2, h3⟩ := rp2.mem i _ e1
      have el : vs.length = fs.length := by
        have := congrArg List.length h2
        simpa using this
      refine ⟨g2.al i, _, dx', vs, rfl, h1, (ha c hc.1).1, (ha c hc.1).2, by rw [el]; exact hc.2, ?_⟩
      obtain ⟨k1, k2⟩ := put_is (f := f) (iv.le l2) h2 h3
      obtain ⟨rp3, l3⟩ := rp2.write (o := .ins (He.ga X.K c) dx' (putF f v vs)) (mo' := .ins c (putD f d fs)) e1 (fun z => by cases z) rfl (fun ob u z => by rw [h1] at z; cases z) ⟨((rp2.live ⟨_, e1, fun z => by cases z⟩).elim fun _ h => h.2), dx', _, upd_same, k1, k2⟩
      exact q2 _ σ rp3 l3 (((en.le l1).le l2).le l3)
    · exact q2.elim
  · exact q2.elim

/-! ### mutable lists -/
/-- xs.append(e) -/
def eApp (o e : FE) : FE := fun ρ m => (o ρ m).bind fun x m1 => (match lstE m1 x with
  | some _ => (e ρ m1).bind fun d m2 => (match x with
    | .mref i => (match m2[i]? with
      | some (.lst xs) => if xs.length < sizeLine then .ok .non (m2.set i (.lst (xs ++ [d]))) else .bad
      | _ => .bad)
    | _ => .bad)
  | none => .bad)
/-- a mutable list is written -/
theorem lst_write {K : PySem.W.Frag} {g : Gh} {m : Mem} (rp : Rep K g m) {i : Nat} {xs ys : List D} {vs : List V} (e : m[i]? = some (.lst xs)) (hz : vs.length ≤ sizeLine) (il : IsGL K g m vs ys) :
    Rep K ⟨upd g.H (g.al i) (.lst vs), g.F, g.al⟩ (m.set i (.lst ys)) ∧ Le g m ⟨upd g.H (g.al i) (.lst vs), g.F, g.al⟩ (m.set i (.lst ys)) := by
  obtain ⟨hF, us, h1, h2, h3⟩ := rp.mem i _ e
  exact rp.write e (fun z => by cases z) rfl (fun ob u z => by rw [h1] at z; cases z) ⟨hF, vs, upd_same, hz, il⟩
theorem pd_append {X : Cx} {W : WX} {o e : Expr} {fo fe : FE} {apos pos : Pos} (ho : PD X W o fo) (he : PD X W e fe) (hb : attributeBase o "append" X.env (eval o X.env) = eval o X.env := by rfl) (hst : starEach (e :: []) X.env = (false, eval e X.env) :: starEach [] X.env := by rfl)
    (hfew : ((backTo pos (starEach [e] X.env)).all (fun x => !x.1) && (backToKw pos (keywordEach [] X.env)).all (fun x => x.1.isSome)
      && decide ([e].length + ([] : List Keyword).length + (if ([] : List Keyword).isEmpty then 0 else 1) < 30)) = true := by rfl)
    (hline : (apos.endLine == pos.line) = true := by rfl) (hpl : (backTo pos (starEach [] X.env)).any (·.1) = false := by rfl) : PD X W (.Call (.Attribute o "append" apos) [e] [] pos) (eApp fo fe) := by
  obtain ⟨t, p, s⟩ := ho.ex
  obtain ⟨t', p', s'⟩ := he.ex
  refine ⟨⟨_, pe_bm PySem.F.plainAttrs_list PySem.F.slot_list_append PySem.F.type_list_append mt_append p (pa_cons p' pa_nil hst) hb hfew hline hst hpl, fun g m σ ρ Q rp en q => s g m σ ρ _ rp en (pre_bind q fun g1 m1 x dx rp1 l1 ix q1 => ?_)⟩⟩
  split at q1
  · rename_i xs0 e0
    obtain ⟨a, vs0, rfl, h1, h2, h3⟩ := lstE_ok rp1 ix e0
    refine ⟨.inl ⟨rfl, _, SqL.of h1⟩, s' g1 m1 σ ρ _ rp1 (en.le l1) (pre_bind q1 fun g2 m2 v d rp2 l2 iv q2 => ?_)⟩
    have ix2 := ix.le l2
    cases ix2 <;> try exact q2.elim
    rename_i i hi
    simp only at q2
    split at q2
    · rename_i xs e1
      split at q2
      · rename_i hz
        obtain ⟨_, vs, k1, k2, k3⟩ := rp2.mem i _ e1
        have el := k3.length
        obtain ⟨rp3, l3⟩ := lst_write rp2 e1 (vs := vs ++ [v]) (by rw [List.length_append, List.length_singleton]; omega) (k3.append (.cons iv .nil))
        exact ⟨_, vs, v, rfl, rfl, k1, by omega, q2 _ .non rp3 l3 .non⟩
      · exact q2.elim
    · exact q2.elim
  · exact q1.elim
end DL
end
section
set_option maxRecDepth 100000
set_option maxHeartbeats 2000000
/-! The data layer, part 9: defs and their calls. -/
namespace DL
open PySem L2
open Classical

/-- what a def promises: it does what F says of data -/
def spD (K : PySem.W.Frag) (n : Nat) (F : HL) : Sp := fun vs H Q E => vs.length = n ∧ ∃ g m ds, g.H = H ∧ Rep K g m ∧ IsGL K g m vs ds ∧ Pre (RE K) K (fun c d _ H' => E c d H') [] g m Q (F ds m)
abbrev FnD (P : Program) (w : World) (K : PySem.W.Frag) (mg : Str → Option Value) (base : Heap) (k : Nat) (f : Addr) (fd : FuncData) (ps : List Str) (F : HL) : Prop := FnOk P w K mg base (L2.CX P w) k f fd ps (spD K ps.length F)
def startD (n : Nat) (ds : List D) : EnvD := ds.map some ++ List.replicate (n - ds.length) none
noncomputable def runF (n : Nat) (body : FS) : HL := fun ds m => match body (startD n ds) m with
  | .rt d m' => .ok d (cut m m' [d])
  | .nx _ m' => .ok .non (cut m m' [])
  | .exc x _ m' => .exc x (cut m m' (x.att.map (·.2)))
  | _ => .bad
theorem start_ok {K : PySem.W.Frag} {g : Gh} {m : Mem} {N : List Str} {vs : List V} {ds : List D} (il : IsGL K g m vs ds) : EnvOk K g m (L2.start N vs) (startD N.length ds) := by
  have el := il.length
  refine ⟨by unfold L2.start startD; simp [el], fun i d h => ?_⟩
  unfold startD at h
  by_cases hi : i < ds.length
  · rw [List.getElem?_append_left (by simpa using hi), List.getElem?_map] at h
    obtain ⟨d', e, q⟩ := Option.map_eq_some_iff.mp h
    cases q
    obtain ⟨v, ev, iv⟩ := il.get e
    refine ⟨v, ?_, iv⟩
    unfold L2.start
    rw [List.getElem?_append_left (by rw [List.length_map, el]; exact hi), List.getElem?_map, ev]
    rfl
  · rw [List.getElem?_append_right (by simpa using hi)] at h
    rw [List.getElem?_replicate] at h
    split at h
    · cases h
    · cases h
abbrev WD (E : XK) : WX := fun c d _ H => E c d H
section
variable {P : Program} {w : World} {K : PySem.W.Frag} {mg : Str → Option Value} {base : Heap}
/-- THE RULE for a def -/
theorem fn_ok {x qual : Str} {params : Arguments} {body : List Stmt} {scope : Scope} {dvs : List V} {kws : List (Str × V)} {f : Addr} {fd : FuncData} {N ps : List Str} {k : Nat} {fs : FS} (Fd : FunD K x qual params body scope dvs kws f fd) (S : FnScope N ps scope)
    (hb : ∀ (cdv : Value) (A : Around) (outer : List Env) (s : Shared) (H : Hp) (E : XK), Room k (A.deeper (PyProof.Rows.envOfC qual scope s.heap.objs.size f cdv)) → PDSs (cxOf (L2.CX P w) P w K mg base N qual scope f cdv A outer s H E) (WD E) body fs) :
    FnD P w K mg base (k + 1) f fd ps (runF N.length fs) := by
  refine Fd.ok S (fun vs H Q E h => h.1) (fun cdv A outer s H vs Q E hr h => ?_)
  obtain ⟨hl, g, m, ds, rfl, rp, il, q⟩ := h
  obtain ⟨t, p, sd⟩ := (hb cdv A outer s g.H E hr).ex
  refine ⟨t, p, sd g m (L2.start N vs) (startD N.length ds) _ rp (start_ok il) ?_⟩
  unfold runF at q
  cases hf : fs (startD N.length ds) m with
  | rt d m' =>
    rw [hf] at q
    intro g' v rp' l' iv
    obtain ⟨r3, l3, i3⟩ := cut_ok rp rp' l' (.cons iv .nil)
    cases i3 with
    | cons i3 _ => exact q g' v r3 l3 i3
  | nx ρ' m' =>
    rw [hf] at q
    intro g' σ' rp' l' en
    obtain ⟨r3, l3, i3⟩ := cut_ok rp rp' l' .nil
    exact q g' .non r3 l3 .non
  | exc x ρ' m' =>
    rw [hf] at q
    intro g' σ' cls dc rp' l' en ix
    obtain ⟨e1, e2⟩ := ix
    rcases e2 with e2 | ⟨dd, vs', h1, h2, h3, h4⟩
    · obtain ⟨r3, l3, i3⟩ := cut_ok (d := x.att.map (·.2)) rp rp' l' (by rw [e2]; exact .nil)
      exact q g' cls dc r3 l3 ⟨e1, .inl e2⟩
    · obtain ⟨r3, l3, i3⟩ := cut_ok rp rp' l' h4
      exact q g' cls dc r3 l3 ⟨e1, .inr ⟨dd, vs', h1, h2, h3, i3⟩⟩
  | bk ρ' m' => rw [hf] at q; exact q.elim
  | ct ρ' m' => rw [hf] at q; exact q.elim
  | bad => rw [hf] at q; exact q.elim
end
/-- what a call lets out at these slots -/
theorem Pre.at {A B : Type} {R : Gh → Mem → A → B → Prop} {K : PySem.W.Frag} {W : WX} {σ : St} {g : Gh} {m : Mem} {Q : A → Hp → Prop} : ∀ {r : Res B}, Pre R K W σ g m Q r → Pre R K (fun c d _ H' => W c d σ H') [] g m Q r
  | .ok _ _, q => q
  | .exc _ _, q => q
  | .bad, q => q
def eCall (n : Nat) (F : HL) (dds : List D) (a : FA) : FE := fun ρ m => (a ρ m).bind fun ds m1 => if (ds ++ dds).length = n then F (ds ++ dds) m1 else .bad
section
variable {X : Cx} {W : WX} {k : Nat} {f : Addr} {fd : FuncData} {ps : List Str} {F : HL} {x : Str} {p pos apos : Pos} {e o : Expr} {es : List Expr} {fa : FA} {dvs : List V} {dus : List Value} {dds : List D}
theorem sd_call {t : TA} (sa : SdA X.K W t fa) (hdd : ∀ g m, IsGL X.K g m dvs dds) : SdE X.K W (tCallSD (spD X.K ps.length F) dvs (WE W) t) (eCall ps.length F dds fa) := fun g m σ ρ Q rp en q =>
  sa g m σ ρ _ rp en (pre_bind q fun g1 m1 vs ds rp1 l1 il q1 => by
    split at q1
    · rename_i hl
      have il2 := il.append (hdd g1 m1)
      exact ⟨by rw [il2.length]; exact hl, g1, m1, _, rfl, rp1, il2, q1.at⟩
    · exact q1.elim)
theorem pd_call (G : FnD X.prog X.w X.K X.mg X.base k f fd ps F) (hr : Room k X.A) (tk : Takes X W) (hm : X.mg x = some (.ref f)) (hk : PySem.W.keepIn X.K (.ref f) = true) (hb : Binds X.K fd ps dus) (hd : Vals dvs dus) (hdd : ∀ g m, IsGL X.K g m dvs dds)
    (ha : PDA X W (e :: es) fa) (hg : Gl X x := by rfl) (hdb : (x == ("__debug__" : Str)) = false := by decide) (he : starEach (e :: es) X.env = (false, eval e X.env) :: starEach es X.env := by rfl) (hpl : (backTo pos (starEach es X.env)).any (·.1) = false := by rfl) :
    PD X W (.Call (.Name x p) (e :: es) [] pos) (eCall ps.length F dds fa) := by
  obtain ⟨t, pa, sa⟩ := ha.ex
  exact ⟨⟨_, pe_callSD G hr hg hm hk hb hd (fun σ => passAt tk σ) pa hdb he hpl, sd_call sa hdd⟩⟩
/-- the exception part does not look at slots: Passes -/
theorem passes_flat (tk : Takes X W) {σ0 : St} (hW : Flat W) : Passes (L2.CX X.prog X.w) X (WE W σ0) := passes_call tk fun c d σ H h => hW c d σ0 σ H h
theorem pd_call0 (G : FnD X.prog X.w X.K X.mg X.base k f fd ps F) (hr : Room k X.A) (tk : Takes X W) (hW : Flat W) (hm : X.mg x = some (.ref f)) (hk : PySem.W.keepIn X.K (.ref f) = true) (hb : Binds X.K fd ps dus) (hd : Vals dvs dus) (hdd : ∀ g m, IsGL X.K g m dvs dds)
    (hg : Gl X x := by rfl) (hdb : (x == ("__debug__" : Str)) = false := by decide) : PD X W (.Call (.Name x p) [] [] pos) (eCall ps.length F dds aNil) := by
  refine ⟨⟨_, pe_call0 (E := WE W []) G hr hg hm hk hb hd (passes_flat tk hW) hdb, fun g m σ ρ Q rp en q => ?_⟩⟩
  unfold eCall aNil at q
  simp only [bind_ok, List.nil_append] at q
  split at q
  · rename_i hl
    exact ⟨by rw [List.nil_append, (hdd g m).length]; exact hl, g, m, dds, rfl, rp, hdd g m, (Pre.flat (σ' := []) hW q).at⟩
  · exact q.elim
/-- o.m(..) of an instance of the class c -/
def eMeth (c mn : Str) (n : Nat) (F : HL) (dds : List D) (o : FE) (a : FA) : FE := fun ρ m => (o ρ m).bind fun x m1 => (match insV m1 x with
  | some (c', fs) => if c' = c ∧ fs.lookup mn = none then (a ρ m1).bind fun ds m2 => if (x :: (ds ++ dds)).length = n then F (x :: (ds ++ dds)) m2 else .bad else .bad
  | none => .bad)
theorem sd_meth {c mn : Str} {fo : FE} {ta : TE} {t : TA} {σ0 : St} (hW : Flat W) (so : SdE X.K W ta fo) (sa : SdA X.K W t fa) (hdd : ∀ g m, IsGL X.K g m dvs dds) : SdE X.K W (tMeth (He.ga X.K c) mn (spD X.K ps.length F) dvs (WE W σ0) ta t) (eMeth c mn ps.length F dds fo fa) := fun g m σ ρ Q rp en q =>
  so g m σ ρ _ rp en (pre_bind q fun g1 m1 x d rp1 l1 ix q1 => by
    split at q1
    · rename_i c' fs e1
      split at q1
      · rename_i hc
        obtain ⟨hc, hl⟩ := hc
        subst hc
        obtain ⟨a, dx, vs, rfl, h1, h2, h3⟩ := insV_ok rp1 ix e1
        refine ⟨a, dx, vs, rfl, h1, lookup_no h2 hl, sa g1 m1 σ ρ _ rp1 (en.le l1) (pre_bind q1 fun g2 m2 ws ds rp2 l2 il q2 => ?_)⟩
        split at q2
        · rename_i hn
          have il2 : IsGL X.K g2 m2 (V.ref a :: (ws ++ dvs)) (d :: (ds ++ dds)) := .cons (ix.le l2) (il.append (hdd g2 m2))
          exact ⟨by rw [il2.length]; exact hn, g2, m2, _, rfl, rp2, il2, (Pre.flat (σ' := σ0) hW q2).at⟩
        · exact q2.elim
      · exact q1.elim
    · exact q1.elim)
theorem pd_meth {c mn : Str} {fo : FE} {pl : Sem Bool} (G : FnD X.prog X.w X.K X.mg X.base k f fd ps F) (hr : Room k X.A) (tk : Takes X W) (hW : Flat W) (cl : Cls X.K (He.ga X.K c)) (hm : Meth X.K (He.ga X.K c) mn f) (hb : Binds X.K fd ps dus) (hd : Vals dvs dus) (hdd : ∀ g m, IsGL X.K g m dvs dds)
    (ho : PD X W o fo) (ha : PDA X W (e :: es) fa)
    (hst : starEach (e :: es) X.env = (false, eval e X.env) :: starEach es X.env := by rfl) (hpl : (backTo pos (starEach es X.env)).any (·.1) = false := by rfl)
    (ht : eval (.Call (.Attribute o mn apos) (e :: es) [] pos) X.env = (do
      let ov ← eval o X.env
      standAt apos.atName
      let (f, first) ← holding [ov] (getMethod ov mn pl)
      callWith pos f first (backTo pos (starEach (e :: es) X.env)) (backToKw pos (keywordEach [] X.env))) := by rfl) :
    PD X W (.Call (.Attribute o mn apos) (e :: es) [] pos) (eMeth c mn ps.length F dds fo fa) := by
  obtain ⟨t, p, s⟩ := ho.ex
  obtain ⟨t', p', s'⟩ := ha.ex
  exact ⟨⟨_, pe_meth (E := WE W []) p cl hm G hr hb hd (passes_flat tk hW) p' hst hpl ht, sd_meth hW s s' hdd⟩⟩
theorem pd_meth0 {c mn : Str} {fo : FE} {pl : Sem Bool} (G : FnD X.prog X.w X.K X.mg X.base k f fd ps F) (hr : Room k X.A) (tk : Takes X W) (hW : Flat W) (cl : Cls X.K (He.ga X.K c)) (hm : Meth X.K (He.ga X.K c) mn f) (hb : Binds X.K fd ps dus) (hd : Vals dvs dus) (hdd : ∀ g m, IsGL X.K g m dvs dds)
    (ho : PD X W o fo)
    (ht : eval (.Call (.Attribute o mn apos) [] [] pos) X.env = (do
      let ov ← eval o X.env
      standAt apos.atName
      let (f, first) ← holding [ov] (getMethod ov mn pl)
      callWith pos f first (backTo pos (starEach [] X.env)) (backToKw pos (keywordEach [] X.env))) := by rfl) :
    PD X W (.Call (.Attribute o mn apos) [] [] pos) (eMeth c mn ps.length F dds fo aNil) := by
  obtain ⟨t, p, s⟩ := ho.ex
  exact ⟨⟨_, pe_meth0 (E := WE W []) p cl hm G hr hb hd (passes_flat tk hW) ht, sd_meth (t := tNil) hW s (fun g m σ ρ Q rp en q => q g _ rp (Le.refl _ _) .nil) hdd⟩⟩
/-- C(..): a new instance, kept mutable; g: how positional and keyword values become parameters -/
def mkR (c : Str) (n : Nat) (F : HL) (ds : List D) (m1 : Mem) : Res D := if (ds.length + 1) = n then (F (.mref m1.length :: ds) (m1 ++ [.ins c []])).bind fun d m2 => (match d with
  | .non => .ok (.mref m1.length) m2
  | _ => .bad) else .bad
def eMake (c : Str) (n : Nat) (F : HL) (dds : List D) (a : FA) : FE := fun ρ m => (a ρ m).bind fun ds m1 => mkR c n F (ds ++ dds) m1
theorem mk_ok {c : Str} {σ σ0 : St} {g1 : Gh} {m1 : Mem} {Q : VK} {vs : List V} {ds : List D} (hW : Flat W) (rp1 : Rep X.K g1 m1) (il : IsGL X.K g1 m1 vs ds) (q : Pre (RE X.K) X.K W σ g1 m1 Q (mkR c ps.length F ds m1)) :
    ∀ y dx, g1.H y = none → g1.H dx = none → dx ≠ y → spD X.K ps.length F (.ref y :: vs) (upd (upd g1.H dx (.own y)) y (.ins (He.ga X.K c) dx [])) (fun v H2 => v = .non ∧ Q (.ref y) H2) (WE W σ0) := by
  intro y dx hy hdx ne
  unfold mkR at q
  split at q
  · rename_i hl
    obtain ⟨rpA, lA⟩ := rp1.other hdx (.own y)
    have hy2 : upd g1.H dx (.own y) y = none := by rw [upd_ne (Ne.symm ne)]; exact hy
    have gA : (⟨upd g1.H dx (.own y), g1.F, g1.al⟩ : Gh).H y = none := hy2
    obtain ⟨rpB, lB⟩ := rpA.newM (mo := .ins c []) gA (o := .ins (He.ga X.K c) dx []) (fun _ _ z => by cases z) ⟨rpA.free gA, dx, [], upd_same, rfl, .nil⟩
    have lAB := lA.trans lB
    have al2 : ((⟨upd g1.H dx (.own y), g1.F, g1.al⟩ : Gh).add m1.length y (.ins (He.ga X.K c) dx [])).al m1.length = y := if_pos rfl
    have iy : IsG X.K ((⟨upd g1.H dx (.own y), g1.F, g1.al⟩ : Gh).add m1.length y (.ins (He.ga X.K c) dx [])) (m1 ++ [.ins c []]) (.ref y) (.mref m1.length) := by
      have z : IsG X.K ((⟨upd g1.H dx (.own y), g1.F, g1.al⟩ : Gh).add m1.length y (.ins (He.ga X.K c) dx [])) (m1 ++ [.ins c []]) (.ref (((⟨upd g1.H dx (.own y), g1.F, g1.al⟩ : Gh).add m1.length y (.ins (He.ga X.K c) dx [])).al m1.length)) (.mref m1.length) := .mref (by simp)
      rw [al2] at z
      exact z
    have il2 : IsGL X.K ((⟨upd g1.H dx (.own y), g1.F, g1.al⟩ : Gh).add m1.length y (.ins (He.ga X.K c) dx [])) (m1 ++ [.ins c []]) (V.ref y :: vs) (.mref m1.length :: ds) := .cons iy (il.le lAB)
    refine ⟨by rw [il2.length]; exact hl, _, _, _, rfl, rpB, il2, Pre.at (σ := σ0) (pre_bind (Pre.flat (σ' := σ0) hW (Pre.le q lAB)) fun g3 m3 v d rp3 l3 iv q3 => ?_)⟩
    cases iv <;> try exact q3.elim
    refine ⟨rfl, q3 g3 _ rp3 (Le.refl _ _) (iy.le l3)⟩
  · exact q.elim
theorem pd_make {c : Str} (M : Mk X.K (He.ga X.K c) f) (G : FnD X.prog X.w X.K X.mg X.base k f fd ps F) (hr : Room (k + 1) X.A) (tk : Takes X W) (hW : Flat W) (hm : X.mg c = some (.ref (He.ga X.K c))) (hb : Binds X.K fd ps dus) (hd : Vals dvs dus) (hdd : ∀ g m, IsGL X.K g m dvs dds)
    (ha : PDA X W (e :: es) fa) (hg : Gl X c := by rfl) (hdb : (c == ("__debug__" : Str)) = false := by decide) (he : starEach (e :: es) X.env = (false, eval e X.env) :: starEach es X.env := by rfl) (hpl : (backTo pos (starEach es X.env)).any (·.1) = false := by rfl) :
    PD X W (.Call (.Name c p) (e :: es) [] pos) (eMake c ps.length F dds fa) := by
  obtain ⟨t, pa, sa⟩ := ha.ex
  exact ⟨⟨_, pe_make (E := WE W []) M G hr hg hm hb hd (passes_flat tk hW) pa hdb he hpl, fun g m σ ρ Q rp en q => sa g m σ ρ _ rp en (pre_bind q fun g1 m1 vs ds rp1 l1 il q1 => mk_ok hW rp1 (il.append (hdd g1 m1)) q1)⟩⟩
/-- keywords -/
structure PDK (X : Cx) (W : WX) (kws : List Keyword) (f : FA) : Prop where
  ex : ∃ t, PK X kws t ∧ SdA X.K W t f
/-- C(e, .., k = v, ..): the keywords' values behind the positional ones -/
def eMakeK (c : Str) (n np nk : Nat) (F : HL) (a b : FA) : FE := fun ρ m => (a ρ m).bind fun ds m1 => (b ρ m1).bind fun es m2 => if ds.length = np ∧ es.length = nk then mkR c n F (ds ++ es) m2 else .bad
theorem pd_makeK {c : Str} {n : Nat} {ks : List Str} {kws : List Keyword} {fk : FA} {gA : List Value → List Value → List Value} {gV : List V → List V → List V} (M : Mk X.K (He.ga X.K c) f) (G : FnD X.prog X.w X.K X.mg X.base k f fd ps F) (hr : Room (k + 1) X.A) (tk : Takes X W) (hW : Flat W)
    (hm : X.mg c = some (.ref (He.ga X.K c))) (hb : KBn X.K fd ps (n + 1) ks gA gV) (hgv : ∀ x vs zs, gV (x :: vs) zs = x :: (vs ++ zs)) (ha : PDA X W (e :: es) fa) (hkw : PDK X W kws fk) (hg : Gl X c := by rfl)
    (hall : (backToKw pos (keywordEach kws X.env)).all (·.1.isSome) = true := by rfl) (hks : (backToKw pos (keywordEach kws X.env)).filterMap (·.1) = ks := by rfl) (hdb : (c == ("__debug__" : Str)) = false := by decide)
    (he : starEach (e :: es) X.env = (false, eval e X.env) :: starEach es X.env := by rfl) (hpl : ((backTo pos (starEach (e :: es) X.env)).any (·.1) || (backToKw pos (keywordEach kws X.env)).any (·.1.isNone)) = false := by rfl) :
    PD X W (.Call (.Name c p) (e :: es) kws pos) (eMakeK c ps.length n ks.length F fa fk) := by
  obtain ⟨t, pa, sa⟩ := ha.ex
  obtain ⟨t', pk, sk⟩ := hkw.ex
  refine ⟨⟨_, pe_makeK (E := WE W []) M G hr hg hm hb (passes_flat tk hW) pa pk hall hks hdb he hpl, fun g m σ ρ Q rp en q => sa g m σ ρ _ rp en (pre_bind q fun g1 m1 vs ds rp1 l1 il q1 => sk g1 m1 σ ρ _ rp1 (en.le l1) (pre_bind q1 fun g2 m2 zs es rp2 l2 il2 q2 => ?_))⟩⟩
  split at q2
  · rename_i hl
    refine ⟨by rw [il.length]; exact hl.1, by rw [il2.length]; exact hl.2, ?_⟩
    intro y dx hy hdx ne
    rw [hgv]
    exact mk_ok hW rp2 ((il.le l2).append il2) q2 y dx hy hdx ne
  · exact q2.elim
theorem pdk_nil : PDK X W [] aNil := ⟨⟨_, pk_nil, fun g m σ ρ Q rp en q => q g _ rp (Le.refl _ _) .nil⟩⟩
theorem pdk_cons {nm : Option Str} {kpos : Pos} {kws : List Keyword} {fe : FE} {fr : FA} (h : PD X W e fe) (hr : PDK X W kws fr) : PDK X W (⟨nm, e, kpos⟩ :: kws) (aCons fe fr) := by
  obtain ⟨t, p, s⟩ := h.ex
  obtain ⟨t', p', s'⟩ := hr.ex
  refine ⟨⟨_, pk_cons p p', fun g m σ ρ Q rp en q => s g m σ ρ _ rp en (pre_bind q fun g1 m1 x dx rp1 l1 ix q1 => s' g1 m1 σ ρ _ rp1 (en.le l1) (pre_bind q1 fun g2 m2 xs ds rp2 l2 ixs q2 => ?_))⟩⟩
  exact q2 g2 _ rp2 (Le.refl _ _) (.cons (ix.le l2) ixs)
end
end DL
end
section
set_option maxRecDepth 100000
set_option maxHeartbeats 2000000
/-! The data layer, part 10: isinstance; more of lists; two-clause comprehensions; zip, enumerate; locks. -/
namespace DL
open PySem L2
open Classical

/-! ### isinstance -/
inductive Tag where
  | b (n : String) | o (c : Str)
  deriving DecidableEq
def Tag.val (K : PySem.W.Frag) : Tag → Value
  | .b n => .type n
  | .o c => .ref (He.ga K c)
def bTys : List String := ["NoneType", "bool", "int", "str", "list", "tuple", "dict"]
/-- the answer of isinstance, by type and class -/
def kit (own : List Str) : Tag → Tag → Option Bool
  | .b a, .b c => if a ∈ bTys ∧ c ∈ bTys then some (decide (a = c) || (decide (a = "bool") && decide (c = "int"))) else none
  | .o a, .o c => if a ∈ own ∧ c ∈ own then some (decide (a = c)) else none
  | .o a, .b c => if a ∈ own ∧ c ∈ bTys then some false else none
  | .b a, .o c => if a ∈ bTys ∧ c ∈ own then some false else none
structure OwnOk (K : PySem.W.Frag) (c : Str) : Prop where
  cl : Cls K (He.ga K c)
  ha : PySem.W.findIn K (.ref (He.ga K c)) "__class__" = some (some (.builtin "object.__class__"))
  hn : PySem.W.specialIn K (.builtin "object.__class__") "__get__" = some (some (.builtin "getset_descriptor.__get__"))
  ht : PySem.W.takesIn K (.builtin "object.__class__") = some true
  hm : PySem.W.mroIn K (He.ga K c) (.type "object") = some true
structure KitOk (K : PySem.W.Frag) (own : List Str) : Prop where
  ow : ∀ c ∈ own, OwnOk K c
  oo : ∀ a ∈ own, ∀ c ∈ own, PySem.W.kitOne K (.ref (He.ga K a)) (.ref (He.ga K c)) = some (decide (a = c))
  ob : ∀ a ∈ own, ∀ c ∈ bTys, PySem.W.kitOne K (.ref (He.ga K a)) (.type c) = some false
  bo : ∀ a ∈ bTys, ∀ c ∈ own, PySem.W.kitOne K (.type a) (.ref (He.ga K c)) = some false
theorem kit_bb : ∀ a ∈ bTys, ∀ c ∈ bTys, kitB a c = some (decide (a = c) || (decide (a = "bool") && decide (c = "int"))) := by decide +kernel
theorem kit_ok {K : PySem.W.Frag} {own : List Str} (k : KitOk K own) : ∀ {t u : Tag} {r : Bool}, kit own t u = some r → PySem.W.kitOne K (t.val K) (u.val K) = some r
  | .b a, .b c, r, h => by
    simp only [kit] at h
    split at h
    · rename_i hc; cases h; exact kit_ty (kit_bb a hc.1 c hc.2)
    · cases h
  | .o a, .o c, r, h => by
    simp only [kit] at h
    split at h
    · rename_i hc; cases h; exact k.oo a hc.1 c hc.2
    · cases h
  | .o a, .b c, r, h => by
    simp only [kit] at h
    split at h
    · rename_i hc; cases h; exact k.ob a hc.1 c hc.2
    · cases h
  | .b a, .o c, r, h => by
    simp only [kit] at h
    split at h
    · rename_i hc; cases h; exact k.bo a hc.1 c hc.2
    · cases h
/-- a value's type, a locked dict with tuple keys too -/
def TyY (K : PySem.W.Frag) (H : Hp) (v : V) (t : Value) : Prop := TyX K H v t ∨ ∃ a o kvs, v = .ref a ∧ H a = some (.frz o (.dT kvs)) ∧ t = .type "dict"
theorem kit_ofY {X : Cx} {pins : List (Addr × Obj)} {σ : St} {H : Hp} {s : Shared} {x : V} {u t : Value} (I : Inv X pins σ H s) (rx : RelV x u) (ty : TyY X.K H x t) : ∃ P : Heap → Prop, PySem.W.KitX X.K u t P ∧ P s.heap ∧ u ≠ .builtin "__main__.__loader__#opaque" := by
  rcases ty with ty | ⟨a, o, kvs, rfl, h, rfl⟩
  · exact kit_of I rx ty
  · cases (show u = Value.ref a from rx)
    obtain ⟨e, q⟩ := I.hok a _ h
    obtain ⟨_, _, xs, _, o', es, ep, h1, h2, _⟩ := q
    exact ⟨_, PySem.W.kitx_dict, ⟨o', h1, h2.1⟩, fun z => nomatch z⟩
def rIsiY (K : PySem.W.Frag) : List V → Hp → VK → Prop := fun xs H Q => (∃ (x c : V) (t u : Value) (b : Bool), xs = [x, c] ∧ ClsV c u ∧ TyY K H x t ∧ PySem.W.kitOne K t u = some b ∧ Q (.bl b) H) ∨
  (∃ (x : V) (tp : Addr) (cs : List V) (t : Value) (us : List Value) (b : Bool), xs = [x, .ref tp] ∧ TupA K H tp cs ∧ Paired ClsV cs us ∧ TyY K H x t ∧ PySem.W.kitAny K t us = some b ∧ Q (.bl b) H)
theorem call_isiY {X : Cx} : CallR X (.builtin "isinstance") (rIsiY X.K) := by
  intro pins s σ H xs us Q I r h
  rcases h with ⟨x, c, t, u, b, rfl, k, ty, e, q⟩ | ⟨x, tp, cs, t, ws, b, rfl, hT, k, ty, e, q⟩
  · obtain ⟨u1, u2, rfl, r1, r2⟩ := vals2 r
    have e2 := k.eq r2
    subst e2
    obtain ⟨P, Z, p, hx⟩ := kit_ofY I r1 ty
    exact PySem.W.kia_one Z I.kIn p e hx fun tk => ⟨.bl b, H, I.tok tk, rfl, q⟩
  · obtain ⟨u1, u2, rfl, r1, r2⟩ := vals2 r
    cases (show u2 = Value.ref tp from r2)
    obtain ⟨P, Z, p, hx⟩ := kit_ofY I r1 ty
    obtain ⟨_, its, rv, o, h1, h2, n, h3⟩ := (show ObjOk X.prog X.w H s.heap tp (.tup cs) from I.hok tp _ hT)
    have e3 := ClsV.all k rv
    subst e3
    obtain ⟨oc, od, dt, sl⟩ := o
    simp only at h2 h3
    subst h2 h3
    exact PySem.W.kia_tup Z I.kIn p h1 e hx fun tk => ⟨.bl b, H, I.tok tk, rfl, q⟩
def tagD (own : List Str) (m : Mem) : D → Option Tag
  | .non => some (.b "NoneType")
  | .bl _ => some (.b "bool")
  | .int _ => some (.b "int")
  | .str _ => some (.b "str")
  | .lst _ => some (.b "list")
  | .tup _ => some (.b "tuple")
  | .stup _ => some (.b "tuple")
  | .dK _ => some (.b "dict")
  | .dT _ => some (.b "dict")
  | .ins c _ => if c ∈ own then some (.o c) else none
  | .mref i => match m[i]? with
    | some (.lst _) => some (.b "list")
    | some (.lkL _) => some (.b "list")
    | some (.dK _) => some (.b "dict")
    | some (.dT _) => some (.b "dict")
    | some (.ins c _) => if c ∈ own then some (.o c) else none
    | _ => none
  | _ => none
theorem tagD_ok {K : PySem.W.Frag} {own : List Str} (k : KitOk K own) {g : Gh} {m : Mem} (rp : Rep K g m) {v : V} {d : D} {t : Tag} (iv : IsG K g m v d) (h : tagD own m d = some t) : TyY K g.H v (t.val K) := by
  cases iv with
  | non => cases h; exact .inl (.base .non)
  | bl b => cases h; exact .inl (.base (.bl b))
  | int b => cases h; exact .inl (.base (.int b))
  | str b => cases h; exact .inl (.base (.str b))
  | ty _ => cases h
  | glo _ => cases h
  | slst _ _ _ => cases h
  | lst s _ _ => cases h; exact .inl (.base (.lst (rp.at_ s fun z => z)))
  | tup s _ _ =>
    cases h
    exact .inl (.base (.tup (rp.at_ s fun z => z)))
  | stup s _ _ =>
    cases h
    rcases s with (s | ⟨o, s⟩) | ⟨o, its, n, h1, h2, h3⟩
    · cases s
    · cases s
    · exact .inl (.kTuple h1 h2)
  | dK s _ _ =>
    cases h
    rcases rp.sub _ _ s with h | ⟨_, ob, h⟩
    · exact .inl (.base (.dK h))
    · exact .inl (.fDict h)
  | dT s _ _ =>
    cases h
    rcases rp.sub _ _ s with h | ⟨_, ob, h⟩
    · exact .inl (.base (.dT h))
    · exact .inr ⟨_, _, _, rfl, h, rfl⟩
  | ins s _ _ =>
    simp only [tagD] at h
    split at h
    · rename_i hc
      cases h
      have o := k.ow _ hc
      exact .inl (.base (.ins (rp.at_ s fun z => z) o.cl o.ha o.hn o.ht o.hm))
    · cases h
  | mref hi =>
    rename_i i
    simp only [tagD] at h
    split at h
    · rename_i xs e; cases h; obtain ⟨_, vs, h1, _⟩ := rp.mem i _ e; exact .inl (.base (.lst h1))
    · rename_i xs e; cases h; obtain ⟨_, vs, h1, _⟩ := rp.mem i _ e; exact .inl (.base (.lst h1))
    · rename_i xs e; cases h; obtain ⟨_, vs, h1, _⟩ := rp.mem i _ e; exact .inl (.base (.dK h1))
    · rename_i xs e; cases h; obtain ⟨_, vs, h1, _⟩ := rp.mem i _ e; exact .inl (.base (.dT h1))
    · rename_i c xs e
      split at h
      · rename_i hc
        cases h
        obtain ⟨_, dx, vs, h1, _⟩ := rp.mem i _ e
        have o := k.ow _ hc
        exact .inl (.base (.ins h1 o.cl o.ha o.hn o.ht o.hm))
      · cases h
    · cases h
/-- a class as data -/
def clsD : D → Option Tag
  | .ty n => some (.b n)
  | .glo c => some (.o c)
  | _ => none
def clsDs : List D → Option (List Tag)
  | [] => some []
  | d :: r => match clsD d, clsDs r with
    | some t, some ts => some (t :: ts)
    | _, _ => none
def kitL (own : List Str) (t : Tag) : List Tag → Option Bool
  | [] => some false
  | u :: r => match kit own t u with
    | some true => some true
    | some false => kitL own t r
    | none => none
theorem clsD_ok {K : PySem.W.Frag} {F : Hp} {al : Nat → Addr} {n : Nat} {v : V} {d : D} {t : Tag} (iv : Is K F al n v d) (h : clsD d = some t) : ClsV v (t.val K) := by
  cases iv <;> simp only [clsD] at h <;> try (cases h; done)
  · cases h; exact .ty _
  · cases h; exact .own _
theorem clsDs_ok {K : PySem.W.Frag} {F : Hp} {al : Nat → Addr} {n : Nat} : ∀ {vs : List V} {ds : List D} {ts : List Tag}, IsL K F al n vs ds → clsDs ds = some ts → Paired ClsV vs (ts.map (·.val K))
  | _, _, _, .nil, h => by simp only [clsDs] at h; cases h; exact .nil
  | _, _, _, .cons i t, h => by
    simp only [clsDs] at h
    split at h
    · rename_i a b e1 e2; cases h; exact .cons (clsD_ok i e1) (clsDs_ok t e2)
    · cases h
theorem kitL_ok {K : PySem.W.Frag} {own : List Str} (k : KitOk K own) {t : Tag} : ∀ {ts : List Tag} {r : Bool}, kitL own t ts = some r → PySem.W.kitAny K (t.val K) (ts.map (·.val K)) = some r
  | [], r, h => by simp only [kitL] at h; cases h; rfl
  | u :: us, r, h => by
    simp only [kitL] at h
    split at h
    · rename_i e; cases h; exact kitAny_cons (kit_ok k e) (fun z => by cases z) (fun _ => rfl)
    · rename_i e; exact kitAny_cons (kit_ok k e) (fun _ => kitL_ok k h) (fun z => by cases z)
    · cases h
def hIsi (own : List Str) : HL := fun ds m => match ds with
  | [x, .tup cs] => (match tagD own m x, clsDs cs with
    | some t, some ts => (match kitL own t ts with
      | some b => .ok (.bl b) m
      | none => .bad)
    | _, _ => .bad)
  | [x, c] => (match tagD own m x, clsD c with
    | some t, some u => (match kit own t u with
      | some b => .ok (.bl b) m
      | none => .bad)
    | _, _ => .bad)
  | _ => .bad
theorem sd_isi {K : PySem.W.Frag} {own : List Str} (k : KitOk K own) : CaSd K (rIsiY K) (hIsi own) := by
  intro W σ g m xs ds Q rp ix q
  unfold hIsi at q
  split at q
  · split at q
    · rename_i t ts e1 e2
      split at q
      · rename_i b e3
        cases ix with
        | cons i1 r1 =>
          cases r1 with
          | cons i2 r2 =>
            cases r2
            cases i2 with
            | tup s z l =>
              have s' : TupA K g.H _ _ := rp.at_ s fun z => z
              exact .inr ⟨_, _, _, _, _, b, rfl, s', clsDs_ok l e2, tagD_ok k rp i1 e1, kitL_ok k e3, pre_val rp q (.bl _)⟩
      · exact q.elim
    · exact q.elim
  · split at q
    · rename_i t u e1 e2
      split at q
      · rename_i b e3
        cases ix with
        | cons i1 r1 =>
          cases r1 with
          | cons i2 r2 =>
            cases r2
            exact .inl ⟨_, _, _, _, b, rfl, clsD_ok i2 e2, tagD_ok k rp i1 e1, kit_ok k e3, pre_val rp q (.bl _)⟩
      · exact q.elim
    · exact q.elim
  · exact q.elim
end DL
end
section
set_option maxRecDepth 100000
set_option maxHeartbeats 2000000
/-! The data layer, part 11: more of lists; zip, enumerate; two-clause comprehensions; locks. -/
namespace DL
open PySem L2
open Classical

/-! ### methods of mutable lists -/
/-- a built-in method of one argument -/
def eM1 (T : D → Mem → Bool) (h : D → D → Mem → Res D) (o e : FE) : FE := fun ρ m => (o ρ m).bind fun x m1 => if T x m1 = true then (e ρ m1).bind fun d m2 => h x d m2 else .bad
def eM0 (T : D → Mem → Bool) (h : D → Mem → Res D) (o : FE) : FE := fun ρ m => (o ρ m).bind fun x m1 => if T x m1 = true then h x m1 else .bad
def isLst (d : D) (m : Mem) : Bool := (lstE m d).isSome
def isStr : D → Mem → Bool
  | .str _, _ => true
  | _, _ => false
theorem isLst_ty {K : PySem.W.Frag} {g : Gh} {m : Mem} {v : V} {d : D} (rp : Rep K g m) (iv : IsG K g m v d) (h : isLst d m = true) : tyV K "list" v g.H := by
  unfold isLst at h
  obtain ⟨xs, e⟩ := Option.isSome_iff_exists.mp h
  obtain ⟨a, vs, rfl, h1, _⟩ := lstE_ok rp iv e
  exact .inl ⟨rfl, _, SqL.of h1⟩
theorem isStr_ty {K : PySem.W.Frag} {g : Gh} {m : Mem} {v : V} {d : D} (rp : Rep K g m) (iv : IsG K g m v d) (h : isStr d m = true) : tyV K "str" v g.H := by
  cases iv <;> simp only [isStr] at h <;> first | (cases h; done) | rfl
section
variable {X : Cx} {W : WX} {o e : Expr} {fo fe : FE} {apos pos : Pos} {name : Str} {T id : String} {r : V → List V → Hp → VK → Prop} {tt : D → Mem → Bool}
theorem pd_m1 {h : D → D → Mem → Res D} (pa : PlainAttrs T) (slot : Slot T name id) (hty : typeOf (.builtin id) = pure (.type "method_descriptor")) (hm : MtR X id r)
    (hT : ∀ g m v d, Rep X.K g m → IsG X.K g m v d → tt d m = true → tyV X.K T v g.H)
    (hs : ∀ (W : WX) (σ : St) g m x y dx dy (Q : VK), Rep X.K g m → IsG X.K g m x dx → IsG X.K g m y dy → Pre (RE X.K) X.K W σ g m Q (h dx dy m) → r x [y] g.H Q)
    (ho : PD X W o fo) (he : PD X W e fe) (hb : attributeBase o name X.env (eval o X.env) = eval o X.env := by rfl) (hst : starEach (e :: []) X.env = (false, eval e X.env) :: starEach [] X.env := by rfl)
    (hfew : ((backTo pos (starEach [e] X.env)).all (fun x => !x.1) && (backToKw pos (keywordEach [] X.env)).all (fun x => x.1.isSome)
      && decide ([e].length + ([] : List Keyword).length + (if ([] : List Keyword).isEmpty then 0 else 1) < 30)) = true := by rfl)
    (hline : (apos.endLine == pos.line) = true := by rfl) (hpl : (backTo pos (starEach [] X.env)).any (·.1) = false := by rfl) : PD X W (.Call (.Attribute o name apos) [e] [] pos) (eM1 tt h fo fe) := by
  obtain ⟨t, p, s⟩ := ho.ex
  obtain ⟨t', p', s'⟩ := he.ex
  refine ⟨⟨_, pe_bm pa slot hty hm p (pa_cons p' pa_nil hst) hb hfew hline hst hpl, fun g m σ ρ Q rp en q => s g m σ ρ _ rp en (pre_bind q fun g1 m1 x dx rp1 l1 ix q1 => ?_)⟩⟩
  split at q1
  · rename_i ht
    refine ⟨hT g1 m1 x dx rp1 ix ht, s' g1 m1 σ ρ _ rp1 (en.le l1) (pre_bind q1 fun g2 m2 y dy rp2 l2 iy q2 => ?_)⟩
    exact hs W σ g2 m2 x y dx dy Q rp2 (ix.le l2) iy q2
  · exact q1.elim
theorem pd_m0 {h : D → Mem → Res D} (pa : PlainAttrs T) (slot : Slot T name id) (hty : typeOf (.builtin id) = pure (.type "method_descriptor")) (hm : MtR X id r)
    (hT : ∀ g m v d, Rep X.K g m → IsG X.K g m v d → tt d m = true → tyV X.K T v g.H)
    (hs : ∀ (W : WX) (σ : St) g m x dx (Q : VK), Rep X.K g m → IsG X.K g m x dx → Pre (RE X.K) X.K W σ g m Q (h dx m) → r x [] g.H Q)
    (ho : PD X W o fo) (hb : attributeBase o name X.env (eval o X.env) = eval o X.env := by rfl) (hline : (apos.endLine == pos.line) = true := by rfl) : PD X W (.Call (.Attribute o name apos) [] [] pos) (eM0 tt h fo) := by
  obtain ⟨t, p, s⟩ := ho.ex
  refine ⟨⟨_, pe_bm0 pa slot hty hm p hb hline, fun g m σ ρ Q rp en q => s g m σ ρ _ rp en (pre_bind q fun g1 m1 x dx rp1 l1 ix q1 => ?_)⟩⟩
  split at q1
  · rename_i ht
    exact ⟨hT g1 m1 x dx rp1 ix ht, hs W σ g1 m1 x dx Q rp1 ix q1⟩
  · exact q1.elim
/-- xs.pop(i) -/
def hPop : D → D → Mem → Res D := fun x y m => match x, y with
  | .mref i, .int k => (match m[i]? with
    | some (.lst xs) => if -(2 ^ 63) ≤ k ∧ k < 2 ^ 63 then (match seqIndex? k xs.length with
      | some j => (match xs[j]? with
        | some d => .ok d (m.set i (.lst (xs.eraseIdx j)))
        | none => .bad)
      | none => .bad) else .bad
    | _ => .bad)
  | _, _ => .bad
theorem pd_pop (ho : PD X W o fo) (he : PD X W e fe) (hb : attributeBase o "pop" X.env (eval o X.env) = eval o X.env := by rfl) (hst : starEach (e :: []) X.env = (false, eval e X.env) :: starEach [] X.env := by rfl)
    (hfew : ((backTo pos (starEach [e] X.env)).all (fun x => !x.1) && (backToKw pos (keywordEach [] X.env)).all (fun x => x.1.isSome)
      && decide ([e].length + ([] : List Keyword).length + (if ([] : List Keyword).isEmpty then 0 else 1) < 30)) = true := by rfl)
    (hline : (apos.endLine == pos.line) = true := by rfl) (hpl : (backTo pos (starEach [] X.env)).any (·.1) = false := by rfl) : PD X W (.Call (.Attribute o "pop" apos) [e] [] pos) (eM1 isLst hPop fo fe) := by
  refine pd_m1 PySem.F.plainAttrs_list PySem.F.slot_list_pop PySem.F.type_list_pop (r := rPopAt) mt_popAt (fun g m v d => isLst_ty) (fun W σ g m x y dx dy Q rp ix iy q => ?_) ho he hb hst hfew hline hpl
  unfold hPop at q
  split at q
  · rename_i i k
    split at q
    · rename_i xs e1
      split at q
      · rename_i hk
        split at q
        · rename_i j ej
          split at q
          · rename_i d ed
            cases iy
            obtain ⟨_, vs, h1, h2, h3⟩ := rp.mem i _ e1
            obtain ⟨v, ev, iv⟩ := h3.get ed
            cases ix
            obtain ⟨rp3, l3⟩ := lst_write rp e1 (vs := vs.eraseIdx j) (Nat.le_trans (len_erase vs j) h2) (h3.eraseIdx j)
            exact ⟨g.al i, vs, k, j, v, rfl, rfl, h1, hk.1, hk.2, by rw [h3.length]; exact ej, ev, q _ v rp3 l3 (iv.le l3)⟩
          · exact q.elim
        · exact q.elim
      · exact q.elim
    · exact q.elim
  · exact q.elim
/-- xs.extend(ys) -/
def hExt : D → D → Mem → Res D := fun x y m => match x with
  | .mref i => (match m[i]?, lstE m y with
    | some (.lst xs), some ys => if xs.length + ys.length ≤ sizeLine then .ok .non (m.set i (.lst (xs ++ ys))) else .bad
    | _, _ => .bad)
  | _ => .bad
theorem pd_extend (ho : PD X W o fo) (he : PD X W e fe) (hb : attributeBase o "extend" X.env (eval o X.env) = eval o X.env := by rfl) (hst : starEach (e :: []) X.env = (false, eval e X.env) :: starEach [] X.env := by rfl)
    (hfew : ((backTo pos (starEach [e] X.env)).all (fun x => !x.1) && (backToKw pos (keywordEach [] X.env)).all (fun x => x.1.isSome)
      && decide ([e].length + ([] : List Keyword).length + (if ([] : List Keyword).isEmpty then 0 else 1) < 30)) = true := by rfl)
    (hline : (apos.endLine == pos.line) = true := by rfl) (hpl : (backTo pos (starEach [] X.env)).any (·.1) = false := by rfl) : PD X W (.Call (.Attribute o "extend" apos) [e] [] pos) (eM1 isLst hExt fo fe) := by
  refine pd_m1 PySem.F.plainAttrs_list PySem.F.slot_list_extend PySem.F.type_list_extend (r := rExtend) mt_extend (fun g m v d => isLst_ty) (fun W σ g m x y dx dy Q rp ix iy q => ?_) ho he hb hst hfew hline hpl
  unfold hExt at q
  split at q
  · rename_i i
    split at q
    · rename_i xs ys e1 e2
      split at q
      · rename_i hz
        obtain ⟨_, vs, h1, h2, h3⟩ := rp.mem i _ e1
        obtain ⟨b, ws, rfl, k1, k2, k3⟩ := lstE_ok rp iy e2
        cases ix
        have el := h3.length
        have el2 := k3.length
        obtain ⟨rp3, l3⟩ := lst_write rp e1 (vs := vs ++ ws) (by rw [List.length_append]; omega) (h3.append k3)
        exact ⟨g.al i, b, vs, ws, rfl, rfl, h1, k1, by omega, q _ .non rp3 l3 .non⟩
      · exact q.elim
    · exact q.elim
  · exact q.elim
/-- sep.join(texts) -/
def strsV : List D → Option (List Str)
  | [] => some []
  | .str b :: r => (strsV r).map (b :: ·)
  | _ :: _ => none
theorem strsV_ok {K : PySem.W.Frag} {F : Hp} {al : Nat → Addr} {n : Nat} : ∀ {vs : List V} {ds : List D} {bs : List Str}, IsL K F al n vs ds → strsV ds = some bs → vs = bs.map V.str
  | _, _, _, .nil, h => by simp only [strsV] at h; cases h; rfl
  | _, _, _, .cons i t, h => by
    cases i <;> simp only [strsV] at h <;> try (cases h; done)
    obtain ⟨r, h1, rfl⟩ := Option.map_eq_some_iff.mp h
    rw [strsV_ok t h1]
    rfl
def hJoin : D → D → Mem → Res D := fun x y m => match x with
  | .str a => (match seqV m y with
    | some ys => (match strsV ys with
      | some ts => if (ts.map (·.length)).sum + ts.length * a.length ≤ 16777216 then .ok (.str (Txt.join a ts)) m else .bad
      | none => .bad)
    | none => .bad)
  | _ => .bad
theorem pd_join (ho : PD X W o fo) (he : PD X W e fe) (hb : attributeBase o "join" X.env (eval o X.env) = eval o X.env := by rfl) (hst : starEach (e :: []) X.env = (false, eval e X.env) :: starEach [] X.env := by rfl) (hst2 : starEach [e] X.env = [(false, eval e X.env)] := by rfl)
    (hline : (apos.endLine == pos.line) = true := by rfl) : PD X W (.Call (.Attribute o "join" apos) [e] [] pos) (eM1 isStr hJoin fo fe) := by
  obtain ⟨t, p, s⟩ := ho.ex
  obtain ⟨t', p', s'⟩ := he.ex
  refine ⟨⟨_, pe_join p p' hst2 hb hline, fun g m σ ρ Q rp en q => s g m σ ρ _ rp en (pre_bind q fun g1 m1 x dx rp1 l1 ix q1 => ?_)⟩⟩
  split at q1
  · rename_i ht
    cases ix <;> simp only [isStr] at ht <;> try (cases ht; done)
    refine ⟨⟨_, rfl⟩, s' g1 m1 σ ρ _ rp1 (en.le l1) (pre_bind q1 fun g2 m2 y dy rp2 l2 iy q2 => ?_)⟩
    unfold hJoin at q2
    simp only at q2
    split at q2
    · rename_i ys ey
      split at q2
      · rename_i ts et
        split at q2
        · rename_i hz
          obtain ⟨a, vs, rfl, h1, h2, h3⟩ := seqV_ok rp2 iy ey
          have ev := strsV_ok h3 et
          subst ev
          exact ⟨_, a, ts, rfl, rfl, h1, hz, pre_val rp2 q2 (.str _)⟩
        · exact q2.elim
      · exact q2.elim
    · exact q2.elim
  · exact q1.elim
/-- o[i] = v -/
def gIx (fo fi : FE) : FG := fun d ρ m => (fo ρ m).bind fun x m1 => (fi ρ m1).bind fun y m2 => match x, y with
  | .mref i, .int k => (match m2[i]? with
    | some (.lst xs) => (match ixN xs.length k with
      | some j => .ok ρ (m2.set i (.lst (xs.set j d)))
      | none => .bad)
    | _ => .bad)
  | _, _ => .bad
theorem pdg_ix {tpos : Pos} (ho : PD X W o fo) (hi : PD X W e fe) (ha : ∀ v, assign (.Subscript o e tpos) X.env v = (do
      let ov ← holding [v] (eval o X.env)
      let iv ← holding [v, ov] (eval e X.env)
      standAt tpos
      holding [v, ov, iv] (setItem ov iv v)
      release [v, ov, iv] []) := by intro _; rfl) : PDG X W (.Subscript o e tpos) (gIx fo fe) [] := by
  obtain ⟨t, p, s⟩ := ho.ex
  obtain ⟨t', p', s'⟩ := hi.ex
  refine ⟨⟨_, pg_sub p p' set_list ha, fun g m σ ρ v d Q rp en iv q => s g m σ ρ _ rp en (pre_bind q fun g1 m1 x dx rp1 l1 ix q1 => s' g1 m1 σ ρ _ rp1 (en.le l1) (pre_bind q1 fun g2 m2 y dy rp2 l2 iy q2 => ?_))⟩⟩
  have ix2 := ix.le l2
  cases ix2 <;> try exact q2.elim
  rename_i i hi
  cases iy <;> try exact q2.elim
  rename_i k
  simp only at q2
  split at q2
  · rename_i xs e1
    split at q2
    · rename_i j ej
      obtain ⟨_, vs, h1, h2, h3⟩ := rp2.mem i _ e1
      obtain ⟨rp3, l3⟩ := lst_write rp2 e1 (vs := vs.set j v) (by rw [List.length_set]; exact h2) (h3.set j ((iv.le l1).le l2))
      exact ⟨_, vs, k, j, rfl, rfl, h1, by rw [h3.length]; exact ej, q2 _ σ rp3 l3 ⟨((en.le l1).le l2).le l3, Sl.refl _ _⟩⟩
    · exact q2.elim
  · exact q2.elim
end

/-! ### zip of two lists (two tuples), enumerate of a list -/
def pairsD : List D → List D → List D
  | x :: xs, y :: ys => .tup [x, y] :: pairsD xs ys
  | _, _ => []
theorem pairsD_get : ∀ (xs ys : List D) (i : Nat), (pairsD xs ys)[i]? = (match xs[i]?, ys[i]? with | some x, some y => some (D.tup [x, y]) | _, _ => none)
  | [], ys, i => by simp [pairsD]
  | x :: xs, [], i => by cases i <;> simp [pairsD]
  | x :: xs, y :: ys, 0 => by simp [pairsD]
  | x :: xs, y :: ys, i + 1 => by simp [pairsD, pairsD_get xs ys i]
theorem pairsD_length (xs ys : List D) : (pairsD xs ys).length = min xs.length ys.length := by
  induction xs generalizing ys with
  | nil => simp [pairsD]
  | cons x xs ih => cases ys with
    | nil => simp [pairsD]
    | cons y ys => simp [pairsD, ih]
def enumD (k : Nat) : List D → List D
  | [] => []
  | x :: xs => .tup [.int k, x] :: enumD (k + 1) xs
theorem enumD_get : ∀ (xs : List D) (k i : Nat), (enumD k xs)[i]? = (xs[i]?).map fun x => D.tup [.int ((k + i : Nat) : Int), x]
  | [], k, i => by simp [enumD]
  | x :: xs, k, 0 => by simp [enumD]
  | x :: xs, k, i + 1 => by
    simp only [enumD, List.getElem?_cons_succ, enumD_get xs (k + 1) i]
    congr 1
    funext z
    have e : k + 1 + i = k + (i + 1) := by omega
    rw [e]
theorem enumD_length (xs : List D) : ∀ k, (enumD k xs).length = xs.length := by
  induction xs with
  | nil => intro k; rfl
  | cons x xs ih => intro k; simp [enumD, ih]
section
variable {K : PySem.W.Frag} {g : Gh} {m : Mem}
theorem new_pair {g' : Gh} {m' : Mem} (rp : Rep K g' m') {T : Addr} {x y : V} {dx dy : D} (hT : g'.H T = none) (ix : IsG K g' m' x dx) (iy : IsG K g' m' y dy) : ∃ g2, g2.H = upd g'.H T (.tup [x, y]) ∧ Rep K g2 m' ∧ Le g' m' g2 m' ∧ IsG K g2 m' (.ref T) (.tup [dx, dy]) := by
  obtain ⟨r, l⟩ := rp.newF hT (.tup [x, y])
  exact ⟨_, rfl, r, l, .tup upd_same (by show 2 ≤ sizeLine; decide) (.cons (ix.le l) (.cons (iy.le l) .nil))⟩
theorem iter_zipL {a b : Addr} {xs ys : List D} (hz : xs.length ≤ sizeLine) (h : ∀ g' m', Rep K g' m' → Lw g m g' m' → ∃ vs, SqL K g'.H a vs ∧ IsGL K g' m' vs xs) (h2 : ∀ g' m', Rep K g' m' → Lw g m g' m' → ∃ vs, SqL K g'.H b vs ∧ IsGL K g' m' vs ys) : IterOk K (Itz K a b) g m (pairsD xs ys) where
  sz := by rw [pairsD_length]; omega
  go := fun g' m' rp le i d e => by
    obtain ⟨vs, h1, k1⟩ := h g' m' rp le
    obtain ⟨ws, h3, k3⟩ := h2 g' m' rp le
    rw [pairsD_get] at e
    split at e
    · rename_i x y ex ey
      cases e
      obtain ⟨v, ev, iv⟩ := k1.get ex
      obtain ⟨w, ew, iw⟩ := k3.get ey
      refine ⟨⟨vs, ws, v, w, h1, h3, ev, ew⟩, fun z H' yy => ?_⟩
      obtain ⟨T, x', y', rfl, hT, rfl, q1, q2⟩ := yy
      have e1 := q1 vs h1
      have e2 := q2 ws h3
      rw [ev] at e1
      rw [ew] at e2
      cases e1
      cases e2
      exact new_pair rp hT iv iw
    · cases e
  stop := fun g' m' rp le => by
    obtain ⟨vs, h1, k1⟩ := h g' m' rp le
    obtain ⟨ws, h3, k3⟩ := h2 g' m' rp le
    refine ⟨vs, ws, h1, h3, ?_⟩
    rw [pairsD_length, k1.length, k3.length]
    omega
theorem iter_enum {a : Addr} {xs : List D} (hz : xs.length ≤ sizeLine) (h : ∀ g' m', Rep K g' m' → Lw g m g' m' → ∃ vs, SqL K g'.H a vs ∧ IsGL K g' m' vs xs) : IterOk K (Ite K a) g m (enumD 0 xs) where
  sz := by rw [enumD_length]; exact hz
  go := fun g' m' rp le i d e => by
    obtain ⟨vs, h1, k1⟩ := h g' m' rp le
    rw [enumD_get, Nat.zero_add] at e
    obtain ⟨x, ex, rfl⟩ := Option.map_eq_some_iff.mp e
    obtain ⟨v, ev, iv⟩ := k1.get ex
    refine ⟨⟨vs, v, h1, ev⟩, fun z H' yy => ?_⟩
    obtain ⟨T, x', rfl, hT, rfl, q1⟩ := yy
    have e1 := q1 vs h1
    rw [ev] at e1
    cases e1
    exact new_pair rp hT (.int _) iv
  stop := fun g' m' rp le => by
    obtain ⟨vs, h1, k1⟩ := h g' m' rp le
    exact ⟨vs, h1, by rw [enumD_length, k1.length]; exact Nat.le_refl _⟩
end
def iZp (a b : FE) : FI := fun ρ m => (a ρ m).bind fun x m1 => (b ρ m1).bind fun y m2 => match lstK m2 x, lstK m2 y with
  | some xs, some ys => .ok (pairsD xs ys) m2
  | _, _ => .bad
def iEn (a : FE) : FI := fun ρ m => (a ρ m).bind fun x m1 => match lstK m1 x with
  | some xs => .ok (enumD 0 xs) m1
  | none => .bad
section
variable {X : Cx} {W : WX} {pos p tpos : Pos} {elts : List Expr} {kk : Nat} {e e2 : Expr} {f f2 : FE}
theorem pdi_zip (hg : Gl X "zip") (hm : X.mg "zip" = none) (h : PD X W e f) (h2 : PD X W e2 f2) (hs : starEach [e, e2] X.env = (false, eval e X.env) :: starEach [e2] X.env := by rfl) (hpl : (backTo pos (starEach [e2] X.env)).any (·.1) = false := by rfl)
    (hs3 : starEach (e2 :: []) X.env = (false, eval e2 X.env) :: starEach [] X.env := by rfl) : PDI X W (.Tuple elts kk tpos) (.Call (.Name "zip" p) [e, e2] [] pos) (iZp f f2) := by
  obtain ⟨t, pt, s⟩ := h.ex
  obtain ⟨t', pt', s'⟩ := h2.ex
  refine ⟨⟨_, pi_zip hg hm (pa_cons pt (pa_cons pt' pa_nil hs3) hs) hs hpl, fun g m σ ρ R rp en q => s g m σ ρ _ rp en (pre_bind q fun g1 m1 x dx rp1 l1 ix q1 => s' g1 m1 σ ρ _ rp1 (en.le l1) (pre_bind q1 fun g2 m2 y dy rp2 l2 iy q2 => ?_))⟩⟩
  split at q2
  · rename_i xs ys ex ey
    obtain ⟨a, rfl, hz, hs⟩ := lstK_stays rp2 (ix.le l2) ex
    obtain ⟨b, rfl, hz2, hs2⟩ := lstK_stays rp2 iy ey
    obtain ⟨vs, h1, _⟩ := hs g2 m2 rp2 (Lw.refl _ _)
    obtain ⟨ws, h3, _⟩ := hs2 g2 m2 rp2 (Lw.refl _ _)
    exact ⟨a, b, vs, ws, rfl, h1, h3, q2 g2 _ rp2 (Le.refl _ _) (iter_zipL hz hs hs2)⟩
  · exact q2.elim
theorem pdi_enum (hg : Gl X "enumerate") (hm : X.mg "enumerate" = none) (h : PD X W e f) (hs : starEach [e] X.env = [(false, eval e X.env)] := by rfl) (hs3 : starEach (e :: []) X.env = (false, eval e X.env) :: starEach [] X.env := by rfl) :
    PDI X W (.Tuple elts kk tpos) (.Call (.Name "enumerate" p) [e] [] pos) (iEn f) := by
  obtain ⟨t, pt, s⟩ := h.ex
  refine ⟨⟨_, pi_enum hg hm (pa_cons pt pa_nil hs3) hs, fun g m σ ρ R rp en q => s g m σ ρ _ rp en (pre_bind q fun g1 m1 x dx rp1 l1 ix q1 => ?_)⟩⟩
  split at q1
  · rename_i xs ex
    obtain ⟨a, rfl, hz, hs⟩ := lstK_stays rp1 ix ex
    obtain ⟨vs, h1, _⟩ := hs g1 m1 rp1 (Lw.refl _ _)
    exact ⟨a, vs, rfl, h1, q1 g1 _ rp1 (Le.refl _ _) (iter_enum hz hs)⟩
  · exact q1.elim
end

/-! ### a mutable list locked while an expression or a statement runs -/
def lkAt (ρ : EnvD) (m : Mem) (i : Nat) : Option (Nat × List D) := match ρ[i]? with
  | some (some (.mref j)) => (match m[j]? with
    | some (.lst xs) => some (j, xs)
    | _ => none)
  | _ => none
def unlk {B : Type} (j : Nat) (xs : List D) : Res B → Res B
  | .ok d m => .ok d (m.set j (.lst xs))
  | .exc x m => .exc x (m.set j (.lst xs))
  | .bad => .bad
def eLk (i : Nat) (f : FE) : FE := fun ρ m => match lkAt ρ m i with
  | some (j, xs) => unlk j xs (f ρ (m.set j (.lkL xs)))
  | none => .bad
section
variable {K : PySem.W.Frag} {g : Gh} {m : Mem} {j : Nat} {xs : List D}
theorem Rep.relab (rp : Rep K g m) {o o' : MO} (e : m[j]? = some o) (hn : o ≠ .gone) (hn' : o' ≠ .gone) (h : MOk K g m.length (g.al j) o → MOk K g m.length (g.al j) o') : Rep K g (m.set j o') := by
  have hj : j < m.length := (List.getElem?_eq_some_iff.mp e).1
  have lv : ∀ i, Live (m.set j o') i → Live m i := fun i ⟨u, hu, n⟩ => by
    by_cases hi : j = i
    · subst hi; exact ⟨o, e, hn⟩
    · rw [List.getElem?_set_ne hi] at hu; exact ⟨u, hu, n⟩
  refine ⟨rp.sub, fun i u hu => ?_, fun a b la lb => rp.inj a b (lv a la) (lv b lb)⟩
  rw [List.length_set]
  by_cases hi : j = i
  · subst hi
    rw [List.getElem?_set_self hj] at hu
    cases hu
    exact h (rp.mem j o e)
  · rw [List.getElem?_set_ne hi] at hu
    exact rp.mem i u hu
theorem live_set {o : MO} (hj : ∃ u, m[j]? = some u ∧ u ≠ .gone) (hn : o ≠ .gone) (i : Nat) : Live (m.set j o) i ↔ Live m i := by
  obtain ⟨w, hw, hn'⟩ := hj
  have hl : j < m.length := (List.getElem?_eq_some_iff.mp hw).1
  constructor
  · rintro ⟨u, hu, n⟩
    by_cases hi : j = i
    · subst hi; exact ⟨w, hw, hn'⟩
    · rw [List.getElem?_set_ne hi] at hu; exact ⟨u, hu, n⟩
  · rintro ⟨u, hu, n⟩
    by_cases hi : j = i
    · subst hi; exact ⟨o, List.getElem?_set_self hl, hn⟩
    · exact ⟨u, by rw [List.getElem?_set_ne hi]; exact hu, n⟩
/-- locked, then unlocked: seen from before -/
theorem lk_le {g' : Gh} {m' : Mem} (e : m[j]? = some (.lst xs)) (l : Le g (m.set j (.lkL xs)) g' m') : m'[j]? = some (.lkL xs) ∧ Le g m g' (m'.set j (.lst xs)) := by
  have hj : j < m.length := (List.getElem?_eq_some_iff.mp e).1
  have e' : m'[j]? = some (.lkL xs) := l.lk j _ (List.getElem?_set_self hj) rfl
  have n1 := l.n
  rw [List.length_set] at n1
  have lv := live_set (m := m) (j := j) (o := .lkL xs) ⟨_, e, fun z => by cases z⟩ (fun z => by cases z)
  have lv' := live_set (m := m') (j := j) (o := .lst xs) ⟨_, e', fun z => by cases z⟩ (fun z => by cases z)
  refine ⟨e', ⟨l.F, by rw [List.length_set]; exact n1, fun i h => l.al i (by rw [List.length_set]; exact h), fun b o h nt f q => ?_, l.frz, fun i o h k => ?_⟩⟩
  · obtain ⟨a, b', c⟩ := l.oth b o h nt f fun i li => q i ((lv i).mp li)
    exact ⟨a, b', fun i li => c i ((lv' i).mp li)⟩
  · by_cases hi : j = i
    · subst hi
      rw [e] at h
      cases h
      cases k
    · rw [List.getElem?_set_ne hi]
      exact l.lk i o (by rw [List.getElem?_set_ne hi]; exact h) k
theorem lk_start (rp : Rep K g m) (e : m[j]? = some (.lst xs)) : Rep K g (m.set j (.lkL xs)) := rp.relab e (fun z => by cases z) (fun z => by cases z) fun h => h
theorem lk_end {g' : Gh} {m' : Mem} (rp : Rep K g' m') (e : m'[j]? = some (.lkL xs)) : Rep K g' (m'.set j (.lst xs)) := rp.relab e (fun z => by cases z) (fun z => by cases z) fun h => h
theorem Is.len {F : Hp} {al : Nat → Addr} {n n' : Nat} {v : V} {d : D} (h : Is K F al n v d) (e : n = n') : Is K F al n' v d := e ▸ h
theorem EnvOk.len' {σ : St} {ρ : EnvD} {m' : Mem} (h : EnvOk K g m σ ρ) (e : m.length = m'.length) : EnvOk K g m' σ ρ := ⟨h.len, fun i d q => let ⟨v, a, b⟩ := h.at_ i d q; ⟨v, a, b.len e⟩⟩
end
theorem pd_lk {X : Cx} {W : WX} {e : Expr} {f : FE} (i : Nat) (h : PD X W e f) : PD X W e (eLk i f) := by
  obtain ⟨t, p, s⟩ := h.ex
  refine ⟨⟨t, p, fun g m σ ρ Q rp en q => ?_⟩⟩
  unfold eLk at q
  split at q
  · rename_i j xs el
    have ej : m[j]? = some (.lst xs) := by
      unfold lkAt at el
      split at el
      · split at el
        · cases el; assumption
        · cases el
      · cases el
    refine s g (m.set j (.lkL xs)) σ ρ Q (lk_start rp ej) (en.len' (by rw [List.length_set])) ?_
    cases hf : f ρ (m.set j (.lkL xs)) with
    | bad => rw [hf] at q; exact q
    | ok d m' =>
      rw [hf] at q
      intro g' v rp' l' iv
      obtain ⟨e', l2⟩ := lk_le ej l'
      exact q g' v (lk_end rp' e') l2 (iv.len (by rw [List.length_set]))
    | exc x m' =>
      rw [hf] at q
      intro g' c d rp' l' ix
      obtain ⟨e', l2⟩ := lk_le ej l'
      refine q g' c d (lk_end rp' e') l2 ⟨ix.1, ix.2.imp id fun ⟨d', vs, h1, h2, h3, h4⟩ => ⟨d', vs, h1, h2, h3, ?_⟩⟩
      show IsL X.K g'.F g'.al (m'.set j (.lst xs)).length _ _
      rw [List.length_set]
      exact h4
  · exact q.elim
end DL
end
section
set_option maxRecDepth 100000
set_option maxHeartbeats 2000000
/-! The data layer, part 12: packages for the printed derivations. -/
namespace DL
open PySem L2
open Classical

/-- a def of the module, by its name -/
structure Def1 (P : Program) (w : World) (K : PySem.W.Frag) (mg : Str → Option Value) (base : Heap) (k : Nat) (x : Str) (ps : List Str) (dds : List D) (F : HL) : Prop where
  ex : ∃ f fd dvs dus, mg x = some (.ref f) ∧ PySem.W.keepIn K (.ref f) = true ∧ FnD P w K mg base k f fd ps F ∧ Binds K fd ps dus ∧ Vals dvs dus ∧ ∀ g m, IsGL K g m dvs dds
/-- a method of a class -/
structure Met1 (P : Program) (w : World) (K : PySem.W.Frag) (mg : Str → Option Value) (base : Heap) (k : Nat) (c x : Str) (ps : List Str) (dds : List D) (F : HL) : Prop where
  ex : ∃ f fd dvs dus, Cls K (He.ga K c) ∧ Meth K (He.ga K c) x f ∧ FnD P w K mg base k f fd ps F ∧ Binds K fd ps dus ∧ Vals dvs dus ∧ ∀ g m, IsGL K g m dvs dds
/-- a class that is made -/
structure Mak1 (P : Program) (w : World) (K : PySem.W.Frag) (mg : Str → Option Value) (base : Heap) (k : Nat) (c : Str) (ps : List Str) (dds : List D) (F : HL) : Prop where
  ex : ∃ f fd dvs dus, mg c = some (.ref (He.ga K c)) ∧ Mk K (He.ga K c) f ∧ FnD P w K mg base k f fd ps F ∧ Binds K fd ps dus ∧ Vals dvs dus ∧ ∀ g m, IsGL K g m dvs dds
structure MakK (P : Program) (w : World) (K : PySem.W.Frag) (mg : Str → Option Value) (base : Heap) (k : Nat) (c : Str) (ps ks : List Str) (n : Nat) (F : HL) : Prop where
  ex : ∃ f fd gA gV, mg c = some (.ref (He.ga K c)) ∧ Mk K (He.ga K c) f ∧ FnD P w K mg base k f fd ps F ∧ KBn K fd ps (n + 1) ks gA gV ∧ ∀ x vs zs, gV (x :: vs) zs = x :: (vs ++ zs)
theorem flatD0 (E : XK) : Flat (WD E) := fun _ _ _ _ _ h => h
theorem flat00 : Flat W0 := fun _ _ _ _ _ h => h
section
variable {X : Cx} {W : WX} {k : Nat} {x c mn : Str} {ps : List Str} {dds : List D} {F : HL} {p pos apos : Pos} {e o : Expr} {es : List Expr} {fa : FA} {fo : FE}
theorem pc_def (G : Def1 X.prog X.w X.K X.mg X.base k x ps dds F) (hr : Room k X.A) (tk : Takes X W) (ha : PDA X W (e :: es) fa) (hg : Gl X x := by rfl) (hdb : (x == ("__debug__" : Str)) = false := by decide) (he : starEach (e :: es) X.env = (false, eval e X.env) :: starEach es X.env := by rfl) (hpl : (backTo pos (starEach es X.env)).any (·.1) = false := by rfl) :
    PD X W (.Call (.Name x p) (e :: es) [] pos) (eCall ps.length F dds fa) :=
  let ⟨_, _, _, _, h1, h2, h3, h4, h5, h6⟩ := G.ex; pd_call h3 hr tk h1 h2 h4 h5 h6 ha hg hdb he hpl
theorem pc_def0 (G : Def1 X.prog X.w X.K X.mg X.base k x ps dds F) (hr : Room k X.A) (tk : Takes X W) (hW : Flat W) (hg : Gl X x := by rfl) (hdb : (x == ("__debug__" : Str)) = false := by decide) : PD X W (.Call (.Name x p) [] [] pos) (eCall ps.length F dds aNil) :=
  let ⟨_, _, _, _, h1, h2, h3, h4, h5, h6⟩ := G.ex; pd_call0 h3 hr tk hW h1 h2 h4 h5 h6 hg hdb
theorem pc_met {pl : Sem Bool} (G : Met1 X.prog X.w X.K X.mg X.base k c mn ps dds F) (hr : Room k X.A) (tk : Takes X W) (hW : Flat W) (ho : PD X W o fo) (ha : PDA X W (e :: es) fa)
    (hst : starEach (e :: es) X.env = (false, eval e X.env) :: starEach es X.env := by rfl) (hpl : (backTo pos (starEach es X.env)).any (·.1) = false := by rfl)
    (ht : eval (.Call (.Attribute o mn apos) (e :: es) [] pos) X.env = (do
      let ov ← eval o X.env
      standAt apos.atName
      let (f, first) ← holding [ov] (getMethod ov mn pl)
      callWith pos f first (backTo pos (starEach (e :: es) X.env)) (backToKw pos (keywordEach [] X.env))) := by rfl) :
    PD X W (.Call (.Attribute o mn apos) (e :: es) [] pos) (eMeth c mn ps.length F dds fo fa) :=
  let ⟨_, _, _, _, h1, h2, h3, h4, h5, h6⟩ := G.ex; pd_meth h3 hr tk hW h1 h2 h4 h5 h6 ho ha hst hpl ht
theorem pc_met0 {pl : Sem Bool} (G : Met1 X.prog X.w X.K X.mg X.base k c mn ps dds F) (hr : Room k X.A) (tk : Takes X W) (hW : Flat W) (ho : PD X W o fo)
    (ht : eval (.Call (.Attribute o mn apos) [] [] pos) X.env = (do
      let ov ← eval o X.env
      standAt apos.atName
      let (f, first) ← holding [ov] (getMethod ov mn pl)
      callWith pos f first (backTo pos (starEach [] X.env)) (backToKw pos (keywordEach [] X.env))) := by rfl) :
    PD X W (.Call (.Attribute o mn apos) [] [] pos) (eMeth c mn ps.length F dds fo aNil) :=
  let ⟨_, _, _, _, h1, h2, h3, h4, h5, h6⟩ := G.ex; pd_meth0 h3 hr tk hW h1 h2 h4 h5 h6 ho ht
theorem pc_mak (G : Mak1 X.prog X.w X.K X.mg X.base k c ps dds F) (hr : Room (k + 1) X.A) (tk : Takes X W) (hW : Flat W) (ha : PDA X W (e :: es) fa) (hg : Gl X c := by rfl) (hdb : (c == ("__debug__" : Str)) = false := by decide) (he : starEach (e :: es) X.env = (false, eval e X.env) :: starEach es X.env := by rfl) (hpl : (backTo pos (starEach es X.env)).any (·.1) = false := by rfl) :
    PD X W (.Call (.Name c p) (e :: es) [] pos) (eMake c ps.length F dds fa) :=
  let ⟨_, _, _, _, h1, h2, h3, h4, h5, h6⟩ := G.ex; pd_make h2 h3 hr tk hW h1 h4 h5 h6 ha hg hdb he hpl
theorem pc_makK {n : Nat} {ks : List Str} {kws : List Keyword} {fk : FA} (G : MakK X.prog X.w X.K X.mg X.base k c ps ks n F) (hr : Room (k + 1) X.A) (tk : Takes X W) (hW : Flat W) (ha : PDA X W (e :: es) fa) (hkw : PDK X W kws fk) (hg : Gl X c := by rfl)
    (hall : (backToKw pos (keywordEach kws X.env)).all (·.1.isSome) = true := by rfl) (hks : (backToKw pos (keywordEach kws X.env)).filterMap (·.1) = ks := by rfl) (hdb : (c == ("__debug__" : Str)) = false := by decide)
    (he : starEach (e :: es) X.env = (false, eval e X.env) :: starEach es X.env := by rfl) (hpl : ((backTo pos (starEach (e :: es) X.env)).any (·.1) || (backToKw pos (keywordEach kws X.env)).any (·.1.isNone)) = false := by rfl) :
    PD X W (.Call (.Name c p) (e :: es) kws pos) (eMakeK c ps.length n ks.length F fa fk) :=
  let ⟨_, _, _, _, h1, h2, h3, h4, h5⟩ := G.ex; pd_makeK h2 h3 hr tk hW h1 h4 h5 ha hkw hg hall hks hdb he hpl
/-- names of the module -/
theorem pg_i {i : Int} (h : ∃ t, X.mg x = some (.int i t)) (hg : Gl X x := by rfl) (hd : (x == ("__debug__" : Str)) = false := by decide) : PD X W (.Name x p) (eC (.int i)) := let ⟨t, h⟩ := h; pd_glob hg h (v := .int i) ⟨t, rfl⟩ (fun _ _ => .int i) hd
theorem pg_s {i : Str} (h : ∃ t, X.mg x = some (.str i t)) (hg : Gl X x := by rfl) (hd : (x == ("__debug__" : Str)) = false := by decide) : PD X W (.Name x p) (eC (.str i)) := let ⟨t, h⟩ := h; pd_glob hg h (v := .str i) ⟨t, rfl⟩ (fun _ _ => .str i) hd
theorem pg_c (h : X.mg x = some (.ref (He.ga X.K x))) (hg : Gl X x := by rfl) (hd : (x == ("__debug__" : Str)) = false := by decide) : PD X W (.Name x p) (eC (.glo x)) := pd_glob hg h (v := .ref (He.ga X.K x)) rfl (fun _ _ => .glo x) hd
/-- a chain a op b op' c -/
theorem pd_ch {a b c : Expr} {fa fb fc : FE} {op op' : CmpOp} {r r' : R2} {h h' : H2} (ho : OpR X (compareOp op) r) (ho' : OpR X (compareOp op') r') (hs : OpSd X.K r h) (hs' : OpSd X.K r' h') (ha : PD X W a fa) (hb : PD X W b fb) (hc : PD X W c fc)
    (hm : lastMarks [op, op'] [b, c] = false := by with_unfolding_all rfl) : PD X W (.Compare a [op, op'] [b, c] pos) (eCh h h' fa fb fc) := by
  obtain ⟨t1, p1, s1⟩ := ha.ex
  obtain ⟨t2, p2, s2⟩ := hb.ex
  obtain ⟨t3, p3, s3⟩ := hc.ex
  refine ⟨⟨_, pe_chain ho ho' p1 p2 p3 hm, fun g m σ ρ Q rp en q => s1 g m σ ρ _ rp en (pre_bind q fun g1 m1 x dx rp1 l1 ix q1 => s2 g1 m1 σ ρ _ rp1 (en.le l1) (pre_bind q1 fun g2 m2 y dy rp2 l2 iy q2 => ?_))⟩⟩
  refine hs W σ g2 m2 x y dx dy _ rp2 (ix.le l2) iy (pre_bind q2 fun g3 m3 z dz rp3 l3 iz q3 => ?_)
  cases iz <;> try exact q3.elim
  rename_i k
  refine ⟨k, rfl, ?_⟩
  cases k with
  | true =>
    simp only [if_true] at q3 ⊢
    exact s3 g3 m3 σ ρ _ rp3 (((en.le l1).le l2).le l3) (pre_bind q3 fun g4 m4 w dw rp4 l4 iw q4 => hs' W σ g4 m4 y w dy dw Q rp4 ((iy.le l3).le l4) iw q4)
  | false =>
    simp only [Bool.false_eq_true, if_false] at q3 ⊢
    exact pre_val rp3 q3 (.bl false)
theorem pdt_ch {a b c : Expr} {fa fb fc : FE} {op op' : CmpOp} {r r' : R2} {h h' : H2} (ho : OpR X (compareOp op) r) (ho' : OpR X (compareOp op') r') (hs : OpSd X.K r h) (hs' : OpSd X.K r' h') (ha : PD X W a fa) (hb : PD X W b fb) (hc : PD X W c fc)
    (hm : lastMarks [op, op'] [b, c] = false := by with_unfolding_all rfl) : PDT X W (.Compare a [op, op'] [b, c] pos) (tTr (eCh h h' fa fb fc)) := by
  obtain ⟨t1, p1, s1⟩ := ha.ex
  obtain ⟨t2, p2, s2⟩ := hb.ex
  obtain ⟨t3, p3, s3⟩ := hc.ex
  refine ⟨⟨_, pt_chain ho ho' p1 p2 p3 hm, fun g m σ ρ Q rp en q => ?_⟩⟩
  have z : SdE X.K W (tChain r r' t1 t2 t3) (eCh h h' fa fb fc) := fun g m σ ρ Q rp en q => by
    refine s1 g m σ ρ _ rp en (pre_bind q fun g1 m1 x dx rp1 l1 ix q1 => s2 g1 m1 σ ρ _ rp1 (en.le l1) (pre_bind q1 fun g2 m2 y dy rp2 l2 iy q2 => ?_))
    refine hs W σ g2 m2 x y dx dy _ rp2 (ix.le l2) iy (pre_bind q2 fun g3 m3 z dz rp3 l3 iz q3 => ?_)
    cases iz <;> try exact q3.elim
    rename_i k
    refine ⟨k, rfl, ?_⟩
    cases k with
    | true =>
      simp only [if_true] at q3 ⊢
      exact s3 g3 m3 σ ρ _ rp3 (((en.le l1).le l2).le l3) (pre_bind q3 fun g4 m4 w dw rp4 l4 iw q4 => hs' W σ g4 m4 y w dy dw Q rp4 ((iy.le l3).le l4) iw q4)
    | false =>
      simp only [Bool.false_eq_true, if_false] at q3 ⊢
      exact pre_val rp3 q3 (.bl false)
  refine z g m σ ρ _ rp en (pre_bind q fun g1 m1 x dx rp1 l1 ix q1 => ?_)
  cases ix <;> first | exact q1.elim | exact ⟨_, rfl, q1 g1 _ rp1 (Le.refl _ _) rfl⟩
end
/-! ### comparisons by their names -/
section
variable {X : Cx} {W : WX} {a b : Expr} {fa fb : FE} {pos : Pos}
theorem cm_lt (ha : PD X W a fa) (hb : PD X W b fb) : PD X W (.Compare a [.Lt] [b] pos) (eOp hLt fa fb) := pd_cmp op_lt (sd_cmp X.K _) ha hb
theorem cm_le (ha : PD X W a fa) (hb : PD X W b fb) : PD X W (.Compare a [.LtE] [b] pos) (eOp hLe fa fb) := pd_cmp op_le (sd_cmp X.K _) ha hb
theorem cm_gt (ha : PD X W a fa) (hb : PD X W b fb) : PD X W (.Compare a [.Gt] [b] pos) (eOp hGt fa fb) := pd_cmp op_gt (sd_cmp X.K _) ha hb
theorem cm_ge (ha : PD X W a fa) (hb : PD X W b fb) : PD X W (.Compare a [.GtE] [b] pos) (eOp hGe fa fb) := pd_cmp op_ge (sd_cmp X.K _) ha hb
theorem cm_eq {k : Nat} (hr : Room k X.A) (ha : PD X W a fa) (hb : PD X W b fb) : PD X W (.Compare a [.Eq] [b] pos) (eOp (hEqP false) fa fb) := pd_cmp (op_eqD hr.units) (sd_eqP X.K) ha hb
theorem cm_ne {k : Nat} (hr : Room k X.A) (ha : PD X W a fa) (hb : PD X W b fb) : PD X W (.Compare a [.NotEq] [b] pos) (eOp (hEqP true) fa fb) := pd_cmp (op_neD hr.units) (sd_neP X.K) ha hb
theorem cm_in (ha : PD X W a fa) (hb : PD X W b fb) (hm : behindInMarks .In b = false := by rfl) : PD X W (.Compare a [.In] [b] pos) (eOp (hIn false) fa fb) := pd_cmp op_inA (sd_in X.K false) ha hb hm
theorem cm_nin (ha : PD X W a fa) (hb : PD X W b fb) (hm : behindInMarks .NotIn b = false := by rfl) : PD X W (.Compare a [.NotIn] [b] pos) (eOp (hIn true) fa fb) := pd_cmp op_notInA (sd_in X.K true) ha hb hm
theorem cm_is (ha : PD X W a fa) (hb : PD X W b fb) : PD X W (.Compare a [.Is] [b] pos) (eOp (hIsN false) fa fb) := pd_cmp op_isA (sd_is X.K false) ha hb
theorem cm_isn (ha : PD X W a fa) (hb : PD X W b fb) : PD X W (.Compare a [.IsNot] [b] pos) (eOp (hIsN true) fa fb) := pd_cmp op_isNotA (sd_is X.K true) ha hb
theorem ct_lt (ha : PD X W a fa) (hb : PD X W b fb) : PDT X W (.Compare a [.Lt] [b] pos) (tTr (eOp hLt fa fb)) := pdt_cmp op_lt (sd_cmp X.K _) ha hb
theorem ct_le (ha : PD X W a fa) (hb : PD X W b fb) : PDT X W (.Compare a [.LtE] [b] pos) (tTr (eOp hLe fa fb)) := pdt_cmp op_le (sd_cmp X.K _) ha hb
theorem ct_gt (ha : PD X W a fa) (hb : PD X W b fb) : PDT X W (.Compare a [.Gt] [b] pos) (tTr (eOp hGt fa fb)) := pdt_cmp op_gt (sd_cmp X.K _) ha hb
theorem ct_ge (ha : PD X W a fa) (hb : PD X W b fb) : PDT X W (.Compare a [.GtE] [b] pos) (tTr (eOp hGe fa fb)) := pdt_cmp op_ge (sd_cmp X.K _) ha hb
theorem ct_eq {k : Nat} (hr : Room k X.A) (ha : PD X W a fa) (hb : PD X W b fb) : PDT X W (.Compare a [.Eq] [b] pos) (tTr (eOp (hEqP false) fa fb)) := pdt_cmp (op_eqD hr.units) (sd_eqP X.K) ha hb
theorem ct_ne {k : Nat} (hr : Room k X.A) (ha : PD X W a fa) (hb : PD X W b fb) : PDT X W (.Compare a [.NotEq] [b] pos) (tTr (eOp (hEqP true) fa fb)) := pdt_cmp (op_neD hr.units) (sd_neP X.K) ha hb
theorem ct_in (ha : PD X W a fa) (hb : PD X W b fb) (hm : behindInMarks .In b = false := by rfl) : PDT X W (.Compare a [.In] [b] pos) (tTr (eOp (hIn false) fa fb)) := pdt_cmp op_inA (sd_in X.K false) ha hb hm
theorem ct_nin (ha : PD X W a fa) (hb : PD X W b fb) (hm : behindInMarks .NotIn b = false := by rfl) : PDT X W (.Compare a [.NotIn] [b] pos) (tTr (eOp (hIn true) fa fb)) := pdt_cmp op_notInA (sd_in X.K true) ha hb hm
theorem ct_is (ha : PD X W a fa) (hb : PD X W b fb) : PDT X W (.Compare a [.Is] [b] pos) (tTr (eOp (hIsN false) fa fb)) := pdt_cmp op_isA (sd_is X.K false) ha hb
theorem ct_isn (ha : PD X W a fa) (hb : PD X W b fb) : PDT X W (.Compare a [.IsNot] [b] pos) (tTr (eOp (hIsN true) fa fb)) := pdt_cmp op_isNotA (sd_is X.K true) ha hb
end
/-! ### built-in functions by their names -/
section
variable {X : Cx} {W : WX} {e : Expr} {es : List Expr} {f : FA} {p pos : Pos}
theorem bf_len (hm : X.mg "len" = none) (ha : PDA X W (e :: es) f) (hg : Gl X "len" := by rfl) (he : starEach (e :: es) X.env = (false, eval e X.env) :: starEach es X.env := by rfl) (hpl : (backTo pos (starEach es X.env)).any (·.1) = false := by rfl) : PD X W (.Call (.Name "len" p) (e :: es) [] pos) (eCB hLen f) := pd_cb call_lenA (sd_len X.K) hg hm PySem.boot_len ha (by decide) (by decide) he hpl
theorem bf_isi {own : List Str} (k : KitOk X.K own) (hm : X.mg "isinstance" = none) (ha : PDA X W (e :: es) f) (hg : Gl X "isinstance" := by rfl) (he : starEach (e :: es) X.env = (false, eval e X.env) :: starEach es X.env := by rfl) (hpl : (backTo pos (starEach es X.env)).any (·.1) = false := by rfl) : PD X W (.Call (.Name "isinstance" p) (e :: es) [] pos) (eCB (hIsi own) f) := pd_cb call_isiY (sd_isi k) hg hm (by decide +kernel) ha (by decide) (by decide) he hpl
theorem bf_list (hm : X.mg "list" = none) (ha : PDA X W (e :: es) f) (hg : Gl X "list" := by rfl) (he : starEach (e :: es) X.env = (false, eval e X.env) :: starEach es X.env := by rfl) (hpl : (backTo pos (starEach es X.env)).any (·.1) = false := by rfl) : PD X W (.Call (.Name "list" p) (e :: es) [] pos) (eCB hList f) := pd_ct call_list_of (sd_list X.K) hg hm (by decide +kernel) ha (by decide) (by decide) he hpl
theorem bf_listM (hm : X.mg "list" = none) (ha : PDA X W (e :: es) f) (hg : Gl X "list" := by rfl) (he : starEach (e :: es) X.env = (false, eval e X.env) :: starEach es X.env := by rfl) (hpl : (backTo pos (starEach es X.env)).any (·.1) = false := by rfl) : PD X W (.Call (.Name "list" p) (e :: es) [] pos) (eCB hListM f) := pd_ct call_list_of (sd_listM X.K) hg hm (by decide +kernel) ha (by decide) (by decide) he hpl
theorem bf_tuple (hm : X.mg "tuple" = none) (ha : PDA X W (e :: es) f) (hg : Gl X "tuple" := by rfl) (he : starEach (e :: es) X.env = (false, eval e X.env) :: starEach es X.env := by rfl) (hpl : (backTo pos (starEach es X.env)).any (·.1) = false := by rfl) : PD X W (.Call (.Name "tuple" p) (e :: es) [] pos) (eCB hTuple f) := pd_ct call_tuple_of (sd_tuple X.K) hg hm (by decide +kernel) ha (by decide) (by decide) he hpl
theorem bf_int (hm : X.mg "int" = none) (ha : PDA X W (e :: es) f) (hg : Gl X "int" := by rfl) (he : starEach (e :: es) X.env = (false, eval e X.env) :: starEach es X.env := by rfl) (hpl : (backTo pos (starEach es X.env)).any (·.1) = false := by rfl) : PD X W (.Call (.Name "int" p) (e :: es) [] pos) (eCB hInt f) := pd_ct call_int1 (sd_int X.K) hg hm (by decide +kernel) ha (by decide) (by decide) he hpl
theorem bf_abs (hm : X.mg "abs" = none) (ha : PDA X W (e :: es) f) (hg : Gl X "abs" := by rfl) (he : starEach (e :: es) X.env = (false, eval e X.env) :: starEach es X.env := by rfl) (hpl : (backTo pos (starEach es X.env)).any (·.1) = false := by rfl) : PD X W (.Call (.Name "abs" p) (e :: es) [] pos) (eCB hAbs f) := pd_cb call_abs (sd_abs X.K) hg hm (by decide +kernel) ha (by decide) (by decide) he hpl
theorem bf_all (hc : X.calm = true) (hm : X.mg "all" = none) (ha : PDA X W (e :: es) f) (hg : Gl X "all" := by rfl) (he : starEach (e :: es) X.env = (false, eval e X.env) :: starEach es X.env := by rfl) (hpl : (backTo pos (starEach es X.env)).any (·.1) = false := by rfl) : PD X W (.Call (.Name "all" p) (e :: es) [] pos) (eCB (hBls (·.all id)) f) := pd_cb (cr_all hc) (sd_bls X.K _) hg hm (by decide +kernel) ha (by decide) (by decide) he hpl
theorem bf_any (hc : X.calm = true) (hm : X.mg "any" = none) (ha : PDA X W (e :: es) f) (hg : Gl X "any" := by rfl) (he : starEach (e :: es) X.env = (false, eval e X.env) :: starEach es X.env := by rfl) (hpl : (backTo pos (starEach es X.env)).any (·.1) = false := by rfl) : PD X W (.Call (.Name "any" p) (e :: es) [] pos) (eCB (hBls (·.any id)) f) := pd_cb (cr_any hc) (sd_bls X.K _) hg hm (by decide +kernel) ha (by decide) (by decide) he hpl
theorem bf_sum (hc : X.calm = true) (hm : X.mg "sum" = none) (ha : PDA X W (e :: es) f) (hg : Gl X "sum" := by rfl) (he : starEach (e :: es) X.env = (false, eval e X.env) :: starEach es X.env := by rfl) (hpl : (backTo pos (starEach es X.env)).any (·.1) = false := by rfl) : PD X W (.Call (.Name "sum" p) (e :: es) [] pos) (eCB hSum f) := pd_cb (cr_sum hc) (sd_sum X.K) hg hm (by decide +kernel) ha (by decide) (by decide) he hpl
end
end DL
end
section
set_option maxRecDepth 100000
set_option maxHeartbeats 2000000
/-! The data layer, part 13: comprehensions of two clauses; a def that never gives an answer. -/
namespace DL
open PySem L2
open Classical

theorem fn_bad {P : Program} {w : World} {K : PySem.W.Frag} {mg : Str → Option Value} {base : Heap} {k : Nat} {f : Addr} {fd : FuncData} {ps : List Str} : FnD P w K mg base k f fd ps (fun _ _ => .bad) :=
  ⟨fun vs H Q E h => h.1, fun A outer s H args us vs Q E hr e0 hb hv h => by obtain ⟨_, g, m, ds, _, _, _, q⟩ := h; exact q.elim⟩
theorem Oth.lwW {g g1 : Gh} {m m1 : Mem} {p : Addr} (l : Lw g1 m1 g m) (o o' : HO) (h : g.H p = some o) (nf : ∀ ob u, o ≠ .frz ob u) : Lw g1 m1 ⟨upd g.H p o', g.F, g.al⟩ m :=
  ⟨l.F, l.n, l.al, fun b u v q => by
    have z := l.frz b u v q
    have ne : b ≠ p := fun e => by rw [e, h] at z; cases z; exact nf _ _ rfl
    exact (upd_ne ne).trans z, l.lk⟩
/-- a loop that adds to the list at p -/
theorem in_loop {K : PySem.W.Frag} {W : WX} {J : It} {tg : TG} {tt : TT} {te : TE} {fg : FG} {ft : FT} {fe : FE} {is vs : List Nat} {σ σ0 : St} {ρ : EnvD} {g1 gB : Gh} {m1 mB : Mem} {ds acc0 : List D} {vs0 : List V} {Q : VK} {p : Addr} {Nx : Hp → Prop} {k : List D → Mem → Res D}
    (hg : SdG K W0 tg fg is) (his : ∀ i ∈ is, i ∈ vs) (ht : SdT K W0 tt ft) (he : SdE K W0 te fe) (rp : Rep K g1 m1) (en : EnvOk K g1 m1 σ ρ) (ok : IterOk K J g1 m1 ds)
    (hp : gB.H p = none) (leB : Le gB mB g1 m1) (ox0 : Oth g1 m1 p (.lst vs0)) (ia0 : IsGL K g1 m1 vs0 acc0) (hz : acc0.length + ds.length ≤ sizeLine)
    (q : Pre (RE K) K W σ0 gB mB Q (bindN (lcGo fg ft fe (wipeD ρ vs) ds acc0 m1) k))
    (fin : ∀ g m vs' acc', Rep K g m → Le gB mB g m → Lw g1 m1 g m → Oth g m p (.lst vs') → IsGL K g m vs' acc' → Pre (RE K) K W σ0 gB mB Q (k acc' m) → acc'.length ≤ acc0.length + ds.length → Nx g.H) :
    ∃ Wd : Nat → Nat → Hp → Prop, (∃ m, Wd 0 m g1.H) ∧ ∀ i m H, Wd i m H →
      (J.stop i H ∧ Nx H) ∨ (J.go i H ∧ ∃ Nx1 : Hp → Prop, (∀ H', Nx1 H' → ∃ m', m' < m ∧ Wd (i + 1) m' H') ∧ ∀ x H', J.yld i H x H' → tg x (wipe σ vs) H' fun σ2 H2 => wipe σ2 vs = wipe σ vs ∧ tt σ2 H2 fun b H3 =>
        if b = true then te σ2 H3 fun y H4 => ∃ acc, H4 p = some (.lst acc) ∧ acc.length < sizeLine ∧ Nx1 (upd H4 p (.lst (acc ++ [y]))) else Nx1 H3) := by
  refine ⟨fun i n H => n = ds.length - i ∧ i ≤ ds.length ∧ ∃ g m vsA acc, g.H = H ∧ Rep K g m ∧ Le gB mB g m ∧ Lw g1 m1 g m ∧ Oth g m p (.lst vsA) ∧ IsGL K g m vsA acc ∧ acc.length ≤ acc0.length + i ∧
    Pre (RE K) K W σ0 gB mB Q (bindN (lcGo fg ft fe (wipeD ρ vs) (ds.drop i) acc m) k), ⟨ds.length, by simp, Nat.zero_le _, g1, m1, vs0, acc0, rfl, rp, leB, Lw.refl _ _, ox0, ia0, Nat.le_refl _, by simpa using q⟩, ?_⟩
  rintro i n H ⟨rfl, hi, g, m, vsA, acc, rfl, rpg, leg, lw, ox, ia, hla, qi⟩
  by_cases hlt : i < ds.length
  · obtain ⟨d, ed⟩ : ∃ d, ds[i]? = some d := ⟨ds[i], by simp [hlt]⟩
    have hdrop : ds.drop i = d :: ds.drop (i + 1) := by
      rw [List.drop_eq_getElem_cons hlt]
      congr 1
      have := List.getElem?_eq_getElem hlt
      rw [ed] at this
      exact (Option.some.inj this).symm
    rw [hdrop] at qi
    obtain ⟨hgo, hy⟩ := ok.go g m rpg lw i d ed
    refine .inr ⟨hgo, _, fun H' n => n, fun x H' y => ?_⟩
    obtain ⟨g2, rfl, rp2, l2, ix⟩ := hy x H' y
    have fin2 : ∀ (g4 : Gh) (m4 : Mem) (vs4 : List V) (acc4 : List D), Rep K g4 m4 → Le gB mB g4 m4 → Lw g1 m1 g4 m4 → Oth g4 m4 p (.lst vs4) → IsGL K g4 m4 vs4 acc4 → acc4.length ≤ acc0.length + (i + 1) → Pre (RE K) K W σ0 gB mB Q (bindN (lcGo fg ft fe (wipeD ρ vs) (ds.drop (i + 1)) acc4 m4) k) →
        ∃ m', m' < ds.length - i ∧ (m' = ds.length - (i + 1) ∧ i + 1 ≤ ds.length ∧ ∃ g m vsA acc, g.H = g4.H ∧ Rep K g m ∧ Le gB mB g m ∧ Lw g1 m1 g m ∧ Oth g m p (.lst vsA) ∧ IsGL K g m vsA acc ∧ acc.length ≤ acc0.length + (i + 1) ∧
          Pre (RE K) K W σ0 gB mB Q (bindN (lcGo fg ft fe (wipeD ρ vs) (ds.drop (i + 1)) acc m) k)) := fun g4 m4 vs4 acc4 a b b' c d e f =>
      ⟨ds.length - (i + 1), by omega, rfl, hlt, g4, m4, vs4, acc4, rfl, a, b, b', c, d, e, f⟩
    have en2 : EnvOk K g2 m (wipe σ vs) (wipeD ρ vs) := wipeD_ok (en.lw (lw.trans l2.w)) vs
    have qi' : Pre (RE K) K W σ0 gB mB Q (bindN (fg d (wipeD ρ vs) m) fun ρ2 m2 => bindN (bindN (ft ρ2 m2) fun b m3 => if b = true then bindN (fe ρ2 m3) fun y m4 => lcGo fg ft fe (wipeD ρ vs) (ds.drop (i + 1)) (acc ++ [y]) m4 else lcGo fg ft fe (wipeD ρ vs) (ds.drop (i + 1)) acc m3) k) := by
      cases hf : fg d (wipeD ρ vs) m with
      | ok a b => rw [lcGo, hf] at qi; exact qi
      | exc a b => rw [lcGo, hf] at qi; exact qi
      | bad => rw [lcGo, hf] at qi; exact qi
    refine hg g2 m (wipe σ vs) (wipeD ρ vs) x d _ rp2 en2 ix (pre_stepN qi' fun g3 m3 σ3 ρ3 rp3 l3 r3 q3 => ?_)
    refine ⟨(r3.2.wipe his).trans (wipe_wipe _ _), ?_⟩
    have q3' : Pre (RE K) K W σ0 gB mB Q (bindN (ft ρ3 m3) fun b m4 => bindN (if b = true then bindN (fe ρ3 m4) fun y m5 => lcGo fg ft fe (wipeD ρ vs) (ds.drop (i + 1)) (acc ++ [y]) m5 else lcGo fg ft fe (wipeD ρ vs) (ds.drop (i + 1)) acc m4) k) := by
      cases hf : ft ρ3 m3 with
      | ok a b => rw [hf] at q3; exact q3
      | exc a b => rw [hf] at q3; exact q3
      | bad => rw [hf] at q3; exact q3
    refine ht g3 m3 σ3 ρ3 _ rp3 r3.1 (pre_stepN q3' fun g4 m4 b b' rp4 l4 eb q4 => ?_)
    have eb' : b = b' := eb
    subst eb'
    have lg4 : Le g m g4 m4 := (l2.trans l3).trans l4
    have lB4 : Le gB mB g4 m4 := leg.trans lg4
    have lw4 : Lw g1 m1 g4 m4 := lw.trans lg4.w
    cases b with
    | false =>
      rw [if_neg Bool.false_ne_true]
      rw [if_neg Bool.false_ne_true] at q4
      exact fin2 g4 m4 vsA acc rp4 lB4 lw4 (ox.le lg4) (ia.le lg4) (by omega) q4
    | true =>
      rw [if_pos rfl]
      rw [if_pos rfl] at q4
      have q4' : Pre (RE K) K W σ0 gB mB Q (bindN (fe ρ3 m4) fun y m5 => bindN (lcGo fg ft fe (wipeD ρ vs) (ds.drop (i + 1)) (acc ++ [y]) m5) k) := by
        cases hf : fe ρ3 m4 with
        | ok a b => rw [hf] at q4; exact q4
        | exc a b => rw [hf] at q4; exact q4
        | bad => rw [hf] at q4; exact q4
      refine he g4 m4 σ3 ρ3 _ rp4 (r3.1.le l4) (pre_stepN q4' fun g5 m5 v y rp5 l5 iy q5 => ?_)
      have ox5 := ox.le (lg4.trans l5)
      have ia5 := ia.le (lg4.trans l5)
      have el := ia5.length
      refine ⟨vsA, ox5.h, by omega, ?_⟩
      obtain ⟨rp6, ox6⟩ := ox5.write rp5 (fun _ _ z => by cases z) (.lst (vsA ++ [v]))
      refine fin2 ⟨upd g5.H p (.lst (vsA ++ [v])), g5.F, g5.al⟩ m5 (vsA ++ [v]) (acc ++ [y]) rp6 (Oth.leW (lB4.trans l5) hp _) (Oth.lwW (lw4.trans l5.w) _ _ ox5.h (fun _ _ z => by cases z)) ox6 (ia5.append (.cons iy .nil)) ?_ q5
      rw [List.length_append, List.length_singleton]
      omega
  · have e : i = ds.length := by omega
    subst e
    rw [List.drop_length] at qi
    exact .inl ⟨ok.stop g m rpg lw, fin g m vsA acc rpg leg lw ox ia qi (by omega)⟩

/-! ### two clauses -/
noncomputable def lc2Go (fg : FG) (ft : FT) (fi1 : FI) (fg1 : FG) (ft1 : FT) (fe : FE) (vs1 : List Nat) (ρ : EnvD) : List D → List D → Mem → Res (List D)
  | [], acc, m => .ok acc m
  | x :: xs, acc, m => bindN (fg x ρ m) fun ρ2 m2 => bindN (ft ρ2 m2) fun b m3 => if b = true then bindN (fi1 ρ2 m3) fun ds1 m4 => if acc.length + ds1.length ≤ sizeLine then bindN (lcGo fg1 ft1 fe (wipeD ρ2 vs1) ds1 acc m4) fun acc' m5 => lc2Go fg ft fi1 fg1 ft1 fe vs1 ρ xs acc' m5 else .bad
    else lc2Go fg ft fi1 fg1 ft1 fe vs1 ρ xs acc m3
noncomputable def eLc2 (mu : Bool) (vs vs1 : List Nat) (fi : FI) (fg : FG) (ft : FT) (fi1 : FI) (fg1 : FG) (ft1 : FT) (fe : FE) : FE := fun ρ m => (fi ρ m).bind fun ds m1 => bindN (lc2Go fg ft fi1 fg1 ft1 fe vs1 (wipeD ρ vs) ds [] m1) fun ys m2 => finL mu ys m2
def SdI (K : PySem.W.Frag) (W : WX) (w : TI) (f : FI) : Prop := ∀ g m σ ρ R, Rep K g m → EnvOk K g m σ ρ → Pre (fun g m J ds => IterOk K J g m ds) K W σ g m R (f ρ m) → w σ g.H R
def cI (K : PySem.W.Frag) (W : WX) (f : FI) : TI := fun σ H R => ∃ g m ρ, g.H = H ∧ Rep K g m ∧ EnvOk K g m σ ρ ∧ Pre (fun g m J ds => IterOk K J g m ds) K W σ g m R (f ρ m)
theorem PDI.can {X : Cx} {W : WX} {tg it : Expr} {f : FI} (h : PDI X W tg it f) : PI X tg it (cI X.K W f) := by
  obtain ⟨t, p, s⟩ := h.ex
  refine ⟨fun pins s0 σ H R I q => ?_⟩
  obtain ⟨g, m, ρ, rfl, rp, en, q⟩ := q
  exact p.run pins s0 σ g.H R I (s g m σ ρ R rp en q)
theorem sd_cI {K : PySem.W.Frag} {W : WX} {f : FI} : SdI K W (cI K W f) f := fun g m σ ρ R rp en q => ⟨g, m, ρ, rfl, rp, en, q⟩
theorem bindN_assoc {α β γ : Type} (r : Res α) (f : α → Mem → Res β) (k : β → Mem → Res γ) : bindN (bindN r f) k = bindN r fun a m => bindN (f a m) k := by
  cases r <;> rfl
theorem lc2_loop {K : PySem.W.Frag} {W : WX} {J : It} {tg tg1 : TG} {tt tt1 : TT} {wi1 : TI} {te : TE} {fg fg1 : FG} {ft ft1 : FT} {fi1 : FI} {fe : FE} {is is1 vs vs1 : List Nat} {σ : St} {ρ : EnvD} {g1 : Gh} {m1 : Mem} {ds : List D} {Q : VK} {mu : Bool}
    (hg : SdG K W0 tg fg is) (his : ∀ i ∈ is, i ∈ vs) (ht : SdT K W0 tt ft) (hi1 : SdI K W0 wi1 fi1) (hg1 : SdG K W0 tg1 fg1 is1) (his1 : ∀ i ∈ is1, i ∈ vs1) (ht1 : SdT K W0 tt1 ft1) (he : SdE K W0 te fe) (rp : Rep K g1 m1) (en : EnvOk K g1 m1 σ ρ) (ok : IterOk K J g1 m1 ds)
    (q : Pre (RE K) K W σ g1 m1 Q (bindN (lc2Go fg ft fi1 fg1 ft1 fe vs1 (wipeD ρ vs) ds [] m1) fun ys m2 => finL mu ys m2)) (p : Addr) (hp : g1.H p = none) :
    ∃ Wd : Nat → Nat → Hp → Prop, (∃ m, Wd 0 m (upd g1.H p (.lst []))) ∧ ∀ i m H, Wd i m H →
      (J.stop i H ∧ Q (.ref p) H) ∨ (J.go i H ∧ ∃ Nx : Hp → Prop, (∀ H', Nx H' → ∃ m', m' < m ∧ Wd (i + 1) m' H') ∧ ∀ x H', J.yld i H x H' → tg x (wipe σ vs) H' fun σ2 H2 => wipe σ2 vs = wipe σ vs ∧ tt σ2 H2 fun b H3 =>
        if b = true then wi1 σ2 H3 fun J1 H4 => ∃ W1 : Nat → Nat → Hp → Prop, (∃ m, W1 0 m H4) ∧ ∀ j k H, W1 j k H →
          (J1.stop j H ∧ Nx H) ∨ (J1.go j H ∧ ∃ Nx1 : Hp → Prop, (∀ H', Nx1 H' → ∃ k', k' < k ∧ W1 (j + 1) k' H') ∧ ∀ x H', J1.yld j H x H' → tg1 x (wipe σ2 vs1) H' fun σ3 H5 => wipe σ3 vs1 = wipe σ2 vs1 ∧ tt1 σ3 H5 fun b H6 =>
            if b = true then te σ3 H6 fun y H7 => ∃ acc, H7 p = some (.lst acc) ∧ acc.length < sizeLine ∧ Nx1 (upd H7 p (.lst (acc ++ [y]))) else Nx1 H6)
        else Nx H3) := by
  refine ⟨fun i k H => k = ds.length - i ∧ i ≤ ds.length ∧ ∃ g m vsA acc, g.H = H ∧ Rep K g m ∧ Le g1 m1 g m ∧ Oth g m p (.lst vsA) ∧ IsGL K g m vsA acc ∧ acc.length ≤ sizeLine ∧
    Pre (RE K) K W σ g1 m1 Q (bindN (lc2Go fg ft fi1 fg1 ft1 fe vs1 (wipeD ρ vs) (ds.drop i) acc m) fun ys m2 => finL mu ys m2), ⟨ds.length, ?_⟩, ?_⟩
  · obtain ⟨rp', l'⟩ := rp.other hp (.lst [])
    refine ⟨by simp, Nat.zero_le _, ⟨upd g1.H p (.lst []), g1.F, g1.al⟩, m1, [], [], rfl, rp', l', ⟨upd_same, rp.free hp, fun i li => ?_⟩, .nil, Nat.zero_le _, by simpa using q⟩
    obtain ⟨u, hu, _⟩ := rp.live li
    exact ne_of_none hu hp
  · rintro i k H ⟨rfl, hi, g, m, vsA, acc, rfl, rpg, le, ox, ia, hla, qi⟩
    by_cases hlt : i < ds.length
    · obtain ⟨d, ed⟩ : ∃ d, ds[i]? = some d := ⟨ds[i], by simp [hlt]⟩
      have hdrop : ds.drop i = d :: ds.drop (i + 1) := by
        rw [List.drop_eq_getElem_cons hlt]
        congr 1
        have := List.getElem?_eq_getElem hlt
        rw [ed] at this
        exact (Option.some.inj this).symm
      rw [hdrop] at qi
      obtain ⟨hgo, hy⟩ := ok.go g m rpg le.w i d ed
      refine .inr ⟨hgo, _, fun H' n => n, fun x H' y => ?_⟩
      obtain ⟨g2, rfl, rp2, l2, ix⟩ := hy x H' y
      have fin : ∀ (g4 : Gh) (m4 : Mem) (vs4 : List V) (acc4 : List D), Rep K g4 m4 → Le g1 m1 g4 m4 → Oth g4 m4 p (.lst vs4) → IsGL K g4 m4 vs4 acc4 → acc4.length ≤ sizeLine → Pre (RE K) K W σ g1 m1 Q (bindN (lc2Go fg ft fi1 fg1 ft1 fe vs1 (wipeD ρ vs) (ds.drop (i + 1)) acc4 m4) fun ys m2 => finL mu ys m2) →
          ∃ m', m' < ds.length - i ∧ (m' = ds.length - (i + 1) ∧ i + 1 ≤ ds.length ∧ ∃ g m vsA acc, g.H = g4.H ∧ Rep K g m ∧ Le g1 m1 g m ∧ Oth g m p (.lst vsA) ∧ IsGL K g m vsA acc ∧ acc.length ≤ sizeLine ∧
            Pre (RE K) K W σ g1 m1 Q (bindN (lc2Go fg ft fi1 fg1 ft1 fe vs1 (wipeD ρ vs) (ds.drop (i + 1)) acc m) fun ys m2 => finL mu ys m2)) := fun g4 m4 vs4 acc4 a b c d e f =>
        ⟨ds.length - (i + 1), by omega, rfl, hlt, g4, m4, vs4, acc4, rfl, a, b, c, d, e, f⟩
      have en2 : EnvOk K g2 m (wipe σ vs) (wipeD ρ vs) := wipeD_ok (en.le (le.trans l2)) vs
      rw [lc2Go, bindN_assoc] at qi
      refine hg g2 m (wipe σ vs) (wipeD ρ vs) x d _ rp2 en2 ix (pre_stepN qi fun g3 m3 σ3 ρ3 rp3 l3 r3 q3 => ?_)
      refine ⟨(r3.2.wipe his).trans (wipe_wipe _ _), ?_⟩
      rw [bindN_assoc] at q3
      refine ht g3 m3 σ3 ρ3 _ rp3 r3.1 (pre_stepN q3 fun g4 m4 b b' rp4 l4 eb q4 => ?_)
      have eb' : b = b' := eb
      subst eb'
      have l14 : Le g1 m1 g4 m4 := ((le.trans l2).trans l3).trans l4
      have lg4 : Le g m g4 m4 := (l2.trans l3).trans l4
      cases b with
      | false =>
        rw [if_neg Bool.false_ne_true]
        rw [if_neg Bool.false_ne_true] at q4
        exact fin g4 m4 vsA acc rp4 l14 (ox.le lg4) (ia.le lg4) hla q4
      | true =>
        rw [if_pos rfl]
        rw [if_pos rfl, bindN_assoc] at q4
        refine hi1 g4 m4 σ3 ρ3 _ rp4 (r3.1.le l4) (pre_stepN q4 fun g5 m5 J1 ds1 rp5 l5 ok5 q5 => ?_)
        split at q5
        · rename_i hz
          rw [bindN_assoc] at q5
          refine in_loop (σ := σ3) (ρ := ρ3) hg1 his1 ht1 he rp5 ((r3.1.le l4).le l5) ok5 hp (l14.trans l5) (ox.le (lg4.trans l5)) (ia.le (lg4.trans l5)) hz q5 fun g6 m6 vs6 acc6 rp6 l16 lw6 ox6 ia6 q6 hl6 => ?_
          exact fin g6 m6 vs6 acc6 rp6 l16 ox6 ia6 (by omega) q6
        · exact q5.elim
    · have e : i = ds.length := by omega
      subst e
      rw [List.drop_length] at qi
      refine .inl ⟨ok.stop g m rpg le.w, ?_⟩
      have el := ia.length
      exact fin_ok rpg le hp ox (by omega) ia qi
section
variable {X : Cx} {W : WX}
theorem pd_lc2 (mu : Bool) {elt tg iter tg1 iter1 : Expr} {ifs ifs1 : List Expr} {scope : Scope} {own : List (Str × Nat)} {vs1 : List Nat} {pos : Pos} {fi fi1 : FI} {fg fg1 : FG} {ft ft1 : FT} {fe : FE} {is is1 : List Nat} (hc : X.calm = true) (hN : X.N.Nodup) (ok : BlkOk X.N X.env.scope scope own) (hv : ∀ i ∈ vs1, i ∈ own.map (·.2)) (hi : PDI X W tg iter fi)
    (hg : Blk X scope fun Y => PDG Y W0 tg fg is) (his : ∀ i ∈ is, i ∈ own.map (·.2)) (ht : Blk X scope fun Y => PDTs Y W0 ifs ft) (hi1 : Blk X scope fun Y => PDI Y W0 tg1 iter1 fi1) (hg1 : Blk X scope fun Y => PDG Y W0 tg1 fg1 is1) (his1 : ∀ i ∈ is1, i ∈ vs1) (ht1 : Blk X scope fun Y => PDTs Y W0 ifs1 ft1) (he : Blk X scope fun Y => PD Y W0 elt fe)
    (hs : ∀ x, foldedSetIterable iter X.env x = pure x := by intro _; rfl) (hs1 : ∀ env x, foldedSetIterable iter1 env x = pure x := by intro _ _; rfl) :
    PD X W (.ListComp elt [⟨tg, iter, ifs, 0⟩, ⟨tg1, iter1, ifs1, 0⟩] scope pos) (eLc2 mu (own.map (·.2)) vs1 fi fg ft fi1 fg1 ft1 fe) := by
  obtain ⟨w, pi, si⟩ := hi.ex
  refine ⟨⟨_, pe_lc2 (own := own) (vs1 := vs1) (g := cG X.K W0 fg is) (tt := cT X.K W0 ft) (wi1 := cI X.K W0 fi1) (g1 := cG X.K W0 fg1 is1) (tt1 := cT X.K W0 ft1) (te := cE X.K W0 fe) hc hN pi ok hv (fun s H C cl fp => (hg s H C cl fp).can) (fun s H C cl fp => (ht s H C cl fp).can)
    (fun s H C cl fp => (hi1 s H C cl fp).can) (fun s H C cl fp => (hg1 s H C cl fp).can) (fun s H C cl fp => (ht1 s H C cl fp).can) (fun s H C cl fp => (he s H C cl fp).can) hs hs1, fun g m σ ρ Q rp en q => ?_⟩⟩
  refine si g m σ ρ _ rp en (pre_bind q fun g1 m1 J ds rp1 l1 ok1 q1 => ?_)
  exact fun p hp => lc2_loop sd_cG his sd_cT sd_cI sd_cG his1 sd_cT sd_cE rp1 (en.le l1) ok1 q1 p hp
theorem pds_setLc2 (mu : Bool) (i : Nat) {y : Str} {py : Pos} {elt tg iter tg1 iter1 : Expr} {ifs ifs1 : List Expr} {scope : Scope} {own : List (Str × Nat)} {vs1 : List Nat} {lpos pos : Pos} {fi fi1 : FI} {fg fg1 : FG} {ft ft1 : FT} {fe : FE} {is is1 : List Nat} (hc : X.calm = true) (hN : X.N.Nodup) (ok : BlkOk X.N X.env.scope scope own) (hv : ∀ i ∈ vs1, i ∈ own.map (·.2)) (hi : PDI X W tg iter fi)
    (hg : Blk X scope fun Y => PDG Y W0 tg fg is) (his : ∀ i ∈ is, i ∈ own.map (·.2)) (ht : Blk X scope fun Y => PDTs Y W0 ifs ft) (hi1 : Blk X scope fun Y => PDI Y W0 tg1 iter1 fi1) (hg1 : Blk X scope fun Y => PDG Y W0 tg1 fg1 is1) (his1 : ∀ i ∈ is1, i ∈ vs1) (ht1 : Blk X scope fun Y => PDTs Y W0 ifs1 ft1) (he : Blk X scope fun Y => PD Y W0 elt fe)
    (hy : X.N[i]? = some y := by rfl) (hyl : X.env.scope.names.lookup y = some .local := by rfl)
    (hsw : swapsWith (.ListComp elt [⟨tg, iter, ifs, 0⟩, ⟨tg1, iter1, ifs1, 0⟩] scope lpos) (some (.Name y py)) pos.line X.env = pure true := by exact sw_true rfl rfl rfl (by decide +kernel))
    (hs : ∀ x, foldedSetIterable iter X.env x = pure x := by intro _; rfl) (hs1 : ∀ env x, foldedSetIterable iter1 env x = pure x := by intro _ _; rfl) :
    PDS X W (.Assign [.Name y py] (.ListComp elt [⟨tg, iter, ifs, 0⟩, ⟨tg1, iter1, ifs1, 0⟩] scope lpos) pos) (sSet i (eLc2 mu (own.map (·.2)) vs1 fi fg ft fi1 fg1 ft1 fe)) := by
  obtain ⟨w, pi, si⟩ := hi.ex
  refine ⟨⟨_, ps_setLc2 (own := own) (vs1 := vs1) (g := cG X.K W0 fg is) (tt := cT X.K W0 ft) (wi1 := cI X.K W0 fi1) (g1 := cG X.K W0 fg1 is1) (tt1 := cT X.K W0 ft1) (te := cE X.K W0 fe) hc hN hy hyl hsw pi ok hv (fun s H C cl fp => (hg s H C cl fp).can) (fun s H C cl fp => (ht s H C cl fp).can)
    (fun s H C cl fp => (hi1 s H C cl fp).can) (fun s H C cl fp => (hg1 s H C cl fp).can) (fun s H C cl fp => (ht1 s H C cl fp).can) (fun s H C cl fp => (he s H C cl fp).can) hs hs1, fun g m σ ρ D rp en q => ?_⟩⟩
  have z : SdE X.K W (tLc2 w (cG X.K W0 fg is) (cT X.K W0 ft) (cI X.K W0 fi1) (cG X.K W0 fg1 is1) (cT X.K W0 ft1) (cE X.K W0 fe) (own.map (·.2)) vs1) (eLc2 mu (own.map (·.2)) vs1 fi fg ft fi1 fg1 ft1 fe) := fun g m σ ρ Q rp en q =>
    si g m σ ρ _ rp en (pre_bind q fun g1 m1 J ds rp1 l1 ok1 q1 => fun p hp => lc2_loop sd_cG his sd_cT sd_cI sd_cG his1 sd_cT sd_cE rp1 (en.le l1) ok1 q1 p hp)
  exact z g m σ ρ _ rp en (preS_on en q fun g1 m1 v d rp1 l1 iv q1 => q1 g1 (σ.set i (some v)) rp1 (Le.refl _ _) ((en.le l1).set i iv))
end
end DL
end
section
set_option maxRecDepth 100000
set_option maxHeartbeats 2000000
/-! The data layer, part 14: operators of own classes. -/
namespace DL
open PySem PySem.W PySem.Calls PyProof.Rows Builtin
section
variable {prog : Program} {w : World} {A : Around} {E : Value → Shared → Prop} {s : Shared} {K : Frag} {x C L f : Addr} {h₀ : Heap} {m : Str → Option Value} {ox : Obj} {od : Option Obj} {b tb : Value}
theorem ifBoundNe {M : Model} {args : List Value} {Q : Option Value → Shared → Prop} (X : K.In s.heap) (I : InstAt s.heap x ox C od) (hs : findIn K (.ref C) "__ne__" = some (some (.builtin "object.__ne__")))
    (h : wpAny M A (call (.builtin "object.__ne__") (.ref x :: args)) (fun v => Q (some v)) E s) : wpAny M A (callSpecialIfBound? (.ref x) "__ne__" args) Q E s := by
  simp only [callSpecialIfBound?, bindSpecialIfBound?]
  refine wpAny_holding (wpAny_bind (wpAny_bind (wpAny_bind (I.type.here ((looks_findIn X hs).here ?_)))))
  simp only [PySem.F.cmp_object.ne.bind]
  refine wpAny_bind (wpAny_askSetting (wpAny_ite ?_))
  have fin : wpAny M A (call (.builtin "object.__ne__") ([.ref x] ++ args) >>= fun v => pure (some v)) Q E s := wpAny_bind (wpAny_mono h (fun v s' h' => wpAny_pure h') fun _ _ h' => h')
  split
  · exact wpAny_bind (wpAny_pure (wpAny_pure fin))
  · exact wpAny_tryCatch (wpAny_bind (wpAny_pure (wpAny_pure fin)))
def BlBack (Q : Bool → Shared → Prop) (v : Value) (s' : Shared) : Prop := match v with
  | .bool c => Q c s'
  | _ => False
theorem checkNe {M : Model} {Q : Unit → Shared → Prop} (X : K.In s.heap) (I : InstAt s.heap x ox C od) (hob : subIn K (.ref C) (.type "object") = some true) (hq : Q () s) : wpAny M A (checkBuiltinCall "object.__ne__" ⟨[.ref x, b], []⟩) Q E s := by
  have ha := PySem.F.cmpArgs_ne (.ref x) b
  simp only [checkBuiltinCall, PySem.F.cmpKind_ne, PySem.F.cmpSplit_ne]
  refine wpAny_bind ?_
  unfold isInstance
  refine wpAny_bind (I.type.here ((looks_subIn X hob).here ?_))
  simp only [Bool.not_true, Bool.false_eq_true, if_false]
  cases hsig : Manifest.signature? "object.__ne__" with
  | none => exact wpAny_pure hq
  | some sig =>
    simp only [argsOk, hsig] at ha
    have h2 : Bind.checkArgs "object.__ne__" sig ⟨[.ref x, b], []⟩ = pure () := ha
    show wpAny M A (Bind.checkArgs "object.__ne__" sig ⟨[.ref x, b], []⟩) Q E _
    rw [h2]
    exact wpAny_pure hq
theorem callNe {Q : Value → Shared → Prop} (hu : A.units + 1 < cLine) (X : K.In s.heap) (I : InstAt s.heap x ox C od) (hob : subIn K (.ref C) (.type "object") = some true) (hs : findIn K (.ref C) "__eq__" = some (some (.ref f))) (hf : isFn K (.ref f) = true)
    (h : wpAny (model prog w) A.in1 (call (.ref f) [.ref x, b]) (BlBack fun c s' => Q (.bool (!c)) s') E s) : wpAny (model prog w) A (call (.builtin "object.__ne__") [.ref x, b]) Q E s := by
  refine wpAny_call (codeAny_call_builtin PySem.F.cmp_object.ne.plain PySem.F.cmpEntry_ne (checkNe X I hob ?_))
  unfold Builtin.«object.__ne__»
  have hin : A.in1.units = A.units + 1 := by first | rfl | simp [Around.in1]
  refine wpAny_bind (m := slotArgs "__ne__" 1 ⟨[.ref x, b], []⟩) (wpAny_pure ?_)
  refine wpAny_bind (wpAny_cRoomFor (by rw [hin]; exact hu) ?_)
  refine wpAny_bind (m := callSpecialIfBound? (.ref x) (Str.ofString "__eq__") [b]) (ifBound_K X I hs hf (wpAny_mono h (fun v s' hv => ?_) fun _ _ e => e))
  cases v <;> first | exact hv.elim | skip
  rename_i c
  refine wpAny_bind (m := truthy (.bool c)) (wpAny_truthy_bool ?_)
  exact wpAny_pure hv
theorem ne_K {Q : Value → Shared → Prop} (hu : A.units + 1 < cLine) (F : Fr h₀ L s.heap m) (X₀ : K.In h₀) (I : InstAt s.heap x ox C od) (hb : Looks (model prog w) s.heap (typeOf b) tb) (hn : notFirst K C tb = true)
    (hne : findIn K (.ref C) "__ne__" = some (some (.builtin "object.__ne__"))) (hob : subIn K (.ref C) (.type "object") = some true) (hs : findIn K (.ref C) "__eq__" = some (some (.ref f))) (hf : isFn K (.ref f) = true)
    (h : wpAny (model prog w) A.in1 (call (.ref f) [.ref x, b]) (BlBack fun c s' => Q (.bool (!c)) s') E s) : wpAny (model prog w) A (richCompare .NotEq (.ref x) b) Q E s := by
  have X := X₀.keeps F.keep
  have one : wpAny (model prog w) A (tryCompare (.ref x) "__ne__" b) (fun r s' => ∃ v, r = some v ∧ Q v s') E s := by
    unfold tryCompare
    refine wpAny_bind (ifBoundNe X I hne (callNe hu X I hob hs hf (wpAny_mono h (fun v s' hv => ?_) fun _ _ e => e)))
    cases v <;> first | exact hv.elim | exact wpAny_pure ⟨_, rfl, hv⟩
  unfold richCompare
  simp only [oneThing_ref]
  refine wpAny_holding (wpAny_bind (wpAny_cRoomFor (by omega) ?_))
  rw [cmpInfo_NotEq]
  dsimp only
  refine wpAny_bind (I.type.here (wpAny_bind (hb.here ?_)))
  split
  · rename_i q
    have e : subIn K tb (.ref C) = some false := by
      rcases Bool.or_eq_true_iff.mp hn with e | e
      · rw [beq_iff_eq.mp e] at q; simp at q
      · exact beq_iff_eq.mp e
    refine wpAny_bind ((looks_subIn X e).here ?_)
    simp only [Bool.false_eq_true, if_false]
    refine wpAny_bind (wpAny_mono one (fun r s' z => ?_) fun _ _ e => e)
    obtain ⟨v, rfl, hq⟩ := z
    exact wpAny_pure hq
  · refine wpAny_bind (wpAny_pure ?_)
    simp only [Bool.false_eq_true, if_false]
    refine wpAny_bind (wpAny_mono one (fun r s' z => ?_) fun _ _ e => e)
    obtain ⟨v, rfl, hq⟩ := z
    exact wpAny_pure hq
/-- built-in == own -/
theorem eqR_K {a : Value} {Ta ida : String} {Q : Value → Shared → Prop} (hu : A.units < cLine) (F : Fr h₀ L s.heap m) (X₀ : K.In h₀) (I : InstAt s.heap x ox C od) (ha : s.TypeIs a Ta) (hsub : subIn K (.ref C) (.type Ta) = some false)
    (h1 : Slot Ta "__eq__" ida) (hc1 : ∀ Q' : Value → Shared → Prop, Q' .notImplemented s → wpAny (model prog w) A (call (.builtin ida) [a, .ref x]) Q' E s)
    (hs : findIn K (.ref C) "__eq__" = some (some (.ref f))) (hf : isFn K (.ref f) = true)
    (h : wpAny (model prog w) A (call (.ref f) [.ref x, a]) (PySem.W.CmpBack Q) E s) : wpAny (model prog w) A (richCompare .Eq a (.ref x)) Q E s := by
  have X := X₀.keeps F.keep
  unfold richCompare
  simp only [ha.oneThing_none]
  refine wpAny_holding (wpAny_bind (wpAny_cRoomFor hu ?_))
  rw [show cmpInfo CmpOp.Eq = ("==", ("__eq__" : Str), ("__eq__" : Str)) from rfl]
  dsimp only
  refine wpAny_bind (wpAny_typeOf ha (wpAny_bind (I.type.here ?_)))
  rw [if_pos (show (Value.type Ta != Value.ref C) = true from rfl)]
  refine wpAny_bind ((looks_subIn X hsub).here ?_)
  simp only [Bool.false_eq_true, if_false, Bool.not_false, if_true]
  refine wpAny_bind (m := tryCompare a _ (.ref x)) (wpAny_tryCompare_declines ha h1 (hc1 _ ⟨rfl, ?_⟩))
  refine wpAny_bind (m := tryCompare (.ref x) _ a) ?_
  unfold tryCompare
  refine wpAny_bind (ifBound_K X I hs hf (wpAny_mono h (fun v s' hv => ?_) fun _ _ e => e))
  cases v <;> first | exact hv.elim | exact wpAny_pure (wpAny_pure hv)
end
end DL
namespace DL
open PySem L2
open Classical
/-- a promise runs somewhere below the body -/
theorem run_at {X : Cx} {W : WX} {A : Around} {k : Nat} {f : Addr} {fd : FuncData} {ps : List Str} {F : HL} {σ0 : St} {pins : List (Addr × Obj)} {s : Shared} {σ : St} {H : Hp} {vs : List V} {us : List Value} {Q : VK} (G : FnD X.prog X.w X.K X.mg X.base k f fd ps F) (sb : L2.Sub X k A) (hb : Binds X.K fd ps []) (tk : Takes X W) (hW : Flat W)
    (I : Inv X pins σ H s) (r : Vals vs us) (hsp : spD X.K ps.length F vs H Q (WE W σ0)) : wpAny (model X.prog X.w) A (call (.ref f) us) (EP X pins σ Q) X.xe s := by
  have e0 : Env0 X.prog X.w X.K X.mg X.base A X.stack s H := by
    have e := I.env0
    exact ⟨by rw [sb.fr]; exact e.frames, e.mod, e.bs, e.bsz, e.funs, e.frf, e.hok, e.bare⟩
  have hl := G.len _ _ _ _ hsp
  refine wpAny_call (codeAny_mono (G.run A X.stack s H ⟨us, []⟩ us vs _ _ sb.room e0 (by
    have := hb s us I.kIn (by rw [List.append_nil, ← r.length]; exact hl)
    simpa using this) r hsp) fun z s' hq => ?_)
  cases z with
  | error e => exact passes_flat tk hW pins σ H s e s' I hq
  | ok fl =>
    cases fl with
    | ret w => exact I.after hq
    | next => exact False.elim hq
    | brk => exact False.elim hq
    | cont => exact False.elim hq
theorem ep_cmp {X : Cx} {pins : List (Addr × Obj)} {σ : St} {Q : VK} {w : Value} {s' : Shared} (z : EP X pins σ Q w s') : PySem.W.CmpBack (EP X pins σ Q) w s' := by
  cases w <;> first | exact z | skip
  obtain ⟨v, H', I', rz, qz⟩ := z
  cases v <;> first | cases rz; done | (obtain ⟨tt, e⟩ := rz; cases e)
def OpSdW (K : PySem.W.Frag) (W : WX) (r : R2) (h : H2) : Prop := ∀ (σ : St) g m x y dx dy (Q : VK), Rep K g m → IsG K g m x dx → IsG K g m y dy → Pre (RE K) K W σ g m Q (h dx dy m) → r x y g.H Q
/-- an operation does to data what h says -/
structure OW (X : Cx) (W : WX) (op : Value → Value → Sem Value) (h : H2) : Prop where
  ex : ∃ r, OpR X op r ∧ OpSdW X.K W r h
structure CW (X : Cx) (W : WX) (f : Value) (h : HL) : Prop where
  ex : ∃ r, CallR X f r ∧ ∀ (σ : St) g m xs ds (Q : VK), Rep X.K g m → IsGL X.K g m xs ds → Pre (RE X.K) X.K W σ g m Q (h ds m) → r xs g.H Q
section
variable {X : Cx} {W : WX} {a b : Expr} {fa fb : FE} {pos : Pos}
theorem ow_pl {op : Value → Value → Sem Value} {r : R2} {h : H2} (ho : OpR X op r) (hs : OpSd X.K r h) : OW X W op h := ⟨⟨r, ho, fun σ g m x y dx dy Q rp ix iy q => hs W σ g m x y dx dy Q rp ix iy q⟩⟩
noncomputable def hIt (P : D → D → Mem → Prop) (h h' : H2) : H2 := fun x y m => if P x y m then h x y m else h' x y m
theorem ow_ite {op : Value → Value → Sem Value} (P : D → D → Mem → Prop) {h h' : H2} (o : OW X W op h) (o' : OW X W op h') : OW X W op (hIt P h h') := by
  obtain ⟨r, p, s⟩ := o.ex
  obtain ⟨r', p', s'⟩ := o'.ex
  refine ⟨⟨_, p.or p', fun σ g m x y dx dy Q rp ix iy q => ?_⟩⟩
  unfold hIt at q
  split at q
  · exact .inl (s σ g m x y dx dy Q rp ix iy q)
  · exact .inr (s' σ g m x y dx dy Q rp ix iy q)
theorem sd_opW {K : PySem.W.Frag} {ta tb : TE} {r : R2} {h : H2} (ho : OpSdW K W r h) (ha : SdE K W ta fa) (hb : SdE K W tb fb) : SdE K W (tOp r ta tb) (eOp h fa fb) := fun g m σ ρ Q rp en q =>
  ha g m σ ρ _ rp en (pre_bind q fun g1 m1 x dx rp1 l1 ix q1 => hb g1 m1 σ ρ _ rp1 (en.le l1) (pre_bind q1 fun g2 m2 y dy rp2 l2 iy q2 => ho σ g2 m2 x y dx dy Q rp2 (ix.le l2) iy q2))
theorem pd_cmpW {op : CmpOp} {h : H2} (o : OW X W (compareOp op) h) (ha : PD X W a fa) (hb : PD X W b fb) (hm : behindInMarks op b = false := by first | exact nomark _ | rfl) : PD X W (.Compare a [op] [b] pos) (eOp h fa fb) := by
  obtain ⟨r, ho, hs⟩ := o.ex
  obtain ⟨ta, pa, sa⟩ := ha.ex
  obtain ⟨tb, pb, sb⟩ := hb.ex
  exact ⟨⟨_, pe_cmpR ho pa pb hm, sd_opW hs sa sb⟩⟩
theorem pd_opW {op : Operator} {h : H2} (o : OW X W (binaryOp op) h) (ha : PD X W a fa) (hb : PD X W b fb) : PD X W (.BinOp a op b pos) (eOp h fa fb) := by
  obtain ⟨r, ho, hs⟩ := o.ex
  obtain ⟨ta, pa, sa⟩ := ha.ex
  obtain ⟨tb, pb, sb⟩ := hb.ex
  exact ⟨⟨_, pe_op ho pa pb, sd_opW hs sa sb⟩⟩
theorem pdt_cmpW {op : CmpOp} {h : H2} (o : OW X W (compareOp op) h) (ha : PD X W a fa) (hb : PD X W b fb) (hm : behindInMarks op b = false := by first | exact nomark _ | rfl) : PDT X W (.Compare a [op] [b] pos) (tTr (eOp h fa fb)) := by
  obtain ⟨r, ho, hs⟩ := o.ex
  obtain ⟨ta, pa, sa⟩ := ha.ex
  obtain ⟨tb, pb, sb⟩ := hb.ex
  refine ⟨⟨_, pt_cmpR ho pa pb hm, fun g m σ ρ Q rp en q => ?_⟩⟩
  refine sd_opW hs sa sb g m σ ρ _ rp en (pre_bind q fun g1 m1 x dx rp1 l1 ix q1 => ?_)
  cases ix <;> first | exact q1.elim | exact ⟨_, rfl, q1 g1 _ rp1 (Le.refl _ _) rfl⟩
theorem pd_cbW {id : String} {h : HL} {x : Str} {e : Expr} {es : List Expr} {f : FA} {p pos : Pos} (hc : CW X W (.builtin id) h) (hg : Gl X x) (hm : X.mg x = none) (hv : bootBuiltins x = some (.builtin id)) (ha : PDA X W (e :: es) f)
    (hn : x ≠ "__name__" := by decide) (hdb : (x == ("__debug__" : Str)) = false := by decide) (he : starEach (e :: es) X.env = (false, eval e X.env) :: starEach es X.env := by rfl) (hpl : (backTo pos (starEach es X.env)).any (·.1) = false := by rfl) :
    PD X W (.Call (.Name x p) (e :: es) [] pos) (eCB h f) := by
  obtain ⟨r, hc, hs⟩ := hc.ex
  obtain ⟨t, pt, s⟩ := ha.ex
  exact ⟨⟨_, pe_callB hc hg hm hv pt hn hdb he hpl, fun g m σ ρ Q rp en q => s g m σ ρ _ rp en (pre_bind q fun g1 m1 x dx rp1 l1 ix q1 => hs σ g1 m1 x dx Q rp1 ix q1)⟩⟩
end
/-! ### types of data, and who is asked first -/
theorem tag_in {own : List Str} {m : Mem} {d : D} {t : Tag} (h : tagD own m d = some t) : (∃ n, t = .b n ∧ n ∈ bTys) ∨ ∃ c, t = .o c ∧ c ∈ own := by
  have ob : ∀ n, n ∈ bTys → some (Tag.b n) = some t → (∃ n, t = .b n ∧ n ∈ bTys) ∨ ∃ c, t = .o c ∧ c ∈ own := fun n hn e => by cases e; exact .inl ⟨n, rfl, hn⟩
  unfold tagD at h
  split at h <;> try (first | exact ob _ (by decide) h | cases h; done)
  · split at h
    · rename_i hc; cases h; exact .inr ⟨_, rfl, hc⟩
    · cases h
  · split at h <;> try (first | exact ob _ (by decide) h | cases h; done)
    split at h
    · rename_i hc; cases h; exact .inr ⟨_, rfl, hc⟩
    · cases h
theorem sub_of_kit {K : PySem.W.Frag} {t c : Value} (h : PySem.W.kitOne K t c = some false) : PySem.W.subIn K t c = some false := by
  unfold PySem.W.kitOne at h
  split at h
  · cases h
  · unfold PySem.W.kitCls at h
    split at h
    · split at h
      · exact h
      · cases h
    · split at h
      · exact h
      · cases h
    · cases h
theorem kit_first {K : PySem.W.Frag} {own : List Str} (k : KitOk K own) {m : Mem} {d : D} {t : Tag} {c : Str} (hc : c ∈ own) (h : tagD own m d = some t) : PySem.W.notFirst K (He.ga K c) (t.val K) = true := by
  unfold PySem.W.notFirst
  rcases tag_in h with ⟨n, rfl, hn⟩ | ⟨c', rfl, hc'⟩
  · show (_ || PySem.W.subIn K (.type n) (.ref (He.ga K c)) == some false) = true
    rw [sub_of_kit (k.bo n hn c hc)]
    simp
  · by_cases e : c' = c
    · subst e; simp [Tag.val]
    · have z := k.oo c' hc' c hc
      rw [decide_eq_false e] at z
      show (_ || PySem.W.subIn K (.ref (He.ga K c')) (.ref (He.ga K c)) == some false) = true
      rw [sub_of_kit z]
      simp
def isC (c : Str) (m : Mem) (x : D) : Prop := ∃ fs, insV m x = some (c, fs)
def isB (own : List Str) (m : Mem) (x : D) : Prop := ∃ n, tagD own m x = some (.b n)
def hasT (own : List Str) (m : Mem) (x : D) : Prop := ∃ t, tagD own m x = some t
/-- x is asked with y -/
noncomputable def hOwn (own : List Str) (c : Str) (F : HL) : H2 := fun x y m => if isC c m x ∧ hasT own m y then F [x, y] m else .bad
def rOwn (K : PySem.W.Frag) (c : Str) (n : Nat) (F : HL) (E : XK) : R2 := fun x y H Q => ∃ a dx fs t, x = .ref a ∧ H a = some (.ins (He.ga K c) dx fs) ∧ TyY K H y t ∧ PySem.W.notFirst K (He.ga K c) t = true ∧ spD K n F [x, y] H Q E
section
variable {X : Cx} {W : WX} {k : Nat} {c mn : Str} {ps : List Str} {F : HL} {own : List Str}
theorem own_sd (kt : KitOk X.K own) (hc : c ∈ own) (hW : Flat W) (h2 : ps.length = 2) {σ σ0 : St} {g : Gh} {m : Mem} {x y : V} {dx dy : D} {Q : VK} (rp : Rep X.K g m) (ix : IsG X.K g m x dx) (iy : IsG X.K g m y dy) (q : Pre (RE X.K) X.K W σ g m Q (hOwn own c F dx dy m)) : rOwn X.K c ps.length F (WE W σ0) x y g.H Q := by
  unfold hOwn at q
  split at q
  · rename_i hcc
    obtain ⟨⟨fs, e1⟩, t, e2⟩ := hcc
    obtain ⟨a, dd, vs, rfl, h1, _⟩ := insV_ok rp ix e1
    exact ⟨a, dd, vs, _, rfl, h1, tagD_ok kt rp iy e2, kit_first kt hc e2, by rw [h2]; rfl, g, m, [dx, dy], rfl, rp, .cons ix (.cons iy .nil), (Pre.flat (σ' := σ0) hW q).at⟩
  · exact q.elim
/-- a comparison by the class's own method -/
theorem ow_own {op : CmpOp} (G : Met1 X.prog X.w X.K X.mg X.base k c (cmpInfo op).2.1 ps [] F) (hr : Room k X.A) (tk : Takes X W) (hW : Flat W) (kt : KitOk X.K own) (hc : c ∈ own) (h2 : ps.length = 2) (hop : compareOp op = richCompare op := by rfl) : OW X W (compareOp op) (hOwn own c F) := by
  obtain ⟨f, fd, dvs, dus, cl, hm, hF, hb, hd, hdd⟩ := G.ex
  have e0 : dus = [] := by
    have := (hdd ⟨fun _ => none, fun _ => none, fun _ => 0⟩ []).length
    have z := hd.length
    cases dus with
    | nil => rfl
    | cons u us => simp at z; simp [z] at this
  subst e0
  refine ⟨⟨rOwn X.K c ps.length F (WE W []), ?_, fun σ g m x y dx dy Q rp ix iy q => own_sd kt hc hW h2 rp ix iy q⟩⟩
  intro pins s σ H x y v u Q I rx ry q
  obtain ⟨a, dx, fs, t, rfl, ha, ty, nf, sp⟩ := q
  cases (show v = Value.ref a from rx)
  obtain ⟨mA, J, _⟩ := ins_get I.hok ha
  obtain ⟨od, J, _⟩ := J.look
  obtain ⟨m, hFr⟩ := I.fr
  obtain ⟨P, Z, pz, _⟩ := kit_ofY I ry ty
  rw [hop]
  refine PySem.W.cmp_K (op := op) hr.units0 hFr I.ok.mod.kin J (Z.ty _ _ I.kIn pz) nf hm.at_ hm.fn ?_
  refine wpAny_mono (run_at hF ⟨hr, rfl⟩ hb tk hW I (.cons rx (.cons ry .nil)) sp) (fun w s' z => ?_) fun _ _ e => e
  exact ep_cmp z
end
end DL
end
section
set_option maxRecDepth 100000
set_option maxHeartbeats 2000000
/-! The data layer, part 15: built-in == own; own !=, in, len. -/
namespace DL
open PySem PySem.W PySem.Calls PyProof.Rows Builtin
open AutoSeq1 (wpAny_loadPart')
open MeetsSeq
section
variable {prog : Program} {w : World} {A : Around} {E : Value → Shared → Prop} {s : Shared} {K : Frag} {x C : Addr} {dx : Addr} {od : Option Obj} {Q : Value → Shared → Prop}
theorem dec_isi {T : String} {M : Model} {Q : Bool → Shared → Prop} (X : K.In s.heap) (I : InstAt s.heap x (instObj C dx) C od) (hsub : subIn K (.ref C) (.type T) = some false) (q : Q false s) : wpAny M A (isInstance (.ref x) (.type T)) Q E s := by
  unfold isInstance
  exact wpAny_bind (I.type.here ((looks_subIn X hsub).here q))
theorem dec_none (q : Q .notImplemented s) : wpAny (model prog w) A (call (.builtin "NoneType.__eq__") [.none, .ref x]) Q E s :=
  call_gives PySem.F.slot_NoneType_eq rfl PySem.F.entry_NoneType_eq (PySem.F.args_NoneType_eq_2 _ _) (SeqAt.NoneType___eq___none_ref_0 x) q
theorem meet_int (b : Int) (u : Tok) (l C dx : Addr) : Meets (Builtin.«int.__eq__» ⟨[.int b u, .ref l], []⟩) (fun _ R s => s.heap.get? l = some (instObj C dx) ∧ R (.ok (.ret .notImplemented)) s) :=
  .of_wp fun prog w A R s h => by obtain ⟨hp, g, d, tk, os⟩ := s; obtain ⟨hl, h⟩ := h; wp_walk using wpAny_loadPart' hl, wpAny_load hl; exact ⟨_, rfl, h⟩
theorem meet_bool (b : Bool) (l C dx : Addr) : Meets (Builtin.«int.__eq__» ⟨[.bool b, .ref l], []⟩) (fun _ R s => s.heap.get? l = some (instObj C dx) ∧ R (.ok (.ret .notImplemented)) s) :=
  .of_wp fun prog w A R s h => by obtain ⟨hp, g, d, tk, os⟩ := s; obtain ⟨hl, h⟩ := h; wp_walk using wpAny_loadPart' hl, wpAny_load hl; exact ⟨_, rfl, h⟩
theorem meet_str (b : Str) (u : Tok) (l C dx : Addr) : Meets (Builtin.«str.__eq__» ⟨[.str b u, .ref l], []⟩) (fun _ R s => s.heap.get? l = some (instObj C dx) ∧ R (.ok (.ret .notImplemented)) s) :=
  .of_wp fun prog w A R s h => by obtain ⟨hp, g, d, tk, os⟩ := s; obtain ⟨hl, h⟩ := h; wp_walk using wpAny_loadPart' hl, wpAny_load hl; exact ⟨_, rfl, h⟩
theorem dec_int {b : Int} {u : Tok} (I : InstAt s.heap x (instObj C dx) C od) (q : Q .notImplemented s) : wpAny (model prog w) A (call (.builtin "int.__eq__") [.int b u, .ref x]) Q E s :=
  call_meets PySem.F.slot_int_eq (typeIs_int s b u) PySem.F.entry_int_eq (PySem.F.args_int_eq_2 _ _) (meet_int b u x C dx) ⟨I.at_, q⟩
theorem dec_bool {b : Bool} (I : InstAt s.heap x (instObj C dx) C od) (q : Q .notImplemented s) : wpAny (model prog w) A (call (.builtin "int.__eq__") [.bool b, .ref x]) Q E s :=
  call_meets (T := "bool") PySem.F.slot_bool_eq rfl PySem.F.entry_int_eq (PySem.F.args_int_eq_2 _ _) (meet_bool b x C dx) ⟨I.at_, q⟩
theorem dec_str {b : Str} {u : Tok} (I : InstAt s.heap x (instObj C dx) C od) (q : Q .notImplemented s) : wpAny (model prog w) A (call (.builtin "str.__eq__") [.str b u, .ref x]) Q E s :=
  call_meets PySem.F.slot_str_eq rfl PySem.F.entry_str_eq (PySem.F.args_str_eq_2 _ _) (meet_str b u x C dx) ⟨I.at_, q⟩
theorem dec_list {l : Addr} (X : K.In s.heap) (I : InstAt s.heap x (instObj C dx) C od) (ht : s.TypeIs (.ref l) "list") (hsub : subIn K (.ref C) (.type "list") = some false) (q : Q .notImplemented s) : wpAny (model prog w) A (call (.builtin "list.__eq__") [.ref l, .ref x]) Q E s := by
  refine GQ.call_here PySem.F.slot_list_eq ht PySem.F.entry_list_eq (PySem.F.args_list_eq_2 _ _) ?_
  show wpAny _ _ (slotArgs "__eq__" 1 ⟨[.ref l, .ref x], []⟩ >>= _) _ _ s
  refine wpAny_bind (m := slotArgs "__eq__" 1 ⟨[.ref l, .ref x], []⟩) (wpAny_pure ?_)
  refine wpAny_bind (m := isInstance (.ref x) (.type "list")) (dec_isi X I hsub ?_)
  exact wpAny_pure q
theorem dec_tup {l : Addr} (X : K.In s.heap) (I : InstAt s.heap x (instObj C dx) C od) (ht : s.TypeIs (.ref l) "tuple") (hsub : subIn K (.ref C) (.type "tuple") = some false) (q : Q .notImplemented s) : wpAny (model prog w) A (call (.builtin "tuple.__eq__") [.ref l, .ref x]) Q E s := by
  refine GQ.call_here PySem.F.slot_tuple_eq ht PySem.F.entry_tuple_eq (PySem.F.args_tuple_eq_2 _ _) ?_
  refine wpAny_bind (m := slotArgs "__eq__" 1 ⟨[.ref l, .ref x], []⟩) (wpAny_pure ?_)
  refine wpAny_bind (m := isInstance (.ref x) (.type "tuple")) (dec_isi X I hsub ?_)
  exact wpAny_pure q
theorem dec_dict {l : Addr} (X : K.In s.heap) (I : InstAt s.heap x (instObj C dx) C od) (ht : s.TypeIs (.ref l) "dict") (hsub : subIn K (.ref C) (.type "dict") = some false) (q : Q .notImplemented s) : wpAny (model prog w) A (call (.builtin "dict.__eq__") [.ref l, .ref x]) Q E s := by
  refine GQ.call_here PySem.F.slot_dict_eq ht PySem.F.entry_dict_eq (PySem.F.args_dict_eq_2 _ _) ?_
  show wpAny _ _ (Builtin.Dict.dictSlotArgs "__eq__" ⟨[.ref l, .ref x], []⟩ >>= _) _ _ s
  refine wpAny_bind ?_
  unfold Builtin.Dict.dictSlotArgs
  refine wpAny_bind (wpAny_notOrdered_dict ht ?_)
  show wpAny _ _ (pure (Value.ref l, Value.ref x)) _ _ s
  refine wpAny_pure ?_
  refine wpAny_bind (m := isInstance (.ref x) (.type "dict")) (dec_isi X I hsub ?_)
  simp only [Bool.not_false, if_true]
  exact wpAny_bind (wpAny_rule (wpAny_pure q))
end
end DL

namespace DL
open PySem L2
open Classical
theorem met_open {P : Program} {w : World} {K : PySem.W.Frag} {mg : Str → Option Value} {base : Heap} {k : Nat} {c x : Str} {ps : List Str} {F : HL} (G : Met1 P w K mg base k c x ps [] F) : ∃ f fd, Meth K (He.ga K c) x f ∧ FnD P w K mg base k f fd ps F ∧ Binds K fd ps [] := by
  obtain ⟨f, fd, dvs, dus, cl, hm, hF, hb, hd, hdd⟩ := G.ex
  have e0 : dus = [] := by
    have := (hdd ⟨fun _ => none, fun _ => none, fun _ => 0⟩ []).length
    have z := hd.length
    cases dus with
    | nil => rfl
    | cons u us => simp at z; simp [z] at this
  subst e0
  exact ⟨f, fd, hm, hF, hb⟩
/-- the left side is a built-in -/
inductive LeftB (K : PySem.W.Frag) (H : Hp) : V → Prop
  | non : LeftB K H .non
  | bl (b : Bool) : LeftB K H (.bl b)
  | int (b : Int) : LeftB K H (.int b)
  | str (b : Str) : LeftB K H (.str b)
  | lst {a : Addr} {vs : List V} : H a = some (.lst vs) → LeftB K H (.ref a)
  | tup {a : Addr} {vs : List V} : SqT K H a vs → LeftB K H (.ref a)
  | dK {a : Addr} {vs : List (Key × V)} : H a = some (.dK vs) → LeftB K H (.ref a)
  | dT {a : Addr} {vs : List (List Key × V)} : H a = some (.dT vs) → LeftB K H (.ref a)
def isLf (m : Mem) : D → Prop
  | .non => True
  | .bl _ => True
  | .int _ => True
  | .str _ => True
  | .tup _ => True
  | .lst _ => True
  | .mref i => (∃ xs, m[i]? = some (.lst xs)) ∨ (∃ xs, m[i]? = some (.dK xs)) ∨ ∃ xs, m[i]? = some (.dT xs)
  | _ => False
theorem isLf_ok {K : PySem.W.Frag} {g : Gh} {m : Mem} (rp : Rep K g m) {v : V} {d : D} (iv : IsG K g m v d) (h : isLf m d) : LeftB K g.H v := by
  cases iv with
  | non => exact .non
  | bl b => exact .bl b
  | int b => exact .int b
  | str b => exact .str b
  | ty _ => exact h.elim
  | glo _ => exact h.elim
  | slst _ _ _ => exact h.elim
  | stup _ _ _ => exact h.elim
  | lst s _ _ => exact .lst (rp.at_ s fun z => z)
  | tup s _ _ => exact .tup (rp.sqT s)
  | dK s _ _ => exact h.elim
  | dT s _ _ => exact h.elim
  | ins s _ _ => exact h.elim
  | mref hi =>
    rcases h with ⟨xs, h⟩ | ⟨xs, h⟩ | ⟨xs, h⟩
    · obtain ⟨_, vs, h1, _⟩ := rp.mem _ _ h; exact .lst h1
    · obtain ⟨_, vs, h1, _⟩ := rp.mem _ _ h; exact .dK h1
    · obtain ⟨_, vs, h1, _⟩ := rp.mem _ _ h; exact .dT h1
theorem left_ok {X : Cx} {pins : List (Addr × Obj)} {σ : St} {H : Hp} {s : Shared} {A : Around} {x : V} {u : Value} {C b dx : Addr} {od : Option Obj} (I : Inv X pins σ H s) (rx : RelV x u) (l : LeftB X.K H x) (J : PySem.W.InstAt s.heap b (PySem.W.instObj C dx) C od) (hsub : ∀ T ∈ bTys, PySem.W.subIn X.K (.ref C) (.type T) = some false) :
    ∃ Ta ida, s.TypeIs u Ta ∧ Ta ∈ bTys ∧ Slot Ta "__eq__" ida ∧ ∀ Q' : Value → Shared → Prop, Q' .notImplemented s → wpAny (model X.prog X.w) A (call (.builtin ida) [u, .ref b]) Q' X.xe s := by
  cases l with
  | non => cases (show u = Value.none from rx); exact ⟨"NoneType", "NoneType.__eq__", rfl, by decide, PySem.F.slot_NoneType_eq, fun _ q => dec_none q⟩
  | bl c => cases (show u = Value.bool c from rx); exact ⟨"bool", "int.__eq__", rfl, by decide, PySem.F.slot_bool_eq, fun _ q => dec_bool J q⟩
  | int c => obtain ⟨t, rfl⟩ := (show ∃ t, u = Value.int c t from rx); exact ⟨"int", "int.__eq__", typeIs_int s c t, by decide, PySem.F.slot_int_eq, fun _ q => dec_int J q⟩
  | str c => obtain ⟨t, rfl⟩ := (show ∃ t, u = Value.str c t from rx); exact ⟨"str", "str.__eq__", rfl, by decide, PySem.F.slot_str_eq, fun _ q => dec_str J q⟩
  | lst h =>
    cases (show u = Value.ref _ from rx)
    obtain ⟨z, its, k, r, e⟩ := I.hok _ _ h
    exact ⟨"list", "list.__eq__", ⟨_, e, rfl⟩, by decide, PySem.F.slot_list_eq, fun _ q => dec_list I.kIn J ⟨_, e, rfl⟩ (hsub _ (by decide)) q⟩
  | tup h =>
    cases (show u = Value.ref _ from rx)
    obtain ⟨its, r, ⟨o, e, ec, _⟩, z⟩ := I.tuple h
    exact ⟨"tuple", "tuple.__eq__", ⟨o, e, ec⟩, by decide, PySem.F.slot_tuple_eq, fun _ q => dec_tup I.kIn J ⟨o, e, ec⟩ (hsub _ (by decide)) q⟩
  | dK h =>
    cases (show u = Value.ref _ from rx)
    obtain ⟨_, _, vs, _, dd⟩ := I.hok _ _ h
    exact ⟨"dict", "dict.__eq__", dd.typeIs, by decide, PySem.F.slot_dict_eq, fun _ q => dec_dict I.kIn J dd.typeIs (hsub _ (by decide)) q⟩
  | dT h =>
    cases (show u = Value.ref _ from rx)
    obtain ⟨_, _, xs, _, o', es, ep, h1, h2, _⟩ := I.hok _ _ h
    exact ⟨"dict", "dict.__eq__", ⟨o', h1, h2.1⟩, by decide, PySem.F.slot_dict_eq, fun _ q => dec_dict I.kIn J ⟨o', h1, h2.1⟩ (hsub _ (by decide)) q⟩
/-- built-in == own -/
noncomputable def hRef (c : Str) (F : HL) : H2 := fun x y m => if isC c m y ∧ isLf m x then F [y, x] m else .bad
/-- own != anything -/
noncomputable def hNeO (own : List Str) (c : Str) (F : HL) : H2 := fun x y m => (hOwn own c F x y m).bind fun d m1 => match d with
  | .bl b => .ok (.bl (!b)) m1
  | _ => .bad
/-- anything in own -/
noncomputable def hInO (neg : Bool) (c : Str) (F : HL) : H2 := fun x y m => if isC c m y then (F [y, x] m).bind fun d m1 => (match d with
  | .bl b => .ok (.bl (if neg then !b else b)) m1
  | _ => .bad) else .bad
section
variable {X : Cx} {W : WX} {k : Nat} {c mn : Str} {ps : List Str} {F : HL} {own : List Str}
theorem ow_ref (G : Met1 X.prog X.w X.K X.mg X.base k c "__eq__" ps [] F) (hr : Room k X.A) (tk : Takes X W) (hW : Flat W) (kt : KitOk X.K own) (hc : c ∈ own) (h2 : ps.length = 2) : OW X W (compareOp .Eq) (hRef c F) := by
  obtain ⟨f, fd, hm, hF, hb⟩ := met_open G
  refine ⟨⟨fun x y H Q => ∃ a dx fs, y = .ref a ∧ H a = some (.ins (He.ga X.K c) dx fs) ∧ LeftB X.K H x ∧ spD X.K ps.length F [y, x] H Q (WE W []), ?_, fun σ g m x y dx dy Q rp ix iy q => ?_⟩⟩
  · intro pins s σ H x y v u Q I rx ry q
    obtain ⟨a, dx, fs, rfl, ha, lf, sp⟩ := q
    cases (show u = Value.ref a from ry)
    obtain ⟨mA, J, _⟩ := ins_get I.hok ha
    obtain ⟨od, J, _⟩ := J.look
    obtain ⟨m, hFr⟩ := I.fr
    have hsub : ∀ T ∈ bTys, PySem.W.subIn X.K (.ref (He.ga X.K c)) (.type T) = some false := fun T hT => sub_of_kit (kt.ob c hc T hT)
    obtain ⟨Ta, ida, h1, h2', h3, h4⟩ := left_ok (A := X.A) I rx lf J hsub
    show wpAny _ _ (richCompare .Eq v (.ref a)) _ _ s
    refine eqR_K hr.units0 hFr I.ok.mod.kin J h1 (hsub Ta h2') h3 h4 hm.at_ hm.fn ?_
    exact wpAny_mono (run_at hF ⟨hr, rfl⟩ hb tk hW I (.cons ry (.cons rx .nil)) sp) (fun w s' z => ep_cmp z) fun _ _ e => e
  · unfold hRef at q
    split at q
    · rename_i hcc
      obtain ⟨⟨fs, e1⟩, e2⟩ := hcc
      obtain ⟨a, dd, vs, rfl, h1, _⟩ := insV_ok rp iy e1
      exact ⟨a, dd, vs, rfl, h1, isLf_ok rp ix e2, by rw [h2]; rfl, g, m, [dy, dx], rfl, rp, .cons iy (.cons ix .nil), (Pre.flat (σ' := []) hW q).at⟩
    · exact q.elim
structure NeOk (K : PySem.W.Frag) (c : Str) : Prop where
  ne : PySem.W.findIn K (.ref (He.ga K c)) "__ne__" = some (some (.builtin "object.__ne__"))
  ob : PySem.W.subIn K (.ref (He.ga K c)) (.type "object") = some true
theorem ow_ne (G : Met1 X.prog X.w X.K X.mg X.base k c "__eq__" ps [] F) (hr : Room (k + 1) X.A) (tk : Takes X W) (hW : Flat W) (kt : KitOk X.K own) (hc : c ∈ own) (hn : NeOk X.K c) (h2 : ps.length = 2) : OW X W (compareOp .NotEq) (hNeO own c F) := by
  obtain ⟨f, fd, hm, hF, hb⟩ := met_open G
  refine ⟨⟨fun x y H Q => rOwn X.K c ps.length F (WE W []) x y H fun v H' => ∃ b, v = .bl b ∧ Q (.bl (!b)) H', ?_, fun σ g m x y dx dy Q rp ix iy q => ?_⟩⟩
  · intro pins s σ H x y v u Q I rx ry q
    obtain ⟨a, dx, fs, t, rfl, ha, ty, nf, sp⟩ := q
    cases (show v = Value.ref a from rx)
    obtain ⟨mA, J, _⟩ := ins_get I.hok ha
    obtain ⟨od, J, _⟩ := J.look
    obtain ⟨m, hFr⟩ := I.fr
    obtain ⟨P, Z, pz, _⟩ := kit_ofY I ry ty
    show wpAny _ _ (richCompare .NotEq (.ref a) u) _ _ s
    refine ne_K (by have := hr.un; omega) hFr I.ok.mod.kin J (Z.ty _ _ I.kIn pz) nf hn.ne hn.ob hm.at_ hm.fn ?_
    refine wpAny_mono (run_at hF ⟨hr.in1, rfl⟩ hb tk hW I (.cons rx (.cons ry .nil)) sp) (fun w s' z => ?_) fun _ _ e => e
    obtain ⟨z, H', I', rz, b, rfl, qz⟩ := z
    cases (show w = Value.bool b from rz)
    exact ⟨.bl (!b), H', I', rfl, qz⟩
  · refine own_sd kt hc hW h2 rp ix iy (pre_bind q fun g1 m1 z dz rp1 l1 iz q1 => ?_)
    cases iz <;> try exact q1.elim
    exact ⟨_, rfl, pre_val rp1 q1 (.bl _)⟩
def rInO (K : PySem.W.Frag) (neg : Bool) (c : Str) (n : Nat) (F : HL) (E : XK) : R2 := fun x y H Q => ∃ a dd fs, y = .ref a ∧ H a = some (.ins (He.ga K c) dd fs) ∧ spD K n F [y, x] H (fun v H' => ∃ b, v = .bl b ∧ Q (.bl (if neg then !b else b)) H') E
theorem in_sd (hW : Flat W) (neg : Bool) (h2 : ps.length = 2) {σ : St} {g : Gh} {m : Mem} {x y : V} {dx dy : D} {Q : VK} (rp : Rep X.K g m) (ix : IsG X.K g m x dx) (iy : IsG X.K g m y dy) (q : Pre (RE X.K) X.K W σ g m Q (hInO neg c F dx dy m)) :
    rInO X.K neg c ps.length F (WE W []) x y g.H Q := by
  unfold hInO at q
  split at q
  · rename_i hcc
    obtain ⟨fs, e1⟩ := hcc
    obtain ⟨a, dd, vs, rfl, h1, _⟩ := insV_ok rp iy e1
    refine ⟨a, dd, vs, rfl, h1, by rw [h2]; rfl, g, m, [dy, dx], rfl, rp, .cons iy (.cons ix .nil), (Pre.at (σ := []) (pre_bind (Pre.flat (σ' := []) hW q) fun g1 m1 z dz rp1 l1 iz q1 => ?_))⟩
    cases iz <;> try exact q1.elim
    exact ⟨_, rfl, pre_val rp1 q1 (.bl _)⟩
  · exact q.elim
theorem ow_in (G : Met1 X.prog X.w X.K X.mg X.base k c "__contains__" ps [] F) (hr : Room k X.A) (tk : Takes X W) (hW : Flat W) (h2 : ps.length = 2) : OW X W (compareOp .In) (hInO false c F) := by
  obtain ⟨f, fd, hm, hF, hb⟩ := met_open G
  refine ⟨⟨rInO X.K false c ps.length F (WE W []), ?_, fun σ g m x y dx dy Q rp ix iy q => in_sd hW false h2 rp ix iy q⟩⟩
  intro pins s σ H x y v u Q I rx ry q
  obtain ⟨a, dx, fs, rfl, ha, sp⟩ := q
  cases (show u = Value.ref a from ry)
  obtain ⟨mA, J, _⟩ := ins_get I.hok ha
  obtain ⟨od, J, _⟩ := J.look
  obtain ⟨m, hFr⟩ := I.fr
  refine PySem.W.in_K hFr I.ok.mod.kin J hm.at_ hm.fn ?_
  refine wpAny_mono (run_at hF ⟨hr, rfl⟩ hb tk hW I (.cons ry (.cons rx .nil)) sp) (fun w s' z => ?_) fun _ _ e => e
  obtain ⟨z, H', I', rz, b, rfl, qz⟩ := z
  cases (show w = Value.bool b from rz)
  exact wpAny_truthy_bool ⟨.bl b, H', I', rfl, qz⟩
theorem ow_nin (G : Met1 X.prog X.w X.K X.mg X.base k c "__contains__" ps [] F) (hr : Room k X.A) (tk : Takes X W) (hW : Flat W) (h2 : ps.length = 2) : OW X W (compareOp .NotIn) (hInO true c F) := by
  obtain ⟨f, fd, hm, hF, hb⟩ := met_open G
  refine ⟨⟨rInO X.K true c ps.length F (WE W []), ?_, fun σ g m x y dx dy Q rp ix iy q => in_sd hW true h2 rp ix iy q⟩⟩
  intro pins s σ H x y v u Q I rx ry q
  obtain ⟨a, dx, fs, rfl, ha, sp⟩ := q
  cases (show u = Value.ref a from ry)
  obtain ⟨mA, J, _⟩ := ins_get I.hok ha
  obtain ⟨od, J, _⟩ := J.look
  obtain ⟨m, hFr⟩ := I.fr
  refine PySem.W.notIn_K hFr I.ok.mod.kin J hm.at_ hm.fn ?_
  refine wpAny_mono (run_at hF ⟨hr, rfl⟩ hb tk hW I (.cons ry (.cons rx .nil)) sp) (fun w s' z => ?_) fun _ _ e => e
  obtain ⟨z, H', I', rz, b, rfl, qz⟩ := z
  cases (show w = Value.bool b from rz)
  exact wpAny_truthy_bool ⟨.bl (!b), H', I', rfl, qz⟩
/-- len of own -/
noncomputable def hLenO (c : Str) (F : HL) : HL := fun ds m => match ds with
  | [x] => if isC c m x then (F [x] m).bind fun d m1 => (match d with
    | .int n => if 0 ≤ n ∧ n < 2 ^ 63 then .ok (.int n) m1 else .bad
    | _ => .bad) else .bad
  | _ => .bad
theorem cw_len (G : Met1 X.prog X.w X.K X.mg X.base k c "__len__" ps [] F) (hr : Room (k + 1) X.A) (tk : Takes X W) (hW : Flat W) (h2 : ps.length = 1) : CW X W (.builtin "len") (hLenO c F) := by
  obtain ⟨f, fd, hm, hF, hb⟩ := met_open G
  refine ⟨⟨fun xs H Q => ∃ a dx fs, xs = [.ref a] ∧ H a = some (.ins (He.ga X.K c) dx fs) ∧ spD X.K ps.length F xs H (fun v H' => ∃ n, v = .int n ∧ (0 ≤ n ∧ n < 2 ^ 63) ∧ Q (.int n) H') (WE W []), ?_, fun σ g m xs ds Q rp ix q => ?_⟩⟩
  · intro pins s σ H xs us Q I rs q
    obtain ⟨a, dx, fs, rfl, ha, sp⟩ := q
    obtain ⟨u, rfl, ru⟩ : ∃ u, us = [u] ∧ RelV (.ref a) u := by
      cases rs with
      | cons h t => cases t; exact ⟨_, rfl, h⟩
    cases (show u = Value.ref a from ru)
    obtain ⟨mA, J, _⟩ := ins_get I.hok ha
    obtain ⟨od, J, _⟩ := J.look
    obtain ⟨m, hFr⟩ := I.fr
    refine PySem.W.len_K hFr I.ok.mod.kin J hm.at_ hm.fn ?_
    refine wpAny_mono (run_at hF ⟨hr.in1, rfl⟩ hb tk hW I (.cons ru .nil) sp) (fun w s' z => ?_) fun _ _ e => e
    obtain ⟨z, H', I', rz, n, rfl, hn, qz⟩ := z
    obtain ⟨t, rfl⟩ := (show ∃ t, w = Value.int n t from rz)
    exact ⟨hn, .int n, H', I'.tok _, ⟨_, rfl⟩, qz⟩
  · unfold hLenO at q
    split at q
    · split at q
      · rename_i x hcc
        obtain ⟨fs, e1⟩ := hcc
        cases ix with
        | cons i1 r1 =>
          cases r1
          obtain ⟨a, dd, vs, rfl, h1, _⟩ := insV_ok rp i1 e1
          refine ⟨a, dd, vs, rfl, h1, by rw [h2]; rfl, g, m, [x], rfl, rp, .cons i1 .nil, (Pre.at (σ := []) (pre_bind (Pre.flat (σ' := []) hW q) fun g1 m1 z dz rp1 l1 iz q1 => ?_))⟩
          cases iz <;> try exact q1.elim
          simp only at q1
          split at q1
          · rename_i hn
            exact ⟨_, rfl, hn, pre_val rp1 q1 (.int _)⟩
          · exact q1.elim
      · exact q.elim
    · exact q.elim
end
end DL
end
section
set_option maxRecDepth 100000
set_option maxHeartbeats 2000000
/-! The data layer, part 16: enumerate of a tuple. -/
namespace DL
open PySem L2
open Classical
theorem meets_enumB {v : Value} {o : Obj} {H : Heap → Prop} (B : Begins v o H) :
    Meets (Builtin.«enumerate.__new__» ⟨[.type "enumerate", v], []⟩) (fun _ R s => H s.heap ∧
      R (.ok (.ret (.ref (s.heap.push o).objs.size))) { s with heap := (s.heap.push o).push { cls := .type "enumerate", data := .fields #[.none, .bool false, .ref s.heap.objs.size, rawInt 0, .none, .none] } }) :=
  .of_wp fun prog w A R s h => by
    obtain ⟨hp, g, d, tk, os⟩ := s; obtain ⟨h1, h⟩ := h
    have hsub := sub_enumerate
    have q1 : ∀ {A' : Around} {E : Value → Shared → Prop} {Q : Value → Shared → Prop}, Q (.ref hp.objs.size) ⟨hp.push o, g, d, tk, os⟩ → wpAny (model prog w) A' (pyIter v) Q E ⟨hp, g, d, tk, os⟩ :=
      fun q => B.iter prog w _ _ ⟨hp, g, d, tk, os⟩ _ h1 q
    wp_walk using q1
    refine wpAny_stack_any fun st => wpAny_pure ?_
    split
    · rename_i c _ _ _ _ _
      cases (c == Value.type "enumerate")
      · wp_walk using q1
        exact ⟨_, rfl, h⟩
      · wp_walk using q1
        exact ⟨_, rfl, h⟩
    · wp_walk using q1
      exact ⟨_, rfl, h⟩
section
variable {prog : Program} {w : World} {A : Around} {E : Value → Shared → Prop} {s : Shared}
theorem enum_begins1 {v : Value} {o : Obj} {H : Heap → Prop} {Q : Value → Shared → Prop} (B : Begins v o H) (h1 : H s.heap)
    (h : ∀ h', IsEnum h' (s.heap.objs.size + 1) s.heap.objs.size 0 .none → h'.get? s.heap.objs.size = some o → h'.objs.size = s.heap.objs.size + 2 →
      (∀ b o, s.heap.get? b = some o → h'.get? b = some o) → Q (.ref (s.heap.objs.size + 1)) { s with heap := h' }) :
    wpAny (model prog w) A (call (.type "enumerate") [v]) Q E s := by
  refine callType_new F.called_enumerate (by decide) (F.typeCall_enumerate_1 _) (F.newCall_enumerate_1 _) (fun obj => F.args_object_init_2 obj _) F.entry_enumerate_new
    (meets_enumB B) ⟨h1, ?_⟩
  have hz : (s.heap.push o).objs.size = s.heap.objs.size + 1 := Heap.size_push ..
  show _ ∧ _
  rw [hz]
  have he : IsEnum ((s.heap.push o).push { cls := .type "enumerate", data := .fields #[.none, .bool false, .ref s.heap.objs.size, rawInt 0, .none, .none] }) (s.heap.objs.size + 1) s.heap.objs.size 0 .none := by
    have := Heap.get?_push_size (s.heap.push o) (o := { cls := .type "enumerate", data := .fields #[.none, .bool false, .ref s.heap.objs.size, rawInt 0, .none, .none] }) rfl
    rw [hz] at this; exact this
  refine ⟨⟨_, he, rfl⟩, h _ he (Heap.get?_push_of_some _ (Heap.get?_push_size _ B.free)) (by rw [Heap.size_push, hz]) fun b o x => Heap.get?_push_of_some _ (Heap.get?_push_of_some _ x)⟩
end
section
variable {prog : Program} {w : World} {A : Around} {E : Value → Shared → Prop} {s : Shared}
theorem endT {e it l : Addr} {i : Nat} {items : Array Value} {old : Value} {Q : Option Value → Shared → Prop} (hh : A.handled = none)
    (he : IsEnum s.heap e it i old) (hit : s.heap.IsTupleIter it l i) (hl : s.heap.IsTuple l items) (hx : items[i]? = none)
    (hQ : ∀ h', Heap.ExtBut it s.heap h' → Q none { s with heap := h' }) : wpAny (model prog w) A (pyNext (.ref e)) Q E s := by
  have hT : s.TypeIs (.ref e) "enumerate" := ⟨_, he, rfl⟩
  unfold pyNext
  refine wpAny_bind (wpAny_attempt (wpAny_callSpecial?_slot (name := Str.ofString "__next__") hT F.slot_enumerate_next
    (wpAny_call_entry F.slot_enumerate_next hT F.entry_enumerate_next ?_ (F.args_enumerate_next_1 _))))
  show wpAny _ _ (field (.ref e) 2 >>= _) _ _ _
  refine wpAny_bind (wpAny_field he rfl (x := .ref it) rfl ?_)
  refine wpAny_bind (wpAny_nextOf_tuple_end hh hit hl hx fun h' x he' hx' => ?_)
  obtain ⟨o, ho, hc⟩ := hx'
  refine wpAny_bind (wpAny_isInstance (T := "StopIteration") (b := true) ⟨o, ho, hc⟩ isSubtype_stop ?_)
  exact wpAny_pure (hQ _ he')
end
def IteT (K : PySem.W.Frag) (a : Addr) : It :=
  ⟨fun i H => ∃ (xs : List V) (x : V), SqT K H a xs ∧ xs[i]? = some x, fun i H v H' => ∃ T x, v = .ref T ∧ H T = none ∧ H' = upd H T (.tup [.int (i : Nat), x]) ∧ ∀ xs, SqT K H a xs → xs[i]? = some x, fun i H => ∃ xs : List V, SqT K H a xs ∧ xs.length ≤ i⟩
theorem turn_enumT {P : Program} {w : World} {K : PySem.W.Frag} {elts : List Expr} {kk : Nat} {tpos : Pos} (a e it : Addr) (hai : a ≠ it) (hae : a ≠ e) :
    Turn P w K (.Tuple elts kk tpos) (IteT K a) [e, it] e (fun i h => (∃ old, IsEnum h e it ((i : Nat) : Int) old) ∧ h.IsTupleIter it a i ∧ e ≠ it) where
  mem := by simp
  obj := fun i h st b hb => by
    obtain ⟨⟨old, he⟩, ⟨o, ho, hc, hd⟩, _⟩ := st
    have e' : b = e ∨ b = it := by simpa using hb
    rcases e' with z | z
    · rw [z]; exact ⟨_, he, fun v q => nomatch q⟩
    · rw [z]; exact ⟨o, ho, fun v q => by rw [hd] at q; cases q⟩
  keep := fun i h h' st k => let ⟨⟨old, he⟩, hi, hne⟩ := st; ⟨⟨old, k e (by simp) _ he⟩, hi.at fun o q => k it (by simp) o q, hne⟩
  item := by
    intro X hP hw hK hc i pins s σ H E I hf st hg
    subst hP hw hK
    obtain ⟨⟨old, he⟩, hit, hne⟩ := st
    obtain ⟨xs, x, hq, hx⟩ := hg
    obtain ⟨its, rv, p, hz⟩ := I.tuple hq
    obtain ⟨u, hu, ru⟩ := rv.get hx
    have hel : e < s.heap.objs.size := Heap.lt_size he
    have hil : it < s.heap.objs.size := by obtain ⟨_, q, _⟩ := hit; exact Heap.lt_size q
    have hlt : i < its.toArray.size := by rw [List.size_toArray]; exact (List.getElem?_eq_some_iff.mp hu).1
    refine wpAny_pyNext_enum_itemD (Draws.tuple (A := X.A.in1) (show X.A.in1.handled = none from I.ok.hd hc) it a hai its.toArray) he ⟨hit, p⟩ hlt hne (by simp [hne, Ne.symm hae]) fun y h' tk hy ho hit' hT hsz hk => ?_
    obtain ⟨hit', hp'⟩ := hit'
    have ey : y = u := by
      have : its.toArray[i]? = some u := by simpa using hu
      rw [this] at hy; exact (Option.some.inj hy).symm
    subst ey
    refine ⟨_, rfl, wpAny_letOwnedTupleGo_enum (s := { s with heap := h', toks := tk + 1 }) ho fun h'' he' sb => ?_⟩
    have hT2 : h''.get? s.heap.objs.size = some { cls := .type "tuple", data := .seq #[.int i tk, y] } := (sb.2 _ (Nat.ne_of_gt hel)).trans hT
    have new : ObjOk X.prog X.w (upd H s.heap.objs.size (.tup [.int (i : Nat), x])) h'' s.heap.objs.size (.tup [.int (i : Nat), x]) :=
      ⟨by show 2 ≤ sizeLine; decide, [.int i tk, y], .cons ⟨_, rfl⟩ (.cons ru .nil), ⟨_, hT2, rfl, _, rfl⟩⟩
    have I1 : Inv X pins σ (upd H s.heap.objs.size (.tup [.int (i : Nat), x])) { s with heap := h'', toks := tk + 1 } :=
      I.turnedNew (ch := [e, it]) (fun b ob hb q => (sb.2 b (fun z => hb (by simp [z]))).trans (hk b ob (fun z => hb (by simp [z])) (fun z => hb (by simp [z])) q)) hf (Nat.le_refl _) new
    refine ⟨.ref s.heap.objs.size, _, I1, rfl, ⟨_, x, rfl, I.hok.fresh (Nat.le_refl _), rfl, fun ys hy => by rw [I.tuple_inj hy hq]; exact hx⟩, ⟨⟨y, ?_⟩, hit'.at fun o q => (sb.2 it (Ne.symm hne)).trans q, hne⟩, fun b hb => ?_⟩
    · have e1 : ((i + 1 : Nat) : Int) = (i : Int) + 1 := by omega
      rw [e1]; exact he'
    · have hb' : b < s.heap.objs.size := by
        have e' : b = e ∨ b = it := by simpa using hb
        rcases e' with z | z
        · rw [z]; exact hel
        · rw [z]; exact hil
      rw [upd_ne (Nat.ne_of_lt hb')]
      exact (hf b hb).1
  done := by
    intro X hP hw hK hc i pins s σ H E I hf st hg
    subst hP hw hK
    obtain ⟨⟨old, he⟩, hit, hne⟩ := st
    obtain ⟨xs, hq, hx⟩ := hg
    obtain ⟨its, rv, p, hz⟩ := I.tuple hq
    obtain ⟨f0, f1, f2, f3, f4, f5⟩ := hf it (by simp)
    have hl := rv.length
    exact endT (I.ok.hd hc) he hit p (by simp; omega) fun h' eb => ⟨rfl, I.turned (t' := s.toks) (fun b o hb q => eb b o hb q) f0 f1 f3 f4 f5⟩
  self := fun A i s Q E st h => let ⟨⟨_, he⟩, _⟩ := st; wpAny_pyIter_enum he h

def iEnumA (K : PySem.W.Frag) (ta : TA) : TI := fun σ H R => ta σ H fun vs H1 => ∃ a xs, vs = [.ref a] ∧ ((SqL K H1 a xs ∧ R (Ite K a) H1) ∨ (SqT K H1 a xs ∧ R (IteT K a) H1))
theorem pi_enumA {X : Cx} {e : Expr} {ta : TA} {p pos tpos : Pos} {elts : List Expr} {kk : Nat} (hg : Gl X "enumerate") (hm : X.mg "enumerate" = none) (ha : PA X [e] ta) (hs : starEach [e] X.env = [(false, eval e X.env)] := by rfl) :
    PI X (.Tuple elts kk tpos) (.Call (.Name "enumerate" p) [e] [] pos) (iEnumA X.K ta) := by
  refine ⟨fun pins s σ H R I h => ?_⟩
  refine PyProof.Rows.Call_ (ld_blt I hg hm PyProof.Rows.boot_enumerate (PyProof.Rows.callWith_type1 (thn (ha.run pos pins s σ H _ I h) fun us s1 ⟨vs, H1, I1, r1, q1⟩ => ?_) hs rfl))
  obtain ⟨a, xs, ex, hq⟩ := q1
  subst ex
  cases r1 with
  | cons r rr =>
    cases rr
    cases r
    rcases hq with ⟨hq, q⟩ | ⟨hq, q⟩
    · obtain ⟨its, rv, p', hz⟩ := I1.list hq
      refine call_enumerate_list p'.isList fun h' he hit hsz hk => wpAny_pyIter_enum he ?_
      have I2 : Inv X pins σ H1 { s1 with heap := h' } := I1.kept (t' := s1.toks) hk
      refine ⟨s1.heap.objs.size + 1, [s1.heap.objs.size + 1, s1.heap.objs.size], _, _, H1, rfl, I2, turn_enum a (s1.heap.objs.size + 1) s1.heap.objs.size, ⟨⟨.none, he⟩, hit, Nat.succ_ne_self _⟩, fun b hb => ?_, q⟩
      have e' : b = s1.heap.objs.size + 1 ∨ b = s1.heap.objs.size := by simpa using hb
      have hle : s1.heap.objs.size ≤ b := by
        rcases e' with z | z
        · rw [z]; exact Nat.le_add_right _ _
        · rw [z]; exact Nat.le_refl _
      exact I1.fpOk hle (I1.hok.fresh hle)
    · obtain ⟨its, rv, p', hz⟩ := I1.tuple hq
      have hlt : a < s1.heap.objs.size := by obtain ⟨o, ho, _⟩ := p'; exact Heap.lt_size ho
      refine enum_begins1 (begins_tuple a its.toArray) p' fun h' he hit hsz hk => wpAny_pyIter_enum he ?_
      have I2 : Inv X pins σ H1 { s1 with heap := h' } := I1.kept (t' := s1.toks) hk
      refine ⟨s1.heap.objs.size + 1, [s1.heap.objs.size + 1, s1.heap.objs.size], _, _, H1, rfl, I2, turn_enumT a (s1.heap.objs.size + 1) s1.heap.objs.size (Nat.ne_of_lt hlt) (Nat.ne_of_lt (Nat.lt_succ_of_lt hlt)), ⟨⟨.none, he⟩, ⟨_, hit, rfl, rfl⟩, Nat.succ_ne_self _⟩, fun b hb => ?_, q⟩
      have e' : b = s1.heap.objs.size + 1 ∨ b = s1.heap.objs.size := by simpa using hb
      have hle : s1.heap.objs.size ≤ b := by
        rcases e' with z | z
        · rw [z]; exact Nat.le_add_right _ _
        · rw [z]; exact Nat.le_refl _
      exact I1.fpOk hle (I1.hok.fresh hle)
theorem iter_enumT {K : PySem.W.Frag} {g : Gh} {m : Mem} {a : Addr} {xs : List D} (hz : xs.length ≤ sizeLine) (h : ∀ g' m', Rep K g' m' → Lw g m g' m' → ∃ vs, SqT K g'.H a vs ∧ IsGL K g' m' vs xs) : IterOk K (IteT K a) g m (enumD 0 xs) where
  sz := by rw [enumD_length]; exact hz
  go := fun g' m' rp le i d e => by
    obtain ⟨vs, h1, k1⟩ := h g' m' rp le
    rw [enumD_get, Nat.zero_add] at e
    obtain ⟨x, ex, rfl⟩ := Option.map_eq_some_iff.mp e
    obtain ⟨v, ev, iv⟩ := k1.get ex
    refine ⟨⟨vs, v, h1, ev⟩, fun z H' yy => ?_⟩
    obtain ⟨T, x', rfl, hT, rfl, q1⟩ := yy
    have e1 := q1 vs h1
    rw [ev] at e1
    cases e1
    exact new_pair rp hT (.int _) iv
  stop := fun g' m' rp le => by
    obtain ⟨vs, h1, k1⟩ := h g' m' rp le
    exact ⟨vs, h1, by rw [enumD_length, k1.length]; exact Nat.le_refl _⟩
/-- enumerate of a list or a tuple -/
def iEnA (a : FE) : FI := fun ρ m => (a ρ m).bind fun x m1 => match x with
  | .tup xs => .ok (enumD 0 xs) m1
  | x => match lstK m1 x with
    | some xs => .ok (enumD 0 xs) m1
    | none => .bad
theorem pdi_enumA {X : Cx} {W : WX} {pos p tpos : Pos} {elts : List Expr} {kk : Nat} {e : Expr} {f : FE} (hg : Gl X "enumerate") (hm : X.mg "enumerate" = none) (h : PD X W e f) (hs : starEach [e] X.env = [(false, eval e X.env)] := by rfl) (hs3 : starEach (e :: []) X.env = (false, eval e X.env) :: starEach [] X.env := by rfl) :
    PDI X W (.Tuple elts kk tpos) (.Call (.Name "enumerate" p) [e] [] pos) (iEnA f) := by
  obtain ⟨t, pt, s⟩ := h.ex
  refine ⟨⟨_, pi_enumA hg hm (pa_cons pt pa_nil hs3) hs, fun g m σ ρ R rp en q => s g m σ ρ _ rp en (pre_bind q fun g1 m1 x dx rp1 l1 ix q1 => ?_)⟩⟩
  split at q1
  · rename_i xs
    cases ix with
    | tup s z l =>
      have z' := l.length
      refine ⟨_, _, rfl, .inr ⟨rp1.sqT s, q1 g1 _ rp1 (Le.refl _ _) (iter_enumT (by omega) fun g' m' rp' lw => ?_)⟩⟩
      exact ⟨_, rp'.sqT (lw.F _ _ s), l.lw lw⟩
  · split at q1
    · rename_i xs ex
      obtain ⟨a, rfl, hz, hs⟩ := lstK_stays rp1 ix ex
      obtain ⟨vs, h1, _⟩ := hs g1 m1 rp1 (Lw.refl _ _)
      exact ⟨a, vs, rfl, .inl ⟨h1, q1 g1 _ rp1 (Le.refl _ _) (iter_enum hz hs)⟩⟩
    · exact q1.elim
end DL
end
section
set_option maxRecDepth 100000
set_option maxHeartbeats 2000000
/-! The data layer, part 17: locks where they are needed, zip of tuples, empty dicts. -/
namespace DL
open PySem L2
open Classical
theorem lkAt_ok {ρ : EnvD} {m : Mem} {i j : Nat} {xs : List D} (el : lkAt ρ m i = some (j, xs)) : m[j]? = some (.lst xs) := by
  unfold lkAt at el
  split at el
  · split at el
    · cases el; assumption
    · cases el
  · cases el
/-- locked if it is a mutable list -/
def eLkO (i : Nat) (f : FE) : FE := fun ρ m => match lkAt ρ m i with
  | some (j, xs) => unlk j xs (f ρ (m.set j (.lkL xs)))
  | none => f ρ m
theorem IsX.len {K : PySem.W.Frag} {g : Gh} {m m' : Mem} {cls : Value} {dc : Option Addr} {x : Exn} (h : IsX K g m cls dc x) (e : m.length = m'.length) : IsX K g m' cls dc x :=
  ⟨h.1, h.2.imp id fun ⟨d, vs, h1, h2, h3, h4⟩ => ⟨d, vs, h1, h2, h3, by show IsL K g.F g.al m'.length _ _; rw [← e]; exact h4⟩⟩
theorem lk_pre {A B : Type} {R : Gh → Mem → A → B → Prop} (hR : ∀ g m m' a b, m.length = m'.length → R g m a b → R g m' a b) {K : PySem.W.Frag} {W : WX} {σ : St} {g : Gh} {m : Mem} {Q : A → Hp → Prop} {j : Nat} {xs : List D} (ej : m[j]? = some (.lst xs)) {r : Res B} (q : Pre R K W σ g m Q (unlk j xs r)) : Pre R K W σ g (m.set j (.lkL xs)) Q r := by
  cases r with
  | bad => exact q
  | ok d m' =>
    intro g' v rp' l' iv
    obtain ⟨e', l2⟩ := lk_le ej l'
    exact q g' v (lk_end rp' e') l2 (hR _ _ _ _ _ (by rw [List.length_set]) iv)
  | exc x m' =>
    intro g' c d rp' l' ix
    obtain ⟨e', l2⟩ := lk_le ej l'
    exact q g' c d (lk_end rp' e') l2 (ix.len (by rw [List.length_set]))
theorem pd_lkO {X : Cx} {W : WX} {e : Expr} {f : FE} (i : Nat) (h : PD X W e f) : PD X W e (eLkO i f) := by
  obtain ⟨t, p, s⟩ := h.ex
  refine ⟨⟨t, p, fun g m σ ρ Q rp en q => ?_⟩⟩
  unfold eLkO at q
  split at q
  · rename_i j xs el
    have ej := lkAt_ok el
    exact s g (m.set j (.lkL xs)) σ ρ Q (lk_start rp ej) (en.len' (by rw [List.length_set])) (lk_pre (fun g m m' a b e iv => iv.len e) ej q)
  · exact s g m σ ρ Q rp en q
def unlkS (j : Nat) (xs : List D) : RS → RS
  | .nx ρ m => .nx ρ (m.set j (.lst xs))
  | .rt d m => .rt d (m.set j (.lst xs))
  | .bk ρ m => .bk ρ (m.set j (.lst xs))
  | .ct ρ m => .ct ρ (m.set j (.lst xs))
  | .exc x ρ m => .exc x ρ (m.set j (.lst xs))
  | .bad => .bad
def sLkO (i : Nat) (f : FS) : FS := fun ρ m => match lkAt ρ m i with
  | some (j, xs) => unlkS j xs (f ρ (m.set j (.lkL xs)))
  | none => f ρ m
theorem lk_preS {K : PySem.W.Frag} {W : WX} {g : Gh} {m : Mem} {D : Ends} {j : Nat} {xs : List DL.D} (ej : m[j]? = some (.lst xs)) {r : RS} (q : PreS K W g m D (unlkS j xs r)) : PreS K W g (m.set j (.lkL xs)) D r := by
  have ln : ∀ {m' : Mem} {o : MO}, m'.length = (m'.set j o).length := fun {m' o} => by rw [List.length_set]
  cases r with
  | bad => exact q
  | nx ρ' m' => exact fun g' v rp' l' iv => let ⟨e', l2⟩ := lk_le ej l'; q g' v (lk_end rp' e') l2 (iv.len' ln)
  | rt ρ' m' => exact fun g' v rp' l' iv => let ⟨e', l2⟩ := lk_le ej l'; q g' v (lk_end rp' e') l2 (iv.len ln)
  | bk ρ' m' => exact fun g' v rp' l' iv => let ⟨e', l2⟩ := lk_le ej l'; q g' v (lk_end rp' e') l2 (iv.len' ln)
  | ct ρ' m' => exact fun g' v rp' l' iv => let ⟨e', l2⟩ := lk_le ej l'; q g' v (lk_end rp' e') l2 (iv.len' ln)
  | exc x ρ' m' => exact fun g' v c d rp' l' iv ix => let ⟨e', l2⟩ := lk_le ej l'; q g' v c d (lk_end rp' e') l2 (iv.len' ln) (ix.len ln)
theorem pds_lkO {X : Cx} {W : WX} {st : Stmt} {f : FS} (i : Nat) (h : PDS X W st f) : PDS X W st (sLkO i f) := by
  obtain ⟨t, p, s⟩ := h.ex
  refine ⟨⟨t, p, fun g m σ ρ D rp en q => ?_⟩⟩
  unfold sLkO at q
  split at q
  · rename_i j xs el
    have ej := lkAt_ok el
    exact s g (m.set j (.lkL xs)) σ ρ D (lk_start rp ej) (en.len' (by rw [List.length_set])) (lk_preS ej q)
  · exact s g m σ ρ D rp en q
/-! ### zip of two lists or two tuples -/
theorem iter_zipT {K : PySem.W.Frag} {g : Gh} {m : Mem} {a b : Addr} {xs ys : List D} (hz : xs.length ≤ sizeLine) (h : ∀ g' m', Rep K g' m' → Lw g m g' m' → ∃ vs, SqT K g'.H a vs ∧ IsGL K g' m' vs xs) (h2 : ∀ g' m', Rep K g' m' → Lw g m g' m' → ∃ vs, SqT K g'.H b vs ∧ IsGL K g' m' vs ys) : IterOk K (RZ.ItzT K a b) g m (pairsD xs ys) where
  sz := by rw [pairsD_length]; omega
  go := fun g' m' rp le i d e => by
    obtain ⟨vs, h1, k1⟩ := h g' m' rp le
    obtain ⟨ws, h3, k3⟩ := h2 g' m' rp le
    rw [pairsD_get] at e
    split at e
    · rename_i x y ex ey
      cases e
      obtain ⟨v, ev, iv⟩ := k1.get ex
      obtain ⟨w, ew, iw⟩ := k3.get ey
      refine ⟨⟨vs, ws, v, w, h1, h3, ev, ew⟩, fun z H' yy => ?_⟩
      obtain ⟨T, x', y', rfl, hT, rfl, q1, q2⟩ := yy
      have e1 := q1 vs h1
      have e2 := q2 ws h3
      rw [ev] at e1
      rw [ew] at e2
      cases e1
      cases e2
      exact new_pair rp hT iv iw
    · cases e
  stop := fun g' m' rp le => by
    obtain ⟨vs, h1, k1⟩ := h g' m' rp le
    obtain ⟨ws, h3, k3⟩ := h2 g' m' rp le
    refine ⟨vs, ws, h1, h3, ?_⟩
    rw [pairsD_length, k1.length, k3.length]
    omega
def zipR (x y : D) (m : Mem) : Res (List D) := match x, y with
  | .tup xs, .tup ys => .ok (pairsD xs ys) m
  | x, y => match lstK m x, lstK m y with
    | some xs, some ys => .ok (pairsD xs ys) m
    | _, _ => .bad
def iZpA (a b : FE) : FI := fun ρ m => (a ρ m).bind fun x m1 => (b ρ m1).bind fun y m2 => zipR x y m2
theorem pdi_zipA {X : Cx} {W : WX} {pos p tpos : Pos} {elts : List Expr} {kk : Nat} {e e2 : Expr} {f f2 : FE} (hg : Gl X "zip") (hm : X.mg "zip" = none) (h : PD X W e f) (h2 : PD X W e2 f2) (hs : starEach [e, e2] X.env = (false, eval e X.env) :: starEach [e2] X.env := by rfl) (hpl : (backTo pos (starEach [e2] X.env)).any (·.1) = false := by rfl)
    (hs3 : starEach (e2 :: []) X.env = (false, eval e2 X.env) :: starEach [] X.env := by rfl) : PDI X W (.Tuple elts kk tpos) (.Call (.Name "zip" p) [e, e2] [] pos) (iZpA f f2) := by
  obtain ⟨t, pt, s⟩ := h.ex
  obtain ⟨t', pt', s'⟩ := h2.ex
  refine ⟨⟨_, RZ.pi_zipA hg hm (pa_cons pt (pa_cons pt' pa_nil hs3) hs) hs hpl, fun g m σ ρ R rp en q => s g m σ ρ _ rp en (pre_bind q fun g1 m1 x dx rp1 l1 ix q1 => s' g1 m1 σ ρ _ rp1 (en.le l1) (pre_bind q1 fun g2 m2 y dy rp2 l2 iy q2 => ?_))⟩⟩
  unfold zipR at q2
  split at q2
  · rename_i xs ys
    have ix2 := ix.le l2
    cases ix2 with
    | tup s z l =>
      cases iy with
      | tup s3 z3 l3 =>
        have e1 := l.length
        refine ⟨_, _, _, _, rfl, .inr ⟨rp2.sqT s, rp2.sqT s3, q2 g2 _ rp2 (Le.refl _ _) (iter_zipT (by omega) (fun g' m' rp' lw => ?_) (fun g' m' rp' lw => ?_))⟩⟩
        · exact ⟨_, rp'.sqT (lw.F _ _ s), l.lw lw⟩
        · exact ⟨_, rp'.sqT (lw.F _ _ s3), l3.lw lw⟩
  · split at q2
    · rename_i xs ys ex ey
      obtain ⟨a, rfl, hz, hs⟩ := lstK_stays rp2 (ix.le l2) ex
      obtain ⟨b, rfl, hz2, hs2⟩ := lstK_stays rp2 iy ey
      obtain ⟨vs, h1, _⟩ := hs g2 m2 rp2 (Lw.refl _ _)
      obtain ⟨ws, h3, _⟩ := hs2 g2 m2 rp2 (Lw.refl _ _)
      exact ⟨a, b, vs, ws, rfl, .inl ⟨h1, h3, q2 g2 _ rp2 (Le.refl _ _) (iter_zipL hz hs hs2)⟩⟩
    · exact q2.elim
/-! ### {} -/
def eD0K : FE := fun _ m => .ok (.mref m.length) (m ++ [.dK []])
def eD0T : FE := fun _ m => .ok (.mref m.length) (m ++ [.dT []])
section
variable {X : Cx} {W : WX} {pos : Pos}
theorem pd_d0K : PD X W (.Dict [] [] pos) eD0K := by
  refine ⟨⟨_, pe_dnewK, fun g m σ ρ Q rp en q p hp => ?_⟩⟩
  obtain ⟨r, l⟩ := rp.newM (o := .dK []) (mo := .dK []) hp (fun _ _ z => by cases z) ⟨rp.free hp, [], upd_same, rfl, .nil⟩
  have e : (g.add m.length p (.dK [])).al m.length = p := if_pos rfl
  refine q _ (.ref p) r l ?_
  have z : IsG X.K (g.add m.length p (.dK [])) (m ++ [.dK []]) (.ref ((g.add m.length p (.dK [])).al m.length)) (.mref m.length) := .mref (by simp)
  rw [e] at z
  exact z
theorem pd_d0T : PD X W (.Dict [] [] pos) eD0T := by
  refine ⟨⟨_, pe_dnewT, fun g m σ ρ Q rp en q p hp => ?_⟩⟩
  obtain ⟨r, l⟩ := rp.newM (o := .dT []) (mo := .dT []) hp (fun _ _ z => by cases z) ⟨rp.free hp, [], upd_same, rfl, .nil⟩
  have e : (g.add m.length p (.dT [])).al m.length = p := if_pos rfl
  refine q _ (.ref p) r l ?_
  have z : IsG X.K (g.add m.length p (.dT [])) (m ++ [.dT []]) (.ref ((g.add m.length p (.dT [])).al m.length)) (.mref m.length) := .mref (by simp)
  rw [e] at z
  exact z
end
end DL
end
section
set_option maxRecDepth 100000
set_option maxHeartbeats 2000000
/-! The data layer, part 18: the head's facts, the end. -/
namespace DL
open PySem L2
open Classical
/-! ### facts told by a Bool -/
def exOwn (K : PySem.W.Frag) (c : Str) : Bool :=
  (He.Fa.cls c).ok K && (He.eqO (PySem.W.findIn K (.ref (He.ga K c)) "__class__") (some (some (.builtin "object.__class__"))) &&
  (decide (PySem.W.specialIn K (.builtin "object.__class__") "__get__" = some (some (.builtin "getset_descriptor.__get__"))) && (decide (PySem.W.takesIn K (.builtin "object.__class__") = some true) && decide (PySem.W.mroIn K (He.ga K c) (.type "object") = some true))))
def exKit (own : List Str) (K : PySem.W.Frag) : Bool :=
  own.all (exOwn K) && (own.all (fun a => own.all fun c => decide (PySem.W.kitOne K (.ref (He.ga K a)) (.ref (He.ga K c)) = some (decide (a = c)))) &&
  (own.all (fun a => bTys.all fun c => decide (PySem.W.kitOne K (.ref (He.ga K a)) (.type c) = some false)) && bTys.all (fun a => own.all fun c => decide (PySem.W.kitOne K (.type a) (.ref (He.ga K c)) = some false))))
theorem band {a b : Bool} (h : (a && b) = true) : a = true ∧ b = true := by simpa using h
theorem exOwn_ok {K : PySem.W.Frag} {c : Str} (h : exOwn K c = true) : OwnOk K c := by
  obtain ⟨h1, h⟩ := band h
  obtain ⟨h2, h⟩ := band h
  obtain ⟨h3, h⟩ := band h
  obtain ⟨h4, h5⟩ := band h
  exact ⟨He.cls_ok h1, He.eqO_ok h2, of_decide_eq_true h3, of_decide_eq_true h4, of_decide_eq_true h5⟩
theorem exKit_ok {K : PySem.W.Frag} {own : List Str} (h : exKit own K = true) : KitOk K own := by
  obtain ⟨h1, h⟩ := band h
  obtain ⟨h2, h⟩ := band h
  obtain ⟨h3, h4⟩ := band h
  exact ⟨fun c hc => exOwn_ok (List.all_eq_true.mp h1 c hc), fun a ha c hc => of_decide_eq_true (List.all_eq_true.mp (List.all_eq_true.mp h2 a ha) c hc),
    fun a ha c hc => of_decide_eq_true (List.all_eq_true.mp (List.all_eq_true.mp h3 a ha) c hc), fun a ha c hc => of_decide_eq_true (List.all_eq_true.mp (List.all_eq_true.mp h4 a ha) c hc)⟩
def exNe (K : PySem.W.Frag) (c : Str) : Bool := He.eqO (PySem.W.findIn K (.ref (He.ga K c)) "__ne__") (some (some (.builtin "object.__ne__"))) && decide (PySem.W.subIn K (.ref (He.ga K c)) (.type "object") = some true)
theorem exNe_ok {K : PySem.W.Frag} {c : Str} (h : exNe K c = true) : NeOk K c := by
  obtain ⟨h1, h2⟩ := band h
  exact ⟨He.eqO_ok h1, of_decide_eq_true h2⟩
/-! ### the end -/
theorem walk_ofD {l : PySem.W.OpenLaw} {n k : Nat} {q : Program} {loose : List Str} {XP : (Str → Option Value) → Heap → Prop} {YP : World → Heap → Prop} {d : DefRec} {x : Str} {F : HL}
    (hn : l.most = some n) (hn2 : n ≤ sizeLine) (hdf : d.params.defaults = []) (hr : Room k callerA)
    (G : ∀ (w : World) (mg : Str → Option Value) (fa : Addr) (h : Heap), YP w h → h.Ns mainGlobals mg → mg d.name = some (.ref fa) →
      ∃ (K : PySem.W.Frag) (fd : FuncData), K.In h ∧ (∀ (s : Shared) (u : Value), BindsTo s fd ⟨[u], []⟩ [(x, u)]) ∧ ∀ base : Heap, K.In base → base.Ns mainGlobals mg → FnD l.prog w K mg base k fa fd [x] F)
    (hF : ∀ ns : List Int, ns.length ≤ n → ∃ m, F [.slst (ns.map .int)] [] = .ok (.bl true) m) :
    PySem.W.WalkO q loose XP YP l.row.toRowW d [] (fun f vs => PySem.call f vs) := by
  refine Att.attach_call hn hdf fun w s₀ s₁ mg mb fa o pm cd doc a vs ns G0 Y ho hd hcd hmg hobj hints hlen hg => ?_
  obtain ⟨K, fd, KX, hb, hG⟩ := G w mg fa _ Y G0.T.g hmg
  refine law_call (CX := L2.CX l.prog w) (sp := spD K 1 F) KX G0.T.g G0.T.b G0.T.builtins G0.T.nolimit hg hobj hints (Nat.le_trans hlen hn2) hr hG hb (fun H hO hS => ?_) fun H e s' c => ?_
  · obtain ⟨m, hm⟩ := hF ns hlen
    have il : ∀ xs : List Int, IsL K H (fun _ => 0) 0 (xs.map V.int) (xs.map D.int) := fun xs => by
      induction xs with
      | nil => exact .nil
      | cons x xs ih => exact .cons (.int x) ih
    refine ⟨rfl, ⟨H, H, fun _ => 0⟩, [], [.slst (ns.map .int)], rfl, ⟨fun b o h => .inl h, fun i o h => by simp at h, fun i j hi => ?_⟩, .cons (.slst hS ?_ (il ns)) .nil, ?_⟩
    · obtain ⟨o, h, _⟩ := hi
      simp at h
    · rw [List.length_map]
      exact Nat.le_trans hlen hn2
    · rw [hm]
      intro g' v rp l iv
      cases iv
      rfl
  · obtain ⟨_, _, _, _, _, _, _, _, _, _, _, _, z⟩ := c
    exact z
/-! ### calls, with their number of parameters written out -/
section
variable {X : Cx} {W : WX} {k n : Nat} {x c mn : Str} {ps : List Str} {dds : List D} {F : HL} {p pos apos : Pos} {e o : Expr} {es : List Expr} {fa : FA} {fo : FE}
theorem pc_defN (G : Def1 X.prog X.w X.K X.mg X.base k x ps dds F) (hr : Room k X.A) (tk : Takes X W) (ha : PDA X W (e :: es) fa) (hn : ps.length = n := by rfl) (hg : Gl X x := by rfl) (hdb : (x == ("__debug__" : Str)) = false := by decide) (he : starEach (e :: es) X.env = (false, eval e X.env) :: starEach es X.env := by rfl) (hpl : (backTo pos (starEach es X.env)).any (·.1) = false := by rfl) :
    PD X W (.Call (.Name x p) (e :: es) [] pos) (eCall n F dds fa) := by
  subst hn
  exact pc_def G hr tk ha hg hdb he hpl
theorem pc_def0N (G : Def1 X.prog X.w X.K X.mg X.base k x ps dds F) (hr : Room k X.A) (tk : Takes X W) (hW : Flat W) (hn : ps.length = n := by rfl) (hg : Gl X x := by rfl) (hdb : (x == ("__debug__" : Str)) = false := by decide) : PD X W (.Call (.Name x p) [] [] pos) (eCall n F dds aNil) := by
  subst hn
  exact pc_def0 G hr tk hW hg hdb
theorem pc_metN {pl : Sem Bool} (G : Met1 X.prog X.w X.K X.mg X.base k c mn ps dds F) (hr : Room k X.A) (tk : Takes X W) (hW : Flat W) (ho : PD X W o fo) (ha : PDA X W (e :: es) fa) (hn : ps.length = n := by rfl)
    (hst : starEach (e :: es) X.env = (false, eval e X.env) :: starEach es X.env := by rfl) (hpl : (backTo pos (starEach es X.env)).any (·.1) = false := by rfl)
    (ht : eval (.Call (.Attribute o mn apos) (e :: es) [] pos) X.env = (do
      let ov ← eval o X.env
      standAt apos.atName
      let (f, first) ← holding [ov] (getMethod ov mn pl)
      callWith pos f first (backTo pos (starEach (e :: es) X.env)) (backToKw pos (keywordEach [] X.env))) := by rfl) :
    PD X W (.Call (.Attribute o mn apos) (e :: es) [] pos) (eMeth c mn n F dds fo fa) := by
  subst hn
  exact pc_met G hr tk hW ho ha hst hpl ht
theorem pc_met0N {pl : Sem Bool} (G : Met1 X.prog X.w X.K X.mg X.base k c mn ps dds F) (hr : Room k X.A) (tk : Takes X W) (hW : Flat W) (ho : PD X W o fo) (hn : ps.length = n := by rfl)
    (ht : eval (.Call (.Attribute o mn apos) [] [] pos) X.env = (do
      let ov ← eval o X.env
      standAt apos.atName
      let (f, first) ← holding [ov] (getMethod ov mn pl)
      callWith pos f first (backTo pos (starEach [] X.env)) (backToKw pos (keywordEach [] X.env))) := by rfl) :
    PD X W (.Call (.Attribute o mn apos) [] [] pos) (eMeth c mn n F dds fo aNil) := by
  subst hn
  exact pc_met0 G hr tk hW ho ht
theorem pc_makN (G : Mak1 X.prog X.w X.K X.mg X.base k c ps dds F) (hr : Room (k + 1) X.A) (tk : Takes X W) (hW : Flat W) (ha : PDA X W (e :: es) fa) (hn : ps.length = n := by rfl) (hg : Gl X c := by rfl) (hdb : (c == ("__debug__" : Str)) = false := by decide) (he : starEach (e :: es) X.env = (false, eval e X.env) :: starEach es X.env := by rfl) (hpl : (backTo pos (starEach es X.env)).any (·.1) = false := by rfl) :
    PD X W (.Call (.Name c p) (e :: es) [] pos) (eMake c n F dds fa) := by
  subst hn
  exact pc_mak G hr tk hW ha hg hdb he hpl
theorem pc_makKN {np nk : Nat} {ks : List Str} {kws : List Keyword} {fk : FA} (G : MakK X.prog X.w X.K X.mg X.base k c ps ks np F) (hr : Room (k + 1) X.A) (tk : Takes X W) (hW : Flat W) (ha : PDA X W (e :: es) fa) (hkw : PDK X W kws fk) (hn : ps.length = n := by rfl) (hnk : ks.length = nk := by rfl) (hg : Gl X c := by rfl)
    (hall : (backToKw pos (keywordEach kws X.env)).all (·.1.isSome) = true := by rfl) (hks : (backToKw pos (keywordEach kws X.env)).filterMap (·.1) = ks := by rfl) (hdb : (c == ("__debug__" : Str)) = false := by decide)
    (he : starEach (e :: es) X.env = (false, eval e X.env) :: starEach es X.env := by rfl) (hpl : ((backTo pos (starEach (e :: es) X.env)).any (·.1) || (backToKw pos (keywordEach kws X.env)).any (·.1.isNone)) = false := by rfl) :
    PD X W (.Call (.Name c p) (e :: es) kws pos) (eMakeK c n np nk F fa fk) := by
  subst hn hnk
  exact pc_makK G hr tk hW ha hkw hg hall hks hdb he hpl
end
end DL
end
section
set_option maxRecDepth 100000
set_option maxHeartbeats 2000000
/-! The data layer, part 19: dicts: items got, looked for, told with a default, set. -/
namespace DL
open PySem L2
open Classical
/-! ### a tuple that nobody held is held from now on -/
theorem MOk.noTup {K : PySem.W.Frag} {g : Gh} {n : Nat} {a : Addr} {vs : List V} : ∀ {o : MO}, MOk K g n a o → o ≠ .gone → g.H a ≠ some (.tup vs)
  | .lst _, h, _ => fun e => by obtain ⟨_, _, h, _⟩ := h; rw [e] at h; cases h
  | .lkL _, h, _ => fun e => by obtain ⟨_, _, h, _⟩ := h; rw [e] at h; cases h
  | .dK _, h, _ => fun e => by obtain ⟨_, _, h, _⟩ := h; rw [e] at h; cases h
  | .dT _, h, _ => fun e => by obtain ⟨_, _, h, _⟩ := h; rw [e] at h; cases h
  | .lkK _, h, _ => fun e => by obtain ⟨_, _, _, h, _⟩ := h; rw [e] at h; cases h
  | .lkT _, h, _ => fun e => by obtain ⟨_, _, _, h, _⟩ := h; rw [e] at h; cases h
  | .ins _ _, h, _ => fun e => by obtain ⟨_, _, _, h, _⟩ := h; rw [e] at h; cases h
  | .gone, _, n => absurd rfl n
section
variable {K : PySem.W.Frag} {g : Gh} {m : Mem}
theorem Rep.adoptT (rp : Rep K g m) {q : Addr} {vs : List V} (h : g.H q = some (.tup vs)) : Rep K ⟨g.H, upd g.F q (.tup vs), g.al⟩ m ∧ Le g m ⟨g.H, upd g.F q (.tup vs), g.al⟩ m := by
  have mF : ∀ b u, g.F b = some u → upd g.F q (.tup vs) b = some u := fun b u f => by
    by_cases hb : b = q
    · subst hb
      rcases rp.sub b u f with e | ⟨_, ob, e⟩ <;> (rw [h] at e; cases e)
      exact upd_same
    · rw [upd_ne hb]; exact f
  refine ⟨⟨fun b u f => ?_, fun i u e => ?_, rp.inj⟩, ⟨mF, Nat.le_refl _, fun _ _ => rfl, fun b u e nt f l => ⟨e, ?_, l⟩, fun _ _ _ e => e, fun _ _ e _ => e⟩⟩
  · by_cases hb : b = q
    · subst hb
      rw [show (⟨g.H, upd g.F b (.tup vs), g.al⟩ : Gh).F b = some (.tup vs) from upd_same] at f
      cases f
      exact .inl h
    · rw [show (⟨g.H, upd g.F q (.tup vs), g.al⟩ : Gh).F b = g.F b from upd_ne hb] at f
      exact rp.sub b u f
  · by_cases hn : u = .gone
    · subst hn; trivial
    · have ne : g.al i ≠ q := fun z => (rp.mem i u e).noTup hn (z ▸ h)
      exact (rp.mem i u e).step (g := g) (g' := ⟨g.H, upd g.F q (.tup vs), g.al⟩) rfl (fun f => by show upd g.F q (.tup vs) (g.al i) = none; rw [upd_ne ne]; exact f) mF (fun _ _ => rfl) (Nat.le_refl _)
  · show upd g.F q (.tup vs) b = none
    rw [upd_ne (fun z : b = q => nt vs (by rw [z] at e; exact Option.some.inj (e.symm.trans h)))]
    exact f
end
/-! ### keys -/
def keyV : D → Option Key
  | .str s => some (.inr s)
  | .int i => some (.inl i)
  | _ => none
def keysV : List D → Option (List Key)
  | [] => some []
  | d :: ds => match keyV d, keysV ds with
    | some k, some ks => some (k :: ks)
    | _, _ => none
def keyD : Key → D
  | .inr s => .str s
  | .inl i => .int i
section
variable {K : PySem.W.Frag} {F : Hp} {al : Nat → Addr} {n : Nat}
theorem keyV_ok {v : V} {d : D} {k : Key} (iv : Is K F al n v d) (h : keyV d = some k) : v = kV k := by
  cases iv <;> simp only [keyV] at h <;> first | (cases h; rfl) | cases h
theorem keysV_ok : ∀ {vs : List V} {ds : List D} {ks : List Key}, IsL K F al n vs ds → keysV ds = some ks → vs = ks.map kV
  | _, _, _, .nil, h => by cases h; rfl
  | _, _, _, .cons i t, h => by
    simp only [keysV] at h
    split at h
    · rename_i k ks e1 e2
      cases h
      rw [keyV_ok i e1, keysV_ok t e2]
      rfl
    · cases h
theorem keyD_is (k : Key) : Is K F al n (kV k) (keyD k) := by
  cases k with
  | inl i => exact .int i
  | inr s => exact .str s
theorem keysD_is : ∀ ks : List Key, IsL K F al n (ks.map kV) (ks.map keyD)
  | [] => .nil
  | k :: ks => .cons (keyD_is k) (keysD_is ks)
end
@[simp] theorem keysV_strs : ∀ xs : List Str, keysV (xs.map .str) = some (xs.map .inr)
  | [] => rfl
  | x :: xs => by simp [keysV, keyV, keysV_strs xs]
/-! ### what a dict holds -/
def dicK (m : Mem) : D → Option (List (Key × D))
  | .dK kvs => some kvs
  | .mref i => match m[i]? with
    | some (.dK kvs) => some kvs
    | some (.lkK kvs) => some kvs
    | _ => none
  | _ => none
def dicT (m : Mem) : D → Option (List (List Key × D))
  | .dT kvs => some kvs
  | .mref i => match m[i]? with
    | some (.dT kvs) => some kvs
    | some (.lkT kvs) => some kvs
    | _ => none
  | _ => none
section
variable {K : PySem.W.Frag} {g : Gh} {m : Mem}
theorem dicK_ok (rp : Rep K g m) {v : V} {d : D} {kvs : List (Key × D)} (iv : IsG K g m v d) (h : dicK m d = some kvs) : ∃ a vs, v = .ref a ∧ Rd g.H a (.dK vs) ∧ vs.map (·.1) = kvs.map (·.1) ∧ IsGL K g m (vs.map (·.2)) (kvs.map (·.2)) := by
  cases iv with
  | dK s k l =>
    cases h
    rcases rp.sub _ _ s with h | ⟨_, ob, h⟩
    · exact ⟨_, _, rfl, .inl h, k, l⟩
    · exact ⟨_, _, rfl, .inr ⟨ob, h⟩, k, l⟩
  | mref hi =>
    rename_i i
    simp only [dicK] at h
    split at h
    · rename_i xs e; cases h; obtain ⟨_, vs, h1, h2, h3⟩ := rp.mem i _ e; exact ⟨_, vs, rfl, .inl h1, h2, h3⟩
    · rename_i xs e; cases h; obtain ⟨_, ob, vs, h1, h2, h3⟩ := rp.mem i _ e; exact ⟨_, vs, rfl, .inr ⟨ob, h1⟩, h2, h3⟩
    · cases h
  | _ => cases h
theorem dicT_ok (rp : Rep K g m) {v : V} {d : D} {kvs : List (List Key × D)} (iv : IsG K g m v d) (h : dicT m d = some kvs) : ∃ a vs, v = .ref a ∧ Rd g.H a (.dT vs) ∧ vs.map (·.1) = kvs.map (·.1) ∧ IsGL K g m (vs.map (·.2)) (kvs.map (·.2)) := by
  cases iv with
  | dT s k l =>
    cases h
    rcases rp.sub _ _ s with h | ⟨_, ob, h⟩
    · exact ⟨_, _, rfl, .inl h, k, l⟩
    · exact ⟨_, _, rfl, .inr ⟨ob, h⟩, k, l⟩
  | mref hi =>
    rename_i i
    simp only [dicT] at h
    split at h
    · rename_i xs e; cases h; obtain ⟨_, vs, h1, h2, h3⟩ := rp.mem i _ e; exact ⟨_, vs, rfl, .inl h1, h2, h3⟩
    · rename_i xs e; cases h; obtain ⟨_, ob, vs, h1, h2, h3⟩ := rp.mem i _ e; exact ⟨_, vs, rfl, .inr ⟨ob, h1⟩, h2, h3⟩
    · cases h
  | _ => cases h
end
/-! ### values by keys -/
section
variable {κ : Type} [DecidableEq κ]
def valD : List (κ × D) → κ → Option D
  | [], _ => none
  | p :: r, k => if p.1 = k then some p.2 else valD r k
def putT (kvs : List (κ × D)) (k : κ) (d : D) : List (κ × D) :=
  if (kvs.any fun kv => decide (kv.1 = k)) = true then kvs.map (fun kv => if kv.1 = k then (kv.1, d) else kv) else kvs ++ [(k, d)]
theorem val_is {K : PySem.W.Frag} {F : Hp} {al : Nat → Addr} {n : Nat} {k : κ} : ∀ {vs : List (κ × V)} {ds : List (κ × D)}, vs.map (·.1) = ds.map (·.1) → IsL K F al n (vs.map (·.2)) (ds.map (·.2)) →
    (∀ d, valD ds k = some d → ∃ v, valV vs k = some v ∧ Is K F al n v d) ∧ (valD ds k = none → valV vs k = none)
  | [], [], _, _ => ⟨fun d h => (by cases h), fun _ => rfl⟩
  | [], _ :: _, h, _ => by simp at h
  | _ :: _, [], h, _ => by simp at h
  | p :: vs, q :: ds, h, l => by
    simp only [List.map_cons, List.cons.injEq] at h
    cases l with
    | cons i t =>
      by_cases e : q.1 = k
      · refine ⟨fun d hd => ?_, fun hd => ?_⟩
        · simp only [valD, if_pos e] at hd
          cases hd
          exact ⟨p.2, valV_pos (h.1.trans e), i⟩
        · simp only [valD, if_pos e] at hd
          cases hd
      · have ih := val_is (k := k) h.2 t
        have e' : ¬ p.1 = k := fun z => e (h.1.symm.trans z)
        rw [valV_neg e']
        simp only [valD, if_neg e]
        exact ih
theorem any_keys {k : κ} : ∀ {vs : List (κ × V)} {ds : List (κ × D)}, vs.map (·.1) = ds.map (·.1) → (vs.any fun kv => decide (kv.1 = k)) = (ds.any fun kv => decide (kv.1 = k))
  | [], [], _ => rfl
  | [], _ :: _, h => by simp at h
  | _ :: _, [], h => by simp at h
  | p :: vs, q :: ds, h => by
    simp only [List.map_cons, List.cons.injEq] at h
    rw [List.any_cons, List.any_cons, any_keys h.2, h.1]
theorem repl_is {K : PySem.W.Frag} {F : Hp} {al : Nat → Addr} {n : Nat} {k : κ} {v : V} {d : D} (iv : Is K F al n v d) : ∀ {vs : List (κ × V)} {ds : List (κ × D)}, vs.map (·.1) = ds.map (·.1) → IsL K F al n (vs.map (·.2)) (ds.map (·.2)) →
    (vs.map fun kv => if kv.1 = k then (kv.1, v) else kv).map (·.1) = (ds.map fun kv => if kv.1 = k then (kv.1, d) else kv).map (·.1) ∧ IsL K F al n ((vs.map fun kv => if kv.1 = k then (kv.1, v) else kv).map (·.2)) ((ds.map fun kv => if kv.1 = k then (kv.1, d) else kv).map (·.2))
  | [], [], _, _ => ⟨rfl, .nil⟩
  | [], _ :: _, h, _ => by simp at h
  | _ :: _, [], h, _ => by simp at h
  | p :: vs, q :: ds, h, l => by
    simp only [List.map_cons, List.cons.injEq] at h
    cases l with
    | cons i t =>
      have ih := repl_is (k := k) iv h.2 t
      simp only [List.map_cons]
      by_cases e : q.1 = k
      · have e' : p.1 = k := h.1.trans e
        rw [if_pos e, if_pos e']
        exact ⟨by rw [ih.1, h.1], .cons iv ih.2⟩
      · have e' : ¬ p.1 = k := fun z => e (h.1.symm.trans z)
        rw [if_neg e, if_neg e']
        exact ⟨by rw [ih.1, h.1], .cons i ih.2⟩
theorem putT_is {K : PySem.W.Frag} {F : Hp} {al : Nat → Addr} {n : Nat} {k : κ} {v : V} {d : D} (iv : Is K F al n v d) {vs : List (κ × V)} {ds : List (κ × D)} (h : vs.map (·.1) = ds.map (·.1)) (l : IsL K F al n (vs.map (·.2)) (ds.map (·.2))) :
    (putK vs k v).map (·.1) = (putT ds k d).map (·.1) ∧ IsL K F al n ((putK vs k v).map (·.2)) ((putT ds k d).map (·.2)) := by
  unfold putK putT
  rw [any_keys h]
  split
  · exact repl_is iv h l
  · simp only [List.map_append, List.map_cons, List.map_nil]
    exact ⟨by rw [h], l.append (.cons iv .nil)⟩
end
/-! ### d[k] -/
def hDGet : H2 := fun x y m => match y with
  | .tup ks => (match keysV ks, dicT m x with
    | some k, some kvs => (match valD kvs k with
      | some d => .ok d m
      | none => .bad)
    | _, _ => .bad)
  | y => (match keyV y, dicK m x with
    | some k, some kvs => (match valD kvs k with
      | some d => .ok d m
      | none => .bad)
    | _, _ => .bad)
/-- whether it is there -/
def dHas (x y : D) (m : Mem) : Option (Option D) := match y with
  | .tup ks => (match keysV ks, dicT m x with
    | some k, some kvs => some (valD kvs k)
    | _, _ => none)
  | y => (match keyV y, dicK m x with
    | some k, some kvs => some (valD kvs k)
    | _, _ => none)
section
variable {K : PySem.W.Frag} {g : Gh} {m : Mem}
/-- what is found, or that nothing is -/
def FoundIs (K : PySem.W.Frag) (g : Gh) (m : Mem) : Option V → Option D → Prop
  | some v, some d => IsG K g m v d
  | none, none => True
  | _, _ => False
theorem dHas_ok (rp : Rep K g m) {v w : V} {x y : D} {o : Option D} (ix : IsG K g m v x) (iy : IsG K g m w y) (h : dHas x y m = some o) : ∃ a r, v = .ref a ∧ DGet g.H a w r ∧ FoundIs K g m r o := by
  unfold dHas at h
  split at h
  · rename_i ks
    split at h
    · rename_i k kvs e1 e2
      cases h
      obtain ⟨a, vs, rfl, rd, hk, il⟩ := dicT_ok rp ix e2
      cases iy with
      | tup s z l =>
        rename_i b ws
        have eb : g.H b = some (.tup ws) := rp.at_ s fun z => z
        rw [keysV_ok l e1] at eb
        obtain ⟨v1, v2⟩ := val_is (k := k) hk il
        refine ⟨a, valV vs k, rfl, .inr ⟨vs, k, b, rd, rfl, eb, rfl⟩, ?_⟩
        cases e : valD kvs k with
        | none => rw [v2 e]; trivial
        | some d => obtain ⟨u, hu, iu⟩ := v1 d e; rw [hu]; exact iu
    · cases h
  · split at h
    · rename_i k kvs e1 e2
      cases h
      obtain ⟨a, vs, rfl, rd, hk, il⟩ := dicK_ok rp ix e2
      obtain ⟨v1, v2⟩ := val_is (k := k) hk il
      refine ⟨a, valV vs k, rfl, .inl ⟨vs, k, rd, keyV_ok iy e1, rfl⟩, ?_⟩
      cases e : valD kvs k with
      | none => rw [v2 e]; trivial
      | some d => obtain ⟨u, hu, iu⟩ := v1 d e; rw [hu]; exact iu
    · cases h
theorem hDGet_has {x y : D} : hDGet x y m = match dHas x y m with
    | some (some d) => .ok d m
    | _ => .bad := by
  unfold hDGet dHas
  split <;> (split <;> first | rfl | (split <;> rename_i e <;> simp [e]))
end
/-- k in d -/
def hDIn (neg : Bool) : H2 := fun y x m => match dHas x y m with
  | some o => .ok (.bl (if neg then !o.isSome else o.isSome)) m
  | none => .bad
def hOr (h h' : H2) : H2 := fun x y m => orR (h x y m) (h' x y m)
end DL
end
section
set_option maxRecDepth 100000
set_option maxHeartbeats 2000000
/-! The data layer, part 20: dicts in expressions and as targets. -/
namespace DL
open PySem L2
open Classical
theorem opsd_or {K : PySem.W.Frag} {r r' : R2} {h h' : H2} (a : OpSd K r h) (b : OpSd K r' h') : OpSd K (fun x y H Q => r x y H Q ∨ r' x y H Q) (hOr h h') := fun W σ g m x y dx dy Q rp ix iy q => by
  unfold hOr at q
  have a1 := a W σ g m x y dx dy Q rp ix iy
  have b1 := b W σ g m x y dx dy Q rp ix iy
  cases e : h dx dy m with
  | ok d m1 => rw [e] at q a1; exact .inl (a1 q)
  | exc z m1 => rw [e] at q a1; exact .inl (a1 q)
  | bad => rw [e] at q; exact .inr (b1 q)
def rDGetR : R2 := fun x y H Q => ∃ a v, x = .ref a ∧ DGet H a y (some v) ∧ Q v H
def rDInR (neg : Bool) : R2 := fun y x H Q => ∃ a o, x = .ref a ∧ DGet H a y o ∧ Q (.bl (if neg then !o.isSome else o.isSome)) H
section
variable {X : Cx}
theorem op_inD2 (hu : X.A.units + 1 < cLine) : OpR X (compareOp .In) (rDInR false) := by
  intro pins s σ H x y v u Q I rx ry q
  obtain ⟨a, o, rfl, g, q⟩ := q
  cases (show u = Value.ref a from ry)
  exact d_in hu I g rx fun s' I' => ⟨.bl o.isSome, H, I', rfl, q⟩
theorem op_notInD2 (hu : X.A.units + 1 < cLine) : OpR X (compareOp .NotIn) (rDInR true) := by
  intro pins s σ H x y v u Q I rx ry q
  obtain ⟨a, o, rfl, g, q⟩ := q
  cases (show u = Value.ref a from ry)
  exact d_notIn hu I g rx fun s' I' => ⟨.bl (!o.isSome), H, I', rfl, q⟩
end
theorem sd_dget {K : PySem.W.Frag} : OpSd K rDGetR hDGet := fun W σ g m x y dx dy Q rp ix iy q => by
  rw [hDGet_has] at q
  split at q
  · rename_i d e
    obtain ⟨a, r, rfl, dg, f⟩ := dHas_ok rp ix iy e
    cases r with
    | none => exact f.elim
    | some v => exact ⟨a, v, rfl, dg, pre_val rp q f⟩
  · exact q.elim
theorem sd_din {K : PySem.W.Frag} (neg : Bool) : OpSd K (rDInR neg) (hDIn neg) := fun W σ g m x y dx dy Q rp ix iy q => by
  unfold hDIn at q
  split at q
  · rename_i o e
    obtain ⟨a, r, rfl, dg, f⟩ := dHas_ok rp iy ix e
    have er : r.isSome = o.isSome := by
      cases r <;> cases o <;> first | rfl | exact f.elim
    refine ⟨a, r, rfl, dg, ?_⟩
    rw [er]
    exact pre_val rp q (.bl _)
  · exact q.elim
section
variable {X : Cx} {W : WX} {a b : Expr} {fa fb : FE} {pos : Pos} {k : Nat}
theorem units1 {k : Nat} {A : Around} (hr : Room k A) : A.units + 1 < cLine := by have := hr.un; omega
theorem pd_ixD (hr : Room k X.A) (ha : PD X W a fa) (hb : PD X W b fb) (hs : NoSl b := by exact fun _ _ => rfl) : PD X W (.Subscript a b pos) (eOp hDGet fa fb) := by
  obtain ⟨ta, pa, sa⟩ := ha.ex
  obtain ⟨tb, pb, sb⟩ := hb.ex
  exact ⟨⟨_, pe_dget (units1 hr) pa pb hs, sd_op (r := rDGetR) sd_dget sa sb⟩⟩
theorem cm_inD (hr : Room k X.A) (ha : PD X W a fa) (hb : PD X W b fb) (hm : behindInMarks .In b = false := by rfl) : PD X W (.Compare a [.In] [b] pos) (eOp (hDIn false) fa fb) := pd_cmp (op_inD2 (units1 hr)) (sd_din false) ha hb hm
theorem cm_ninD (hr : Room k X.A) (ha : PD X W a fa) (hb : PD X W b fb) (hm : behindInMarks .NotIn b = false := by rfl) : PD X W (.Compare a [.NotIn] [b] pos) (eOp (hDIn true) fa fb) := pd_cmp (op_notInD2 (units1 hr)) (sd_din true) ha hb hm
theorem ct_inD (hr : Room k X.A) (ha : PD X W a fa) (hb : PD X W b fb) (hm : behindInMarks .In b = false := by rfl) : PDT X W (.Compare a [.In] [b] pos) (tTr (eOp (hDIn false) fa fb)) := pdt_cmp (op_inD2 (units1 hr)) (sd_din false) ha hb hm
theorem ct_ninD (hr : Room k X.A) (ha : PD X W a fa) (hb : PD X W b fb) (hm : behindInMarks .NotIn b = false := by rfl) : PDT X W (.Compare a [.NotIn] [b] pos) (tTr (eOp (hDIn true) fa fb)) := pdt_cmp (op_notInD2 (units1 hr)) (sd_din true) ha hb hm
end
/-! ### d.get(k, x) -/
def isDc (m : Mem) (x : D) : Bool := (dicT m x).isSome || (dicK m x).isSome
def dGet2 (x y z : D) (m : Mem) : Res D := match dHas x y m with
  | some (some d) => .ok d m
  | some none => .ok z m
  | none => .bad
def eDGet2 (o a b : FE) : FE := fun ρ m => (o ρ m).bind fun x m1 => if isDc m1 x = true then (a ρ m1).bind fun y m2 => (b ρ m2).bind fun z m3 => dGet2 x y z m3 else .bad
section
variable {K : PySem.W.Frag} {g : Gh} {m : Mem}
theorem isDc_ok (rp : Rep K g m) {v : V} {d : D} (iv : IsG K g m v d) (h : isDc m d = true) : ∃ a, v = .ref a ∧ IsD g.H a := by
  unfold isDc at h
  rw [Bool.or_eq_true] at h
  rcases h with h | h
  · obtain ⟨kvs, e⟩ := Option.isSome_iff_exists.mp h
    obtain ⟨a, vs, rfl, rd, _⟩ := dicT_ok rp iv e
    exact ⟨a, rfl, .inr ⟨_, rd⟩⟩
  · obtain ⟨kvs, e⟩ := Option.isSome_iff_exists.mp h
    obtain ⟨a, vs, rfl, rd, _⟩ := dicK_ok rp iv e
    exact ⟨a, rfl, .inl ⟨_, rd⟩⟩
end
section
variable {X : Cx} {W : WX} {o a b : Expr} {fo fa fb : FE} {pos apos : Pos} {k : Nat}
theorem pd_get2 (hr : Room k X.A) (ho : PD X W o fo) (ha : PD X W a fa) (hb : PD X W b fb) (m : M2 X o "get" apos a b pos := by exact ⟨rfl, rfl, rfl, rfl⟩) : PD X W (.Call (.Attribute o "get" apos) [a, b] [] pos) (eDGet2 fo fa fb) := by
  obtain ⟨t, p, s⟩ := ho.ex
  obtain ⟨ta, pa, sa⟩ := ha.ex
  obtain ⟨tb, pb, sb⟩ := hb.ex
  refine ⟨⟨_, pe_dget2 (units1 hr) p pa pb m, fun g m σ ρ Q rp en q => s g m σ ρ _ rp en (pre_bind q fun g1 m1 x dx rp1 l1 ix q1 => ?_)⟩⟩
  split at q1
  · rename_i hd
    obtain ⟨ad, rfl, isd⟩ := isDc_ok rp1 ix hd
    refine ⟨ad, rfl, isd, sa g1 m1 σ ρ _ rp1 (en.le l1) (pre_bind q1 fun g2 m2 y dy rp2 l2 iy q2 => sb g2 m2 σ ρ _ rp2 ((en.le l1).le l2) (pre_bind q2 fun g3 m3 z dz rp3 l3 iz q3 => ?_))⟩
    have ix3 := (ix.le l2).le l3
    have iy3 := iy.le l3
    unfold dGet2 at q3
    split at q3
    · rename_i d e
      obtain ⟨a', r, ea, dg, f⟩ := dHas_ok rp3 ix3 iy3 e
      cases ea
      cases r with
      | none => exact f.elim
      | some v => exact ⟨some v, dg, pre_val rp3 q3 f⟩
    · rename_i e
      obtain ⟨a', r, ea, dg, f⟩ := dHas_ok rp3 ix3 iy3 e
      cases ea
      cases r with
      | some _ => exact f.elim
      | none => exact ⟨none, dg, pre_val rp3 q3 iz⟩
    · exact q3.elim
  · exact q1.elim
end
/-! ### d[k] = v -/
theorem dT_write {K : PySem.W.Frag} {g : Gh} {m : Mem} (rp : Rep K g m) {i : Nat} {xs ys : List (List Key × D)} {vs : List (List Key × V)} (e : m[i]? = some (.dT xs)) (hk : vs.map (·.1) = ys.map (·.1)) (il : IsGL K g m (vs.map (·.2)) (ys.map (·.2))) :
    Rep K ⟨upd g.H (g.al i) (.dT vs), g.F, g.al⟩ (m.set i (.dT ys)) ∧ Le g m ⟨upd g.H (g.al i) (.dT vs), g.F, g.al⟩ (m.set i (.dT ys)) := by
  obtain ⟨hf, ws, h1, _⟩ := rp.mem i _ e
  exact rp.write e (fun z => by cases z) rfl (fun ob u z => by rw [h1] at z; cases z) ⟨hf, vs, upd_same, hk, il⟩
theorem dK_write {K : PySem.W.Frag} {g : Gh} {m : Mem} (rp : Rep K g m) {i : Nat} {xs ys : List (Key × D)} {vs : List (Key × V)} (e : m[i]? = some (.dK xs)) (hk : vs.map (·.1) = ys.map (·.1)) (il : IsGL K g m (vs.map (·.2)) (ys.map (·.2))) :
    Rep K ⟨upd g.H (g.al i) (.dK vs), g.F, g.al⟩ (m.set i (.dK ys)) ∧ Le g m ⟨upd g.H (g.al i) (.dK vs), g.F, g.al⟩ (m.set i (.dK ys)) := by
  obtain ⟨hf, ws, h1, _⟩ := rp.mem i _ e
  exact rp.write e (fun z => by cases z) rfl (fun ob u z => by rw [h1] at z; cases z) ⟨hf, vs, upd_same, hk, il⟩
def dPut (x y d : D) (m : Mem) : Option Mem := match x with
  | .mref i => (match m[i]? with
    | some (.dT kvs) => (match y with
      | .tup ks => (match keysV ks with
        | some k => if kvs.length < sizeLine then some (m.set i (.dT (putT kvs k d))) else none
        | none => none)
      | _ => none)
    | some (.dK kvs) => (match keyV y with
      | some k => if kvs.length < sizeLine then some (m.set i (.dK (putT kvs k d))) else none
      | none => none)
    | _ => none)
  | _ => none
def gDx (fo fi : FE) : FG := fun d ρ m => (fo ρ m).bind fun x m1 => (fi ρ m1).bind fun y m2 => match dPut x y d m2 with
  | some m3 => .ok ρ m3
  | none => .bad
def rSetD : V → V → V → Hp → (Hp → Prop) → Prop := fun x y v H Q => ∃ a H', x = .ref a ∧ DPut H a y v H' ∧ Q H'
section
variable {X : Cx} {W : WX} {o e : Expr} {fo fe : FE} {k : Nat}
theorem dPut_ok {K : PySem.W.Frag} {g : Gh} {m m' : Mem} (rp : Rep K g m) {v w u : V} {x y d : D} (ix : IsG K g m v x) (iy : IsG K g m w y) (iv : IsG K g m u d) (h : dPut x y d m = some m') : ∃ a g', v = .ref a ∧ DPut g.H a w u g'.H ∧ Rep K g' m' ∧ Le g m g' m' := by
  unfold dPut at h
  split at h
  · rename_i i
    cases ix with
    | mref hi =>
    split at h
    · rename_i kvs e
      split at h
      · rename_i ks
        split at h
        · rename_i k ek
          split at h
          · rename_i hz
            cases h
            obtain ⟨hf, vs, h1, h2, h3⟩ := rp.mem i _ e
            cases iy with
            | tup s z l =>
              rename_i b ws
              have eb : g.H b = some (.tup ws) := rp.at_ s fun z => z
              rw [keysV_ok l ek] at eb
              obtain ⟨p1, p2⟩ := putT_is (k := k) iv h2 h3
              obtain ⟨rp', l'⟩ := dT_write rp e p1 p2
              refine ⟨_, _, rfl, DPut.t h1 eb ?_, rp', l'⟩
              have := congrArg List.length h2
              rw [List.length_map, List.length_map] at this
              omega
          · cases h
        · cases h
      · cases h
    · rename_i kvs e
      split at h
      · rename_i k ek
        split at h
        · rename_i hz
          cases h
          obtain ⟨hf, vs, h1, h2, h3⟩ := rp.mem i _ e
          obtain ⟨p1, p2⟩ := putT_is (k := k) iv h2 h3
          obtain ⟨rp', l'⟩ := dK_write rp e p1 p2
          have ew := keyV_ok iy ek
          subst ew
          refine ⟨_, _, rfl, DPut.k h1 ?_, rp', l'⟩
          have := congrArg List.length h2
          rw [List.length_map, List.length_map] at this
          omega
        · cases h
      · cases h
    · cases h
  · cases h
end
end DL
end
section
set_option maxRecDepth 100000
set_option maxHeartbeats 2000000
/-! The data layer, part 21: dicts with tuple keys are walked, by keys and by pairs. -/
namespace DL
open PySem L2
open Classical
/-! ### d[k] = v as a target -/
theorem set_dict {X : Cx} (hu : X.A.units + 1 < cLine) : PSet X rSetD := by
  intro pins s σ H o i v ov iv u Q I ro ri rv h
  obtain ⟨a, H', rfl, dp, q⟩ := h
  cases (show ov = Value.ref a from ro)
  exact d_setItem hu I dp ri rv fun s' I' => ⟨H', I', q⟩
theorem pdg_dx {X : Cx} {W : WX} {o e : Expr} {fo fe : FE} {k : Nat} {tpos : Pos} (hr : Room k X.A) (ho : PD X W o fo) (hi : PD X W e fe) (ha : ∀ v, assign (.Subscript o e tpos) X.env v = (do
      let ov ← holding [v] (eval o X.env)
      let iv ← holding [v, ov] (eval e X.env)
      standAt tpos
      holding [v, ov, iv] (setItem ov iv v)
      release [v, ov, iv] []) := by intro _; rfl) : PDG X W (.Subscript o e tpos) (gDx fo fe) [] := by
  obtain ⟨t, p, s⟩ := ho.ex
  obtain ⟨t', p', s'⟩ := hi.ex
  refine ⟨⟨_, pg_sub p p' (set_dict (units1 hr)) ha, fun g m σ ρ v d Q rp en iv q => s g m σ ρ _ rp en (pre_bind q fun g1 m1 x dx rp1 l1 ix q1 => s' g1 m1 σ ρ _ rp1 (en.le l1) (pre_bind q1 fun g2 m2 y dy rp2 l2 iy q2 => ?_))⟩⟩
  split at q2
  · rename_i m3 e3
    obtain ⟨a, g3, rfl, dp, rp3, l3⟩ := dPut_ok rp2 (ix.le l2) iy ((iv.le l1).le l2) e3
    exact ⟨a, g3.H, rfl, dp, q2 g3 σ rp3 l3 ⟨((en.le l1).le l2).le l3, Sl.refl _ _⟩⟩
  · exact q2.elim
/-! ### what a turn tells, with what the heap says of it -/
theorem Turn.more {P : Program} {w : World} {K : PySem.W.Frag} {tg : Expr} {J J' : It} {fp : List Addr} {it : Addr} {tn : Nat → Heap → Prop} (T : Turn P w K tg J fp it tn) (hg : ∀ i H, J'.go i H → J.go i H) (hs : ∀ i H, J'.stop i H → J.stop i H)
    (hy : ∀ (X : Cx) (pins : List (Addr × Obj)) (σ : St) (H H' : Hp) (s : Shared) (i : Nat) (x : V), Inv X pins σ H' s → J.yld i H x H' → J'.yld i H x H') : Turn P w K tg J' fp it tn where
  mem := T.mem
  obj := T.obj
  keep := T.keep
  item := fun X hP hw hK hc i pins s σ H E I hf st g => thn (T.item X hP hw hK hc i pins s σ H E I hf st (hg i H g)) fun r s1 ⟨u, hu, q⟩ =>
    ⟨u, hu, thn q fun _ s2 ⟨x, H', I2, rx, y, t2, f2⟩ => ⟨x, H', I2, rx, hy X pins σ H H' s2 i x I2 y, t2, f2⟩⟩
  done := fun X hP hw hK hc i pins s σ H E I hf st g => T.done X hP hw hK hc i pins s σ H E I hf st (hs i H g)
  self := T.self
/-- the keys of a locked dict: tuples of a size that can be -/
def Jk (d : Addr) (o : Obj) (kvs : List (List Key × V)) : It :=
  ⟨(Itkt d o kvs).go, fun i H x H' => (Itkt d o kvs).yld i H x H' ∧ ∀ q vs, H' q = some (.tup vs) → vs.length ≤ sizeLine, (Itkt d o kvs).stop⟩
theorem tup_len {X : Cx} {pins : List (Addr × Obj)} {σ : St} {H : Hp} {s : Shared} (I : Inv X pins σ H s) (q : Addr) (vs : List V) (h : H q = some (.tup vs)) : vs.length ≤ sizeLine := (I.hok q _ h).1
theorem dT_len {X : Cx} {pins : List (Addr × Obj)} {σ : St} {H : Hp} {s : Shared} {d : Addr} {kvs : List (List Key × V)} (I : Inv X pins σ H s) (h : Rd H d (.dT kvs)) : kvs.length ≤ sizeLine := (dt_rd I.hok h).1
def iKeysL (td : TE) : TI := fun σ H R => td σ H fun x H1 => ∃ d kvs, x = .ref d ∧ ((H1 d = some (.dT kvs) ∧ (kvs.length ≤ sizeLine → ∀ o, R (Jk d o kvs) (upd H1 d (.frz o (.dT kvs))))) ∨ ∃ o, H1 d = some (.frz o (.dT kvs)) ∧ (kvs.length ≤ sizeLine → R (Jk d o kvs) H1))
theorem pie_keys {X : Cx} {tg : Expr} {pins : List (Addr × Obj)} {σ : St} {H : Hp} {s : Shared} {d : Addr} {o : Obj} {kvs : List (List Key × V)} {R : It → Hp → Prop} (I : Inv X pins σ H s) (h : H d = some (.frz o (.dT kvs))) (q : R (Jk d o kvs) H) : wpAny (model X.prog X.w) X.A (pyIter (.ref d)) (PIE X pins σ tg R) X.xe s := by
  obtain ⟨hs, hgd, hx, es, ep, hdt, hsz, ent⟩ := I.frzT h
  have T := Turn.more (J' := Jk d o kvs) (turn_keysT (P := X.prog) (w := X.w) (K := X.K) (tg := tg) (d := d) (kvs := kvs) s.heap.objs.size hdt) (fun _ _ z => z) (fun _ _ z => z) fun X' pins' σ' H1 H2 s' i x I' y => ⟨y, tup_len I'⟩
  refine iter_keys hs hgd hx hdt (pi_one (tk := s.toks) I _ T ⟨_, Heap.get?_push_size _ rfl, rfl, ?_⟩ q)
  rw [hsz]
  rfl
theorem pi_keysL {X : Cx} {tg e : Expr} {td : TE} (he : PE X e td) : PI X tg e (iKeysL td) := by
  refine ⟨fun pins s σ H R I h => thn (he.run pins s σ H _ I h) fun u s1 ⟨x, H1, I1, rx, d, kvs, ex, q⟩ => ?_⟩
  subst ex
  cases (show u = Value.ref d from rx)
  rcases q with ⟨hd, q⟩ | ⟨o, hd, q⟩
  · obtain ⟨od, I2⟩ := I1.lock hd True.intro
    exact pie_keys I2 upd_same (q (dT_len I1 (.inl hd)) od)
  · exact pie_keys I1 hd (q (dT_len I1 (.inr ⟨o, hd⟩)))
/-! ### pairs of a locked dict with tuple keys -/
def Jp (d : Addr) (o : Obj) (kvs : List (List Key × V)) : It :=
  ⟨fun i H => H d = some (.frz o (.dT kvs)) ∧ i < kvs.length,
   fun i H x H' => ∃ (t q : Addr) (ks : List Key) (v : V), kvs[i]? = some (ks, v) ∧ x = .ref t ∧ H t = none ∧ H q = some (.tup (ks.map kV)) ∧ ks.length ≤ sizeLine ∧ H' = upd H t (.tup [.ref q, v]),
   fun i H => H d = some (.frz o (.dT kvs)) ∧ kvs.length ≤ i⟩
theorem frzT2 {X : Cx} {pins : List (Addr × Obj)} {σ : St} {H : Hp} {s : Shared} {d : Addr} {o : Obj} {kvs : List (List Key × V)} (I : Inv X pins σ H s) (h : H d = some (.frz o (.dT kvs))) :
    (d == sysModules) = false ∧ ∃ (es : Array DictEntry) (ep : Nat), s.heap.DictRaw d es ep ∧ o.data = .dict es ep ∧ es.size = kvs.length ∧
      ∀ (i : Nat) (hi : i < es.size) (ks : List Key) (v : V), kvs[i]? = some (ks, v) → ∃ q : Addr, es[i].key = .ref q ∧ H q = some (.tup (ks.map kV)) ∧ RelV v es[i].val := by
  obtain ⟨hg, z, hs, xs, pr, o', es, ep, ho, hx, hdt, he, _⟩ := I.hok d _ h
  rw [hg] at ho
  cases ho
  refine ⟨hs, es, ep, ⟨o, hg, hx, hdt⟩, hdt, ?_, fun i hi ks v e => ?_⟩
  · have l1 : es.size = xs.length := size_of_entries he
    have l2 : kvs.length = xs.length := Paired.length pr
    omega
  · obtain ⟨b, hb, e1, e2, e3⟩ := paired_get pr e
    have w := entry_at he i
    rw [hb, Array.getElem?_eq_getElem hi] at w
    have w' := Option.some.inj w
    refine ⟨b.2.1, ?_, e2, ?_⟩
    · rw [w']; rfl
    · rw [w']; exact e3
theorem turn_pairs {P : Program} {w : World} {K : PySem.W.Frag} {d : Addr} {o : Obj} {es0 : Array DictEntry} {ep0 : Nat} {kvs : List (List Key × V)} {elts : List Expr} {kk : Nat} {tpos : Pos} (it : Addr) (hod : o.data = .dict es0 ep0) :
    Turn P w K (.Tuple elts kk tpos) (Jp d o kvs) [it] it (fun i h => ∃ a b, IsItemIter h it d i kvs.length ep0 a b) where
  mem := by simp
  obj := by
    rintro i h ⟨a, b, e⟩ c hc
    rw [List.mem_singleton] at hc
    subst hc
    exact ⟨_, e, fun v z => nomatch z⟩
  keep := by
    rintro i h h' ⟨a, b, e⟩ k
    exact ⟨a, b, k it (by simp) _ e⟩
  item := by
    intro X hP hw hK hc i pins s σ H E I hf st hg
    subst hP hw hK
    obtain ⟨hd, hi⟩ := hg
    obtain ⟨hs, es, ep, hraw, hdt, hsz, ent⟩ := frzT2 I hd
    obtain ⟨rfl, rfl⟩ := dict_ep hod hdt
    obtain ⟨⟨ks, v⟩, hkv⟩ : ∃ p, kvs[i]? = some p := ⟨kvs[i], List.getElem?_eq_getElem hi⟩
    have hi' : i < es.size := by rw [hsz]; exact hi
    obtain ⟨q, hkey, hq, rv⟩ := ent i hi' ks v hkv
    obtain ⟨a, b, hit⟩ := st
    rw [← hsz] at hit
    have hlt : it < s.heap.objs.size := Heap.lt_size hit
    refine wpAny_pyNext_items_item_raw hit hraw hi' fun h' ho hT hz hk => ?_
    refine ⟨_, rfl, wpAny_letOwnedTupleGo_items (s := { s with heap := h' }) ho fun h2 he' sb => ?_⟩
    have hT2 : h2.get? s.heap.objs.size = some { cls := .type "tuple", data := .seq #[es[i].key, es[i].val] } := (sb.2 _ (Nat.ne_of_gt hlt)).trans hT
    have new : ObjOk X.prog X.w (upd H s.heap.objs.size (.tup [.ref q, v])) h2 s.heap.objs.size (.tup [.ref q, v]) :=
      ⟨show 2 ≤ sizeLine by decide, [es[i].key, es[i].val], .cons hkey (.cons rv .nil), ⟨_, hT2, rfl, _, rfl⟩⟩
    have I1 := I.turnedNew (t' := s.toks) (ch := [it]) (h' := h2) (fun c ob hc e => (sb.2 c (by simpa using hc)).trans (hk c ob (by simpa using hc) e)) hf (Nat.le_refl _) new
    have hl := tup_len I q _ hq
    rw [List.length_map] at hl
    refine ⟨.ref s.heap.objs.size, _, I1, rfl, ⟨_, q, ks, v, hkv, rfl, I.hok.fresh (Nat.le_refl _), hq, hl, rfl⟩, ⟨es[i].key, es[i].val, ?_⟩, fun c hc => ?_⟩
    · rw [← hsz]; exact he'
    · rw [List.mem_singleton] at hc
      rw [hc, upd_ne (Nat.ne_of_lt hlt)]
      exact (hf it (by simp)).1
  done := by
    intro X hP hw hK hc i pins s σ H E I hf st hg
    subst hP hw hK
    obtain ⟨hd, hi⟩ := hg
    obtain ⟨f0, f1, f2, f3, f4, f5⟩ := hf it (by simp)
    obtain ⟨hs, es, ep, hraw, hdt, hsz, ent⟩ := frzT2 I hd
    obtain ⟨rfl, rfl⟩ := dict_ep hod hdt
    obtain ⟨a, b, hit⟩ := st
    rw [← hsz] at hit
    exact wpAny_pyNext_items_end_raw (I.ok.hd hc) hit hraw (by rw [hsz]; exact hi) fun h' eb => ⟨rfl, I.turned (t' := s.toks) eb f0 f1 f3 f4 f5⟩
  self := fun A i s Q E st h => let ⟨_, _, e⟩ := st; PySem.W.kcp_self e h
def iItemsL (td : TE) : TI := fun σ H R => td σ H fun x H1 => ∃ d kvs, x = .ref d ∧ ((H1 d = some (.dT kvs) ∧ (kvs.length ≤ sizeLine → ∀ o, R (Jp d o kvs) (upd H1 d (.frz o (.dT kvs))))) ∨ ∃ o, H1 d = some (.frz o (.dT kvs)) ∧ (kvs.length ≤ sizeLine → R (Jp d o kvs) H1))
theorem pie_pairs {X : Cx} {elts : List Expr} {kk : Nat} {tpos cpos : Pos} {pins : List (Addr × Obj)} {σ : St} {H : Hp} {s : Shared} {d : Addr} {o : Obj} {kvs : List (List Key × V)} {R : It → Hp → Prop} (I : Inv X pins σ H s) (h : H d = some (.frz o (.dT kvs))) (q : R (Jp d o kvs) H) :
    wpAny (model X.prog X.w) X.A (callWith cpos (.builtin "dict.items") [.ref d] [] []) (fun v s1 => wpAny (model X.prog X.w) X.A (pyIter v) (PIE X pins σ (.Tuple elts kk tpos) R) X.xe s1) X.xe s := by
  obtain ⟨hs, es, ep, hraw, hdt, hsz, ent⟩ := frzT2 I h
  have I2 : Inv X pins σ H { s with heap := s.heap.push { cls := .type "dict_items", data := .fields #[.ref d] } } := I.kept (t' := s.toks) fun b ob e => Heap.get?_push_of_some _ e
  refine method_meetsIn F.slot_dict_items F.entry_dict_items rfl (PySem.evalArgs_none ⟨rfl, hraw.typeIs, F.args_dict_items_1 _, _, meets_dict_items_raw d hs, ⟨es, ep, hraw⟩, ?_⟩)
  refine wpAny_pyIter_items_raw (d := d) ⟨_, Heap.get?_push_size _ rfl, rfl, rfl⟩ (hraw.at fun ob e => Heap.get?_push_of_some _ e) (pi_one (tk := s.toks) I2 _ (turn_pairs _ hdt) ⟨.none, .none, ?_⟩ q)
  rw [← hsz]
  exact Heap.get?_push_size _ rfl
theorem pi_itemsL {X : Cx} {e : Expr} {td : TE} {apos cpos : Pos} {elts : List Expr} {kk : Nat} {tpos : Pos} (he : PE X e td) (hbase : attributeBase e "items" X.env (eval e X.env) = eval e X.env := by rfl) (hline : (apos.endLine == cpos.line) = true := by rfl) :
    PI X (.Tuple elts kk tpos) (.Call (.Attribute e "items" apos) [] [] cpos) (iItemsL td) := by
  refine ⟨fun pins s σ H R I h => wpAny_Call_method (T := "dict") (id := "dict.items") hbase rfl hline F.plainAttrs_dict F.slot_dict_items F.type_dict_items (thn (he.run pins s σ H _ I h) fun u s1 ⟨x, H1, I1, rx, d, kvs, ex, q⟩ => ?_)⟩
  subst ex
  cases (show u = Value.ref d from rx)
  rcases q with ⟨hd, q⟩ | ⟨o, hd, q⟩
  · obtain ⟨od, I2⟩ := I1.lock hd True.intro
    obtain ⟨_, es, ep, hraw, _⟩ := frzT2 I2 upd_same
    refine ⟨hraw.typeIs, ?_, pie_pairs I2 upd_same (q (dT_len I1 (.inl hd)) od)⟩
    rintro b ⟨⟩
    obtain ⟨ob, hob, hx, _⟩ := hraw
    exact ⟨ob, hob, hx.2.1⟩
  · obtain ⟨_, es, ep, hraw, _⟩ := frzT2 I1 hd
    refine ⟨hraw.typeIs, ?_, pie_pairs I1 hd (q (dT_len I1 (.inr ⟨o, hd⟩)))⟩
    rintro b ⟨⟩
    obtain ⟨ob, hob, hx, _⟩ := hraw
    exact ⟨ob, hob, hx.2.1⟩
end DL
end
section
set_option maxRecDepth 100000
set_option maxHeartbeats 2000000
/-! The data layer, part 22: dicts with tuple keys are walked: the readings of data; locks. -/
namespace DL
open PySem L2
open Classical
section
variable {K : PySem.W.Frag} {g : Gh} {m : Mem}
/-- a frozen dict is locked for ever -/
theorem Rep.lockF (rp : Rep K g m) {d : Addr} {u : HO} (hu : isDic u) (hF : g.F d = some u) (hH : g.H d = some u) (o : Obj) : Rep K ⟨upd g.H d (.frz o u), g.F, g.al⟩ m ∧ Le g m ⟨upd g.H d (.frz o u), g.F, g.al⟩ m := by
  refine ⟨⟨fun b v f => ?_, fun i v e => ?_, rp.inj⟩, ⟨fun _ _ f => f, Nat.le_refl _, fun _ _ => rfl, fun b v e nt f l => ⟨?_, f, l⟩, fun b ob v e => ?_, fun _ _ e _ => e⟩⟩
  · by_cases hb : b = d
    · subst hb
      rw [show (⟨upd g.H b (.frz o u), g.F, g.al⟩ : Gh).F b = some u from hF] at f
      cases f
      exact .inr ⟨hu, o, upd_same⟩
    · rcases rp.sub b v f with e | ⟨z, ob, e⟩
      · exact .inl ((upd_ne hb).trans e)
      · exact .inr ⟨z, ob, (upd_ne hb).trans e⟩
  · by_cases hn : v = .gone
    · subst hn; trivial
    · obtain ⟨w, hw, hf⟩ := (rp.mem i v e).there hn
      have ne : g.al i ≠ d := fun z => by rw [z, hF] at hf; cases hf
      exact (rp.mem i v e).step (g := g) (g' := ⟨upd g.H d (.frz o u), g.F, g.al⟩) (upd_ne ne) (fun f => f) (fun _ _ f => f) (fun _ _ => rfl) (Nat.le_refl _)
  · have ne : b ≠ d := fun z => by rw [z, hF] at f; cases f
    exact (upd_ne ne).trans e
  · have ne : b ≠ d := fun z => by
      rw [z, hH] at e
      cases e
      exact hu
    exact (upd_ne ne).trans e
theorem iter_dk {d : Addr} {o : Obj} {vs : List (List Key × V)} {kvs : List (List Key × D)} (hz : vs.length ≤ sizeLine) (h : g.H d = some (.frz o (.dT vs))) (hk : vs.map (·.1) = kvs.map (·.1)) : IterOk K (Jk d o vs) g m (kvs.map fun p => .tup (p.1.map keyD)) where
  sz := by
    have := congrArg List.length hk
    rw [List.length_map, List.length_map] at this
    rw [List.length_map]
    omega
  go := fun g' m' rp le i x e => by
    rw [List.getElem?_map] at e
    obtain ⟨p, hp, rfl⟩ := Option.map_eq_some_iff.mp e
    have ek := congrArg (fun l : List (List Key) => l[i]?) hk
    simp only [List.getElem?_map, hp, Option.map_some] at ek
    obtain ⟨pv, hpv, ep⟩ := Option.map_eq_some_iff.mp ek
    have hd := le.frz _ _ _ h
    refine ⟨⟨hd, (List.getElem?_eq_some_iff.mp hpv).1⟩, fun v H' y => ?_⟩
    obtain ⟨⟨rfl, k, u, q, h1, rfl, h2⟩, h3⟩ := y
    rw [hpv] at h1
    cases h1
    obtain ⟨rp', l'⟩ := rp.adoptT h2
    refine ⟨⟨g'.H, upd g'.F q (.tup (k.map kV)), g'.al⟩, rfl, rp', l', .tup (vs := k.map kV) upd_same (h3 _ _ h2) ?_⟩
    rw [← ep]
    exact keysD_is k
  stop := fun g' m' rp le => by
    refine ⟨le.frz _ _ _ h, ?_⟩
    have := congrArg List.length hk
    rw [List.length_map, List.length_map] at this
    rw [List.length_map]
    omega
theorem iter_dp {d : Addr} {o : Obj} {vs : List (List Key × V)} {kvs : List (List Key × D)} (hz : vs.length ≤ sizeLine) (h : g.H d = some (.frz o (.dT vs))) (hk : vs.map (·.1) = kvs.map (·.1)) (il : IsGL K g m (vs.map (·.2)) (kvs.map (·.2))) : IterOk K (Jp d o vs) g m (kvs.map fun p => .tup [.tup (p.1.map keyD), p.2]) where
  sz := by
    have := congrArg List.length hk
    rw [List.length_map, List.length_map] at this
    rw [List.length_map]
    omega
  go := fun g' m' rp le i x e => by
    rw [List.getElem?_map] at e
    obtain ⟨p, hp, rfl⟩ := Option.map_eq_some_iff.mp e
    have ek := congrArg (fun l : List (List Key) => l[i]?) hk
    simp only [List.getElem?_map, hp, Option.map_some] at ek
    obtain ⟨pv, hpv, ep⟩ := Option.map_eq_some_iff.mp ek
    have hd := le.frz _ _ _ h
    obtain ⟨w, hw, iw⟩ := (il.lw le).get (i := i) (d := p.2) (by rw [List.getElem?_map, hp]; rfl)
    rw [List.getElem?_map, hpv] at hw
    cases hw
    refine ⟨⟨hd, (List.getElem?_eq_some_iff.mp hpv).1⟩, fun v H' y => ?_⟩
    obtain ⟨t, q, k, u, h1, rfl, h2, h3, h4, rfl⟩ := y
    rw [hpv] at h1
    cases h1
    obtain ⟨rp1, l1⟩ := rp.adoptT h3
    have iq : IsG K ⟨g'.H, upd g'.F q (.tup (k.map kV)), g'.al⟩ m' (.ref q) (.tup (p.1.map keyD)) := by
      refine .tup (vs := k.map kV) upd_same (by rw [List.length_map]; exact h4) ?_
      rw [← ep]
      exact keysD_is k
    obtain ⟨g2, e2, rp2, l2, i2⟩ := new_pair rp1 (T := t) (x := .ref q) (y := u) h2 iq (iw.le l1)
    exact ⟨g2, e2, rp2, l1.trans l2, i2⟩
  stop := fun g' m' rp le => by
    refine ⟨le.frz _ _ _ h, ?_⟩
    have := congrArg List.length hk
    rw [List.length_map, List.length_map] at this
    rw [List.length_map]
    omega
end
/-- a dict that can be walked: frozen, or locked -/
def dicW (m : Mem) : D → Option (List (List Key × D))
  | .dT kvs => some kvs
  | .mref i => match m[i]? with
    | some (.lkT kvs) => some kvs
    | _ => none
  | _ => none
def keysI (x : D) (m : Mem) : Res (List D) := match dicW m x with
  | some kvs => .ok (kvs.map fun p => .tup (p.1.map keyD)) m
  | none => .bad
def itemsI (x : D) (m : Mem) : Res (List D) := match dicW m x with
  | some kvs => .ok (kvs.map fun p => .tup [.tup (p.1.map keyD), p.2]) m
  | none => .bad
def iKy (a : FE) : FI := fun ρ m => (a ρ m).bind fun x m1 => keysI x m1
def iIt (a : FE) : FI := fun ρ m => (a ρ m).bind fun x m1 => itemsI x m1
/-- the walk of a dict begins -/
theorem dicW_ok {K : PySem.W.Frag} {g : Gh} {m : Mem} (rp : Rep K g m) {v : V} {x : D} {kvs : List (List Key × D)} (iv : IsG K g m v x) (h : dicW m x = some kvs) : ∃ d vs, v = .ref d ∧ vs.map (·.1) = kvs.map (·.1) ∧ IsGL K g m (vs.map (·.2)) (kvs.map (·.2)) ∧
    ((g.H d = some (.dT vs) ∧ ∀ o, Rep K ⟨upd g.H d (.frz o (.dT vs)), g.F, g.al⟩ m ∧ Le g m ⟨upd g.H d (.frz o (.dT vs)), g.F, g.al⟩ m) ∨ ∃ o, g.H d = some (.frz o (.dT vs))) := by
  cases iv with
  | dT s k l =>
    cases h
    refine ⟨_, _, rfl, k, l, ?_⟩
    rcases rp.sub _ _ s with e | ⟨_, ob, e⟩
    · exact .inl ⟨e, fun o => rp.lockF (u := .dT _) True.intro s e o⟩
    · exact .inr ⟨ob, e⟩
  | mref hi =>
    rename_i i
    simp only [dicW] at h
    split at h
    · rename_i xs e
      cases h
      obtain ⟨_, ob, vs, h1, h2, h3⟩ := rp.mem i _ e
      exact ⟨_, vs, rfl, h2, h3, .inr ⟨ob, h1⟩⟩
    · cases h
  | _ => cases h
section
variable {X : Cx} {W : WX} {tg e : Expr} {f : FE}
theorem pdi_keys (h : PD X W e f) : PDI X W tg e (iKy f) := by
  obtain ⟨t, p, s⟩ := h.ex
  refine ⟨⟨_, pi_keysL p, fun g m σ ρ R rp en q => s g m σ ρ _ rp en (pre_bind q fun g1 m1 x dx rp1 l1 ix q1 => ?_)⟩⟩
  unfold keysI at q1
  split at q1
  · rename_i kvs ek
    obtain ⟨d, vs, rfl, hk, il, ho⟩ := dicW_ok rp1 ix ek
    refine ⟨d, vs, rfl, ?_⟩
    rcases ho with ⟨hd, ho⟩ | ⟨o, hd⟩
    · exact .inl ⟨hd, fun hz o => q1 _ _ (ho o).1 (ho o).2 (iter_dk hz upd_same hk)⟩
    · exact .inr ⟨o, hd, fun hz => q1 g1 _ rp1 (Le.refl _ _) (iter_dk hz hd hk)⟩
  · exact q1.elim
theorem pdi_items {elts : List Expr} {kk : Nat} {tpos apos cpos : Pos} (h : PD X W e f) (hb : attributeBase e "items" X.env (eval e X.env) = eval e X.env := by rfl) (hline : (apos.endLine == cpos.line) = true := by rfl) : PDI X W (.Tuple elts kk tpos) (.Call (.Attribute e "items" apos) [] [] cpos) (iIt f) := by
  obtain ⟨t, p, s⟩ := h.ex
  refine ⟨⟨_, pi_itemsL p hb hline, fun g m σ ρ R rp en q => s g m σ ρ _ rp en (pre_bind q fun g1 m1 x dx rp1 l1 ix q1 => ?_)⟩⟩
  unfold itemsI at q1
  split at q1
  · rename_i kvs ek
    obtain ⟨d, vs, rfl, hk, il, ho⟩ := dicW_ok rp1 ix ek
    refine ⟨d, vs, rfl, ?_⟩
    rcases ho with ⟨hd, ho⟩ | ⟨o, hd⟩
    · exact .inl ⟨hd, fun hz o => q1 _ _ (ho o).1 (ho o).2 (iter_dp hz upd_same hk (il.le (ho o).2))⟩
    · exact .inr ⟨o, hd, fun hz => q1 g1 _ rp1 (Le.refl _ _) (iter_dp hz hd hk il)⟩
  · exact q1.elim
end
/-! ### a mutable dict is locked while it is walked -/
def lkAtD (ρ : EnvD) (m : Mem) (i : Nat) : Option (Nat × List (List Key × D)) := match ρ[i]? with
  | some (some (.mref j)) => (match m[j]? with
    | some (.dT kvs) => some (j, kvs)
    | _ => none)
  | _ => none
theorem lkAtD_ok {ρ : EnvD} {m : Mem} {i j : Nat} {kvs : List (List Key × D)} (h : lkAtD ρ m i = some (j, kvs)) : m[j]? = some (.dT kvs) := by
  unfold lkAtD at h
  split at h
  · split at h
    · rename_i e; cases h; exact e
    · cases h
  · cases h
def unlkD {B : Type} (j : Nat) (kvs : List (List Key × D)) : Res B → Res B
  | .ok b m => .ok b (m.set j (.dT kvs))
  | _ => .bad
def eLkD (i : Nat) (f : FE) : FE := fun ρ m => match lkAtD ρ m i with
  | some (j, kvs) => unlkD j kvs (f ρ (m.set j (.lkT kvs)))
  | none => f ρ m
def unlkDS (j : Nat) (kvs : List (List Key × D)) : RS → RS
  | .nx ρ m => .nx ρ (m.set j (.dT kvs))
  | .rt d m => .rt d (m.set j (.dT kvs))
  | .bk ρ m => .bk ρ (m.set j (.dT kvs))
  | .ct ρ m => .ct ρ (m.set j (.dT kvs))
  | _ => .bad
def sLkD (i : Nat) (f : FS) : FS := fun ρ m => match lkAtD ρ m i with
  | some (j, kvs) => unlkDS j kvs (f ρ (m.set j (.lkT kvs)))
  | none => f ρ m
section
variable {K : PySem.W.Frag} {g : Gh} {m : Mem} {j : Nat} {kvs : List (List Key × D)}
theorem lockM (rp : Rep K g m) (e : m[j]? = some (.dT kvs)) : ∃ vs, g.H (g.al j) = some (.dT vs) ∧ ∀ o, Rep K ⟨upd g.H (g.al j) (.frz o (.dT vs)), g.F, g.al⟩ (m.set j (.lkT kvs)) := by
  obtain ⟨hf, vs, h1, h2, h3⟩ := rp.mem j _ e
  exact ⟨vs, h1, fun o => (rp.write (mo' := .lkT kvs) (o := .frz o (.dT vs)) e (fun z => by cases z) rfl (fun ob u z => by rw [h1] at z; cases z) ⟨hf, o, vs, upd_same, h2, h3⟩).1⟩
theorem unlockM (rp : Rep K g m) (e : m[j]? = some (.dT kvs)) {vs : List (List Key × V)} (hH : g.H (g.al j) = some (.dT vs)) {o : Obj} {g2 : Gh} {m2 : Mem} (rp2 : Rep K g2 m2) (l : Le ⟨upd g.H (g.al j) (.frz o (.dT vs)), g.F, g.al⟩ (m.set j (.lkT kvs)) g2 m2) :
    g2.H (g.al j) = some (.frz o (.dT vs)) ∧ Rep K ⟨upd g2.H (g.al j) (.dT vs), g2.F, g2.al⟩ (m2.set j (.dT kvs)) ∧ Le g m ⟨upd g2.H (g.al j) (.dT vs), g2.F, g2.al⟩ (m2.set j (.dT kvs)) := by
  have hj : j < m.length := (List.getElem?_eq_some_iff.mp e).1
  have hH2 : g2.H (g.al j) = some (.frz o (.dT vs)) := l.frz _ _ _ upd_same
  have e2 : m2[j]? = some (.lkT kvs) := l.lk j _ (List.getElem?_set_self hj) rfl
  have ha : g2.al j = g.al j := l.al j (by rw [List.length_set]; exact hj)
  have hj2 : j < m2.length := (List.getElem?_eq_some_iff.mp e2).1
  have lj2 : Live m2 j := ⟨_, e2, fun z => by cases z⟩
  have lv : ∀ i, Live (m2.set j (.dT kvs)) i → Live m2 i := fun i ⟨u, hu, n⟩ => by
    by_cases hi : j = i
    · subst hi; exact lj2
    · rw [List.getElem?_set_ne hi] at hu; exact ⟨u, hu, n⟩
  obtain ⟨hf2, ob, ws, w1, w2, w3⟩ := rp2.mem j _ e2
  rw [ha, hH2] at w1
  cases w1
  rw [ha] at hf2
  have lv1 : ∀ i, Live m i → Live (m.set j (.lkT kvs)) i := fun i ⟨u, hu, n⟩ => by
    by_cases hi : j = i
    · subst hi; exact ⟨_, List.getElem?_set_self hj, fun z => by cases z⟩
    · exact ⟨u, by rw [List.getElem?_set_ne hi]; exact hu, n⟩
  have lv0 : ∀ i, Live (m.set j (.lkT kvs)) i → Live m i := fun i ⟨u, hu, n⟩ => by
    by_cases hi : j = i
    · subst hi; exact ⟨_, e, fun z => by cases z⟩
    · rw [List.getElem?_set_ne hi] at hu; exact ⟨u, hu, n⟩
  have n1 := l.n
  rw [List.length_set] at n1
  refine ⟨hH2, ⟨fun b u f => ?_, fun i u q => ?_, fun i k a b c => rp2.inj i k (lv i a) (lv k b) c⟩, ⟨l.F, by rw [List.length_set]; exact n1, fun i h => l.al i (by rw [List.length_set]; exact h), fun b u h nt f q => ?_, fun b ob u h => ?_, fun i u h k => ?_⟩⟩
  · have ne : b ≠ g.al j := fun z => by rw [z] at f; rw [show (⟨upd g2.H (g.al j) (.dT vs), g2.F, g2.al⟩ : Gh).F (g.al j) = g2.F (g.al j) from rfl, hf2] at f; cases f
    rcases rp2.sub b u f with h | ⟨z, ob, h⟩
    · exact .inl ((upd_ne ne).trans h)
    · exact .inr ⟨z, ob, (upd_ne ne).trans h⟩
  · rw [List.length_set]
    by_cases hi : j = i
    · subst hi
      rw [List.getElem?_set_self hj2] at q
      cases q
      refine ⟨by rw [show (⟨upd g2.H (g.al j) (.dT vs), g2.F, g2.al⟩ : Gh).al j = g.al j from ha]; exact hf2, vs, by rw [show (⟨upd g2.H (g.al j) (.dT vs), g2.F, g2.al⟩ : Gh).al j = g.al j from ha]; exact upd_same, w2, w3⟩
    · rw [List.getElem?_set_ne hi] at q
      by_cases hu : u = .gone
      · subst hu; trivial
      · have ne : g2.al i ≠ g.al j := fun z => hi (rp2.inj j i lj2 ⟨u, q, hu⟩ (ha.trans z.symm))
        exact (rp2.mem i u q).step (g := g2) (g' := ⟨upd g2.H (g.al j) (.dT vs), g2.F, g2.al⟩) (upd_ne ne) (fun f => f) (fun _ _ f => f) (fun _ _ => rfl) (Nat.le_refl _)
  · have ne : b ≠ g.al j := fun z => q j ⟨_, e, fun z => by cases z⟩ z.symm
    obtain ⟨a, b', c⟩ := l.oth b u ((upd_ne ne).trans h) nt f fun i li => q i (lv0 i li)
    exact ⟨(upd_ne ne).trans a, b', fun i li => c i (lv i li)⟩
  · have ne : b ≠ g.al j := fun z => by rw [z, hH] at h; cases h
    exact (upd_ne ne).trans (l.frz b ob u ((upd_ne ne).trans h))
  · have hi : j ≠ i := fun z => by subst z; rw [e] at h; cases h; cases k
    rw [List.getElem?_set_ne hi]
    exact l.lk i u (by rw [List.getElem?_set_ne hi]; exact h) k
end
theorem EnvOk.reH {K : PySem.W.Frag} {g : Gh} {m m' : Mem} {σ : St} {ρ : EnvD} (h : EnvOk K g m σ ρ) (H' : Hp) (e : m.length = m'.length) : EnvOk K ⟨H', g.F, g.al⟩ m' σ ρ := ⟨h.len, fun i d q => let ⟨v, a, b⟩ := h.at_ i d q; ⟨v, a, b.len e⟩⟩
theorem pd_lkD {X : Cx} {W : WX} {e : Expr} {f : FE} (i : Nat) (h : PD X W e f) : PD X W e (eLkD i f) := by
  obtain ⟨t, p, s⟩ := h.ex
  refine ⟨⟨_, PE.or (pe_lock p) p, fun g m σ ρ Q rp en q => ?_⟩⟩
  unfold eLkD at q
  split at q
  · rename_i j kvs ej
    have e := lkAtD_ok ej
    obtain ⟨vs, hH, hl⟩ := lockM rp e
    refine .inl ⟨g.al j, .dT vs, hH, True.intro, fun od => s ⟨upd g.H (g.al j) (.frz od (.dT vs)), g.F, g.al⟩ (m.set j (.lkT kvs)) σ ρ _ (hl od) (en.reH _ (by rw [List.length_set])) ?_⟩
    cases hf : f ρ (m.set j (.lkT kvs)) with
    | bad => rw [hf] at q; exact q.elim
    | exc x m2 => rw [hf] at q; exact q.elim
    | ok d m2 =>
      rw [hf] at q
      intro g2 v rp2 l2 iv
      obtain ⟨h1, rp3, l3⟩ := unlockM rp e hH rp2 l2
      exact ⟨h1, q ⟨upd g2.H (g.al j) (.dT vs), g2.F, g2.al⟩ v rp3 l3 (iv.len (by rw [List.length_set]))⟩
  · exact .inr (s g m σ ρ Q rp en q)
theorem pds_lkD {X : Cx} {W : WX} {st : Stmt} {f : FS} (i : Nat) (h : PDS X W st f) : PDS X W st (sLkD i f) := by
  obtain ⟨t, p, s⟩ := h.ex
  refine ⟨⟨_, PS.or (ps_lock p) p, fun g m σ ρ D rp en q => ?_⟩⟩
  unfold sLkD at q
  split at q
  · rename_i j kvs ej
    have e := lkAtD_ok ej
    obtain ⟨vs, hH, hl⟩ := lockM rp e
    refine .inl ⟨g.al j, .dT vs, hH, True.intro, fun od => s ⟨upd g.H (g.al j) (.frz od (.dT vs)), g.F, g.al⟩ (m.set j (.lkT kvs)) σ ρ _ (hl od) (en.reH _ (by rw [List.length_set])) ?_⟩
    cases hf : f ρ (m.set j (.lkT kvs)) with
    | bad => rw [hf] at q; exact q.elim
    | exc x ρ2 m2 => rw [hf] at q; exact q.elim
    | nx ρ2 m2 =>
      rw [hf] at q
      intro g2 v rp2 l2 iv
      obtain ⟨h1, rp3, l3⟩ := unlockM rp e hH rp2 l2
      exact ⟨h1, q ⟨upd g2.H (g.al j) (.dT vs), g2.F, g2.al⟩ v rp3 l3 (iv.reH _ (by rw [List.length_set]))⟩
    | bk ρ2 m2 =>
      rw [hf] at q
      intro g2 v rp2 l2 iv
      obtain ⟨h1, rp3, l3⟩ := unlockM rp e hH rp2 l2
      exact ⟨h1, q ⟨upd g2.H (g.al j) (.dT vs), g2.F, g2.al⟩ v rp3 l3 (iv.reH _ (by rw [List.length_set]))⟩
    | ct ρ2 m2 =>
      rw [hf] at q
      intro g2 v rp2 l2 iv
      obtain ⟨h1, rp3, l3⟩ := unlockM rp e hH rp2 l2
      exact ⟨h1, q ⟨upd g2.H (g.al j) (.dT vs), g2.F, g2.al⟩ v rp3 l3 (iv.reH _ (by rw [List.length_set]))⟩
    | rt d m2 =>
      rw [hf] at q
      intro g2 v rp2 l2 iv
      obtain ⟨h1, rp3, l3⟩ := unlockM rp e hH rp2 l2
      exact ⟨h1, q ⟨upd g2.H (g.al j) (.dT vs), g2.F, g2.al⟩ v rp3 l3 (iv.len (by rw [List.length_set]))⟩
  · exact .inr (s g m σ ρ D rp en q)
end DL
end
section
set_option maxRecDepth 100000
set_option maxHeartbeats 2000000
/-! The data layer, part 23: dicts with tuple keys are made of pairs. -/
namespace DL
open PySem L2
open Classical
section
variable {κ : Type} [DecidableEq κ]
def allK (kvs more : List (κ × V)) : List (κ × V) := more.foldl (fun acc p => putK acc p.1 p.2) kvs
def allT (kvs more : List (κ × D)) : List (κ × D) := more.foldl (fun acc p => putT acc p.1 p.2) kvs
theorem allK_len : ∀ (more kvs : List (κ × V)), (allK kvs more).length ≤ kvs.length + more.length
  | [], kvs => Nat.le_refl _
  | p :: r, kvs => by
    have h1 := allK_len r (putK kvs p.1 p.2)
    have h2 := length_putK kvs p.1 p.2
    show (allK (putK kvs p.1 p.2) r).length ≤ _
    rw [List.length_cons]
    omega
theorem allT_is {K : PySem.W.Frag} {F : Hp} {al : Nat → Addr} {n : Nat} : ∀ {ms : List (κ × V)} {ns : List (κ × D)} {vs : List (κ × V)} {ds : List (κ × D)}, ms.map (·.1) = ns.map (·.1) → IsL K F al n (ms.map (·.2)) (ns.map (·.2)) → vs.map (·.1) = ds.map (·.1) → IsL K F al n (vs.map (·.2)) (ds.map (·.2)) →
    (allK vs ms).map (·.1) = (allT ds ns).map (·.1) ∧ IsL K F al n ((allK vs ms).map (·.2)) ((allT ds ns).map (·.2))
  | [], [], _, _, _, _, h, l => ⟨h, l⟩
  | [], _ :: _, _, _, z, _, _, _ => by simp at z
  | _ :: _, [], _, _, z, _, _, _ => by simp at z
  | p :: ms, q :: ns, vs, ds, z, y, h, l => by
    simp only [List.map_cons, List.cons.injEq] at z
    cases y with
    | cons i t =>
      obtain ⟨a, b⟩ := putT_is (k := q.1) i h l
      have r := allT_is z.2 t a b
      have e1 : allK vs (p :: ms) = allK (putK vs q.1 p.2) ms := by show allK (putK vs p.1 p.2) ms = _; rw [z.1]
      have e2 : allT ds (q :: ns) = allT (putT ds q.1 q.2) ns := rfl
      rw [e1, e2]
      exact r
end
/-- what stands in a pair: the key's tuple, the value -/
structure PairV where
  t : Addr
  q : Addr
  k : List Key
  v : V
def PairOk (H : Hp) (p : PairV) : Prop := H p.t = some (.tup [.ref p.q, p.v]) ∧ H p.q = some (.tup (p.k.map kV))
theorem kt_all {H : Hp} : ∀ {ps : List PairV} {us : List Value} {kvs : List (List Key × V)} {xs : List (List Key × Addr × Value)}, (∀ p ∈ ps, PairOk H p) → Paired (fun (p : PairV) u => RelV p.v u) ps us → KT H kvs xs →
    KT H (allK kvs (ps.map fun p => (p.k, p.v))) (storedAllH xs ((ps.zip us).map fun z => (z.1.k, z.1.q, z.2)))
  | [], _, _, _, _, .nil, r => r
  | p :: ps, u :: us, kvs, xs, h, .cons r rr, k => by
    have h1 := h p (by simp)
    have z := kt_all (fun p hp => h p (by simp [hp])) rr (KT.put k p.k h1.2 r)
    exact z
theorem paired_len {α β : Type} {F : α → β → Prop} {l₁ : List α} {l₂ : List β} (h : Paired F l₁ l₂) : l₁.length = l₂.length := Paired.length h
/-- the values of the pairs, in the heap -/
theorem pairs_at {X : Cx} {pins : List (Addr × Obj)} {σ : St} {H : Hp} {s : Shared} (I : Inv X pins σ H s) : ∀ ps : List PairV, (∀ p ∈ ps, PairOk H p) → ∃ us : List Value, Paired (fun (p : PairV) u => RelV p.v u) ps us ∧ us.length = ps.length ∧ ∀ (j : Nat) (p : PairV) (u : Value), ps[j]? = some p → us[j]? = some u → s.heap.IsTuple p.t #[.ref p.q, u]
  | [], _ => ⟨[], .nil, rfl, fun j p u h _ => by simp at h⟩
  | p :: ps, h => by
    obtain ⟨us, r, hl, hu⟩ := pairs_at I ps fun p hp => h p (by simp [hp])
    obtain ⟨_, its, rv, o, ho, hc, n, hd⟩ := (show ObjOk X.prog X.w H s.heap p.t (.tup [.ref p.q, p.v]) from I.hok _ _ (h p (by simp)).1)
    cases rv with
    | cons r1 rr =>
      cases rr with
      | cons r2 rr =>
        cases rr
        cases r1
        rename_i u2
        refine ⟨u2 :: us, .cons r2 r, by simp [hl], fun j q u h1 h2 => ?_⟩
        cases j with
        | zero =>
          simp at h1 h2
          subst h1 h2
          exact ⟨o, ho, hc, n, hd⟩
        | succ j =>
          simp at h1 h2
          exact hu j q u h1 h2
def rDictT (K : PySem.W.Frag) : List V → Hp → VK → Prop := fun xs H Q => ∃ (a : Addr) (ps : List PairV), xs = [.ref a] ∧ SqL K H a (ps.map fun p => .ref p.t) ∧ (∀ p ∈ ps, PairOk H p) ∧ ∀ r, H r = none → Q (.ref r) (upd H r (.dT (allK [] (ps.map fun p => (p.k, p.v)))))
theorem dict_laid2 {X : Cx} {pins : List (Addr × Obj)} {σ : St} {H : Hp} {s : Shared} {tk : Nat} {h' : Heap} {kvs : List (List Key × V)} {xs : List (List Key × Addr × Value)} {p : Addr} (I : Inv X pins σ H s) (k : ∀ b o, s.heap.get? b = some o → h'.get? b = some o) (hp : s.heap.objs.size ≤ p) (hl : kvs.length ≤ sizeLine) (r : KT H kvs xs) (d : h'.DictOfH (tupleKind (mixKind X.prog X.w)) p xs) :
    Inv X pins σ (upd H p (.dT kvs)) { s with heap := h', toks := tk } := by
  have hm : (p == sysModules) = false := beq_eq_false_iff_ne.mpr (Nat.ne_of_gt (Nat.lt_of_lt_of_le I.big hp))
  have hf : H p = none := I.hok.fresh hp
  obtain ⟨q, es, ep, hq, h2, h3, h4, _, h5⟩ := d
  refine I.laid (t' := tk) k hp ⟨hl, hm, xs, r.keeps fun c ys ec => ?_, q, es, ep, hq, h2, h3, h4, h5⟩
  rw [upd_ne (ne_of_none ec hf)]
  exact ec
theorem dict_laid {X : Cx} {pins : List (Addr × Obj)} {σ : St} {H : Hp} {s : Shared} {tk : Nat} {h' : Heap} {kvs : List (List Key × V)} {xs : List (List Key × Addr × Value)} (I : Inv X pins σ H s) (k : ∀ b o, s.heap.get? b = some o → h'.get? b = some o) (hl : kvs.length ≤ sizeLine) (r : KT H kvs xs) (d : h'.DictOfH (tupleKind (mixKind X.prog X.w)) s.heap.objs.size xs) :
    Inv X pins σ (upd H s.heap.objs.size (.dT kvs)) { s with heap := h', toks := tk } := dict_laid2 I k (Nat.le_refl _) hl r d
theorem room2 {X : Cx} (hu : X.A.units + 64 < cLine) : (tupleKind (mixKind X.prog X.w)).room X.A.in1.in1 := tupleKind_room_in1 (A := X.A.in1) (by show X.A.units + 1 + 1 < cLine; omega)
theorem call_dictT {X : Cx} (hc : X.calm = true) (hu : X.A.units + 64 < cLine) : CallR X (.type "dict") (rDictT X.K) := by
  intro pins s σ H xs us Q I r q
  obtain ⟨a, ps, rfl, hq, hp, q⟩ := q
  obtain ⟨u, rfl, rx⟩ := vals1 r
  cases rx
  obtain ⟨its, rv, pl, hz⟩ := I.list hq
  have rv' : Vals ((ps.map fun p => p.t).map V.ref) its := by rw [List.map_map]; exact rv
  have ei := refs_at rv'
  subst ei
  rw [List.length_map] at hz
  obtain ⟨ws, rw_, hl, hw⟩ := pairs_at I ps hp
  obtain ⟨o, n, ho, hcl, hd, hdat⟩ := pl
  have hzl : (ps.zip ws).length = ps.length := by rw [List.length_zip, hl, Nat.min_self]
  refine call_dict_pairsH (knd := tupleKind (mixKind X.prog X.w)) (ps := (ps.zip ws).map fun z => (z.1.k, z.1.q, z.2)) (PairArg.list a _ (fun j => (ps.getD j ⟨0, 0, [], .non⟩).t) ((ps.zip ws).map fun z => (.ref z.1.q, z.2))) (I.ok.hd hc) (room2 hu) ⟨⟨o, n, ho, hcl, hd, hdat⟩, ?_, fun j k v e => ?_⟩ ⟨?_, fun i key v e => ?_⟩ (fun h' hk x hx => ?_) ?_ fun h' tk hd' hk => ?_
  · simp [hzl]
  · rw [List.getElem?_map] at e
    obtain ⟨⟨p, u⟩, e1, e2⟩ := Option.map_eq_some_iff.mp e
    cases e2
    obtain ⟨e3, e4⟩ := List.getElem?_zip_eq_some.mp e1
    have e5 : ps.getD j ⟨0, 0, [], .non⟩ = p := by rw [List.getD_eq_getElem?_getD, e3]; rfl
    refine ⟨?_, .inl ?_⟩
    · simp [e3, e5]
    · show s.heap.IsTuple (ps.getD j ⟨0, 0, [], .non⟩).t _
      rw [e5]; exact hw j p u e3 e4
  · simp
  · unfold PairRel at e
    rw [List.getElem?_map] at e
    obtain ⟨⟨p, u⟩, e1, e2⟩ := Option.map_eq_some_iff.mp e
    cases e2
    exact ⟨p.k, p.q, by rw [List.getElem?_map, e1]; rfl, rfl⟩
  · obtain ⟨⟨p, u⟩, hz1, rfl⟩ := List.mem_map.mp hx
    have hpp := hp p (List.of_mem_zip hz1).1
    have ok' : HOk X.prog X.w H h' := I.hok.kept fun b o e => hk b o (Nat.ne_of_lt (Heap.lt_size e)) (by simp) e
    exact key_of ok' hpp.2
  · simp [hzl]; exact hz
  · refine ⟨.ref s.heap.objs.size, _, dict_laid (tk := tk) (kvs := allK [] (ps.map fun p => (p.k, p.v))) I (fun b o e => hk b o (by simp) e) ?_ (kt_all hp rw_ .nil) hd', rfl, q _ (I.hok.fresh (Nat.le_refl _))⟩
    refine Nat.le_trans (allK_len _ _) ?_
    simp
    exact hz
end DL
end
section
set_option maxRecDepth 100000
set_option maxHeartbeats 2000000
/-! The data layer, part 24: dict(zip(..)), dict of a list of pairs, list of a dict: the readings of data. -/
namespace DL
open PySem L2
open Classical
structure KeyA where
  q : Addr
  k : List Key
theorem kt_zip {H : Hp} : ∀ {qs : List KeyA} {vs : List V} {us : List Value} {kvs : List (List Key × V)} {xs : List (List Key × Addr × Value)}, (∀ p ∈ qs, H p.q = some (.tup (p.k.map kV))) → Vals vs us → KT H kvs xs →
    KT H (allK kvs ((qs.zip vs).map fun z => (z.1.k, z.2))) (storedAllH xs ((qs.zip us).map fun z => (z.1.k, z.1.q, z.2)))
  | [], _, _, _, _, _, _, r => by simp [allK, storedAllH]; exact r
  | _ :: _, [], [], _, _, _, .nil, r => by simp [allK, storedAllH]; exact r
  | p :: qs, v :: vs, u :: us, kvs, xs, h, .cons r rr, k => by
    have z := kt_zip (qs := qs) (fun p hp => h p (by simp [hp])) rr (KT.put k p.k (h p (by simp)) r)
    exact z
def tDictZ (K : PySem.W.Frag) (ta : TA) : TE := fun σ H Q => ta σ H fun vs H1 => ∃ (a b : Addr) (qs : List KeyA) (ws : List V), vs = [.ref a, .ref b] ∧ SqL K H1 a (qs.map fun p => .ref p.q) ∧ SqL K H1 b ws ∧ (∀ p ∈ qs, H1 p.q = some (.tup (p.k.map kV))) ∧
  ∀ r, H1 r = none → Q (.ref r) (upd H1 r (.dT (allK [] ((qs.zip ws).map fun z => (z.1.k, z.2)))))
theorem key_at {X : Cx} {pins : List (Addr × Obj)} {σ : St} {H : Hp} {s : Shared} {h' : Heap} {q : Addr} {k : List Key} (I : Inv X pins σ H s) (hq : H q = some (.tup (k.map kV))) (st : ∀ o, s.heap.get? q = some o → h'.get? q = some o) : (tupleKind (mixKind X.prog X.w)).is h' k q := by
  have ok : HOk X.prog X.w (fun b => if b = q then some (.tup (k.map kV)) else none) h' := fun b o e => by
    by_cases hb : b = q
    · subst hb
      have e' : some (HO.tup (k.map kV)) = some o := (if_pos rfl).symm.trans e
      cases e'
      obtain ⟨z, its, rv, ob, e1, e2⟩ := I.hok b _ hq
      exact ⟨z, its, rv, ob, st _ e1, e2⟩
    · have e' : (none : Option HO) = some o := (if_neg hb).symm.trans e
      cases e'
  exact key_of (H := fun b => if b = q then some (.tup (k.map kV)) else none) ok (if_pos rfl)
section
variable {X : Cx} {e e2 : Expr} {ta : TA} {p p2 pos pos2 : Pos}
theorem pe_dictZ (hc : X.calm = true) (hu : X.A.units + 64 < cLine) (hgd : Gl X "dict") (hmd : X.mg "dict" = none) (hgz : Gl X "zip") (hmz : X.mg "zip" = none) (ha : PA X [e, e2] ta)
    (hs : starEach [e, e2] X.env = (false, eval e X.env) :: starEach [e2] X.env := by rfl) (hpl : (backTo pos2 (starEach [e2] X.env)).any (·.1) = false := by rfl)
    (hs2 : starEach [.Call (.Name "zip" p2) [e, e2] [] pos2] X.env = [(false, eval (.Call (.Name "zip" p2) [e, e2] [] pos2) X.env)] := by rfl) :
    PE X (.Call (.Name "dict" p) [.Call (.Name "zip" p2) [e, e2] [] pos2] [] pos) (tDictZ X.K ta) := by
  refine ⟨fun pins s σ H Q I h => PyProof.Rows.Call_ (ld_blt I hgd hmd PyProof.Rows.boot_dict (PyProof.Rows.callWith_type1 ?_ hs2 rfl))⟩
  rw [hs2]
  refine Calls.spliced_cons (PyProof.Rows.Call_ (ld_blt I hgz hmz PyProof.Rows.boot_zip (PyProof.Rows.callWith_type1 (thn (ha.run pos2 pins s σ H _ I h) fun us s1 ⟨vs, H1, I1, r1, a, b, qs, ws, ev, hqa, hqb, hk, q⟩ => ?_) hs hpl)))
  subst ev
  cases r1 with
  | cons r rr =>
    cases rr with
    | cons r' rr =>
      cases rr
      cases r
      cases r'
      obtain ⟨its, rv, p1, z1⟩ := I1.list hqa
      obtain ⟨its2, rv2, p2', z2⟩ := I1.list hqb
      have la : a < s1.heap.objs.size := p1.lt
      have lb : b < s1.heap.objs.size := p2'.lt
      have rv' : Vals ((qs.map fun p => p.q).map V.ref) its := by rw [List.map_map]; exact rv
      have ei := refs_at rv'
      subst ei
      refine call_zip_2 p1.isList p2'.isList fun h' hz hTI hTO h1 h2 hsz hkp => Calls.spliced_nil ?_
      have l1 := p1.isList.at fun o e => hkp _ o e
      have l2 := p2'.isList.at fun o e => hkp _ o e
      have hl2 : ws.length = its2.length := rv2.length
      refine call_dict_pairsH (s := { s1 with heap := h' }) (knd := tupleKind (mixKind X.prog X.w)) (ps := (qs.zip its2).map fun z => (z.1.k, z.1.q, z.2)) (PairArg.zip _ _ _ _ _ a b (PySem.W.ktu_apart s1.heap.objs.size a b la lb) _ _) (I.ok.hd hc) (room2 hu) ⟨hz, hTI, ⟨_, _, hTO⟩, h1, h2, l1, l2⟩ ⟨?_, fun i key v er => ?_⟩ (fun h2 hk2 x hx => ?_) ?_ fun h3 tk hd3 hk3 => ?_
      · simp [List.length_zip]
      · obtain ⟨e1, e2⟩ := er
        simp at e1 e2
        obtain ⟨y, e1, rfl⟩ := e1
        refine ⟨y.k, y.q, ?_, rfl⟩
        have ez : (qs.zip its2)[i]? = some (y, v) := List.getElem?_zip_eq_some.mpr ⟨e1, e2⟩
        rw [List.getElem?_map, ez]
        rfl
      · obtain ⟨⟨y, u⟩, hz1, rfl⟩ := List.mem_map.mp hx
        have hy := hk y (List.of_mem_zip hz1).1
        have hlt : y.q < s1.heap.objs.size := I1.hok.lt hy
        refine key_at I1 hy fun o e => hk2 _ o (fun z => ?_) (fun z => ?_) (hkp _ o e)
        · have z' : y.q = h'.objs.size := z
          rw [hsz] at z'
          exact absurd (show y.q < s1.heap.objs.size from hlt) (by rw [z']; exact Nat.not_lt.mpr (Nat.le_add_right _ _))
        · simp at z
          rcases z with z | z | z | z <;> (have z' : y.q = _ := z; rw [z'] at hlt; exact absurd hlt (by simp [Nat.not_lt]))
      · simp
        rw [List.length_map] at z1
        exact Nat.le_trans (Nat.min_le_left _ _) z1
      · have hnew : s1.heap.objs.size ≤ h'.objs.size := by rw [hsz]; exact Nat.le_add_right _ _
        refine ⟨.ref h'.objs.size, upd H1 h'.objs.size (.dT (allK [] ((qs.zip ws).map fun z => (z.1.k, z.2)))), dict_laid2 (s := s1) (tk := tk) (kvs := allK [] ((qs.zip ws).map fun z => (z.1.k, z.2))) I1 (fun b o e => ?_) hnew ?_ (kt_zip hk rv2 .nil) hd3, rfl, q _ (I1.hok.fresh hnew)⟩
        · refine hk3 b o (fun z => ?_) (hkp b o e)
          have hlt : b < s1.heap.objs.size := Heap.lt_size e
          simp at z
          rcases z with z | z | z | z <;> (have z' : b = _ := z; rw [z'] at hlt; exact absurd hlt (by simp [Nat.not_lt]))
        · refine Nat.le_trans (allK_len _ _) ?_
          rw [List.length_nil, Nat.zero_add, List.length_map, List.length_zip]
          rw [List.length_map] at z1
          omega
end
end DL
end
section
set_option maxRecDepth 100000
set_option maxHeartbeats 2000000
/-! The data layer, part 25: dicts made of lists, lists made of dicts. -/
namespace DL
open PySem L2
open Classical
section
variable {K : PySem.W.Frag} {g : Gh} {m : Mem}
def allF (g : Gh) : Hp := fun b => match g.H b with
  | some (.tup vs) => some (.tup vs)
  | _ => g.F b
theorem allF_tup {q : Addr} {vs : List V} (h : g.H q = some (.tup vs)) : allF g q = some (.tup vs) := by unfold allF; rw [h]
theorem allF_not {b : Addr} (h : ∀ vs, g.H b ≠ some (.tup vs)) : allF g b = g.F b := by
  unfold allF
  split
  · rename_i vs e; exact absurd e (h vs)
  · rfl
/-- all tuples are held -/
theorem Rep.adoptAll (rp : Rep K g m) : Rep K ⟨g.H, allF g, g.al⟩ m ∧ Le g m ⟨g.H, allF g, g.al⟩ m := by
  have mF : ∀ b u, g.F b = some u → allF g b = some u := fun b u f => by
    by_cases hb : ∃ vs, g.H b = some (.tup vs)
    · obtain ⟨vs, hb⟩ := hb
      rw [allF_tup hb]
      rcases rp.sub b u f with e | ⟨_, ob, e⟩ <;> (rw [hb] at e; cases e)
      rfl
    · rw [allF_not fun vs z => hb ⟨vs, z⟩]; exact f
  refine ⟨⟨fun b u f => ?_, fun i u e => ?_, rp.inj⟩, ⟨mF, Nat.le_refl _, fun _ _ => rfl, fun b u e nt f l => ⟨e, ?_, l⟩, fun _ _ _ e => e, fun _ _ e _ => e⟩⟩
  · by_cases hb : ∃ vs, g.H b = some (.tup vs)
    · obtain ⟨vs, hb⟩ := hb
      have f' : allF g b = some u := f
      rw [allF_tup hb] at f'
      cases f'
      exact .inl hb
    · have f' : allF g b = some u := f
      rw [allF_not fun vs z => hb ⟨vs, z⟩] at f'
      exact rp.sub b u f'
  · by_cases hn : u = .gone
    · subst hn; trivial
    · exact (rp.mem i u e).step (g := g) (g' := ⟨g.H, allF g, g.al⟩) rfl (fun f => (allF_not fun vs => (rp.mem i u e).noTup hn).trans f) mF (fun _ _ => rfl) (Nat.le_refl _)
  · exact (allF_not fun vs z => nt vs (Option.some.inj (e.symm.trans z))).trans f
/-- new things, all of them held -/
theorem Rep.ext (rp : Rep K g m) {H2 : Hp} (S : Addr → Prop) (hx : ∀ b o, g.H b = some o → H2 b = some o) (hS : ∀ b, S b → g.H b = none) : Rep K ⟨H2, fun b => if S b then H2 b else g.F b, g.al⟩ m ∧ Le g m ⟨H2, fun b => if S b then H2 b else g.F b, g.al⟩ m := by
  have no : ∀ b o, g.H b = some o → ¬ S b := fun b o e z => by rw [hS b z] at e; cases e
  have noF : ∀ b o, g.F b = some o → ¬ S b := fun b o f z => by
    have := rp.free (hS b z)
    rw [this] at f
    cases f
  have mF : ∀ b u, g.F b = some u → (fun b => if S b then H2 b else g.F b) b = some u := fun b u f => (if_neg (noF b u f)).trans f
  refine ⟨⟨fun b u f => ?_, fun i u e => ?_, rp.inj⟩, ⟨mF, Nat.le_refl _, fun _ _ => rfl, fun b u e nt f l => ⟨hx b u e, (if_neg (no b u e)).trans f, l⟩, fun b o u e => hx b _ e, fun _ _ e _ => e⟩⟩
  · by_cases hb : S b
    · exact .inl ((if_pos hb).symm.trans f)
    · rcases rp.sub b u ((if_neg hb).symm.trans f) with e | ⟨z, ob, e⟩
      · exact .inl (hx b u e)
      · exact .inr ⟨z, ob, hx b _ e⟩
  · by_cases hn : u = .gone
    · subst hn; trivial
    · obtain ⟨w, hw, hf⟩ := (rp.mem i u e).there hn
      exact (rp.mem i u e).step (g := g) (g' := ⟨H2, fun b => if S b then H2 b else g.F b, g.al⟩) ((hx _ _ hw).trans hw.symm) (fun f => (if_neg (no _ _ hw)).trans f) mF (fun _ _ => rfl) (Nat.le_refl _)
end
/-! ### a new dict -/
def newD (mu : Bool) (kvs : List (List Key × D)) (m : Mem) : Res D := if mu then .ok (.mref m.length) (m ++ [.dT kvs]) else .ok (.dT kvs) m
theorem pre_newD {K : PySem.W.Frag} {W : WX} {σ : St} {g : Gh} {m : Mem} {Q : VK} {mu : Bool} {vs : List (List Key × V)} {kvs : List (List Key × D)} (rp : Rep K g m) (q : Pre (RE K) K W σ g m Q (newD mu kvs m)) (hk : vs.map (·.1) = kvs.map (·.1)) (il : IsGL K g m (vs.map (·.2)) (kvs.map (·.2))) (p : Addr) (hp : g.H p = none) : Q (.ref p) (upd g.H p (.dT vs)) := by
  unfold newD at q
  cases mu with
  | true =>
    rw [if_pos rfl] at q
    have al2 : (g.add m.length p (.dT vs)).al m.length = p := if_pos rfl
    have al1 : ∀ i, i < m.length → (g.add m.length p (.dT vs)).al i = g.al i := fun i h => if_neg (Nat.ne_of_lt h)
    obtain ⟨rp', l'⟩ := rp.newM (mo := .dT kvs) hp (o := .dT vs) (fun _ _ z => by cases z) ⟨rp.free hp, vs, upd_same, hk, IsL.mono (fun _ _ h => h) al1 (Nat.le_add_right _ _) il⟩
    refine q (g.add m.length p (.dT vs)) (.ref p) rp' l' ?_
    have z : IsG K (g.add m.length p (.dT vs)) (m ++ [.dT kvs]) (.ref ((g.add m.length p (.dT vs)).al m.length)) (.mref m.length) := .mref (by simp)
    rw [al2] at z
    exact z
  | false =>
    rw [if_neg Bool.false_ne_true] at q
    obtain ⟨rp', l'⟩ := rp.newF hp (.dT vs)
    exact q ⟨upd g.H p (.dT vs), upd g.F p (.dT vs), g.al⟩ (.ref p) rp' l' (.dT upd_same hk (il.le l'))
/-! ### dict(pairs) -/
def pairT : D → Option (List Key × D)
  | .tup [.tup ks, v] => (keysV ks).map fun k => (k, v)
  | _ => none
def pairsT : List D → Option (List (List Key × D))
  | [] => some []
  | d :: ds => match pairT d, pairsT ds with
    | some p, some r => some (p :: r)
    | _, _ => none
section
variable {K : PySem.W.Frag} {g : Gh} {m : Mem}
theorem pairT_ok (rp : Rep K g m) {v : V} {d : D} {p : List Key × D} (iv : IsG K g m v d) (h : pairT d = some p) : ∃ z : PairV, v = .ref z.t ∧ PairOk g.H z ∧ z.k = p.1 ∧ IsG K g m z.v p.2 := by
  unfold pairT at h
  split at h
  · rename_i ks x
    obtain ⟨k, hk, rfl⟩ := Option.map_eq_some_iff.mp h
    cases iv with
    | tup s z l =>
      cases l with
      | cons i1 l =>
        cases l with
        | cons i2 l =>
          cases l
          cases i1 with
          | tup s1 z1 l1 =>
            rename_i t x' q ws
            refine ⟨⟨t, q, k, x'⟩, rfl, ⟨rp.at_ s fun z => z, ?_⟩, rfl, i2⟩
            have e := rp.at_ s1 fun z => z
            rw [keysV_ok l1 hk] at e
            exact e
  · cases h
theorem pairsT_ok (rp : Rep K g m) : ∀ {vs : List V} {ds : List D} {ps : List (List Key × D)}, IsGL K g m vs ds → pairsT ds = some ps → ∃ zs : List PairV, vs = zs.map (fun z => .ref z.t) ∧ (∀ z ∈ zs, PairOk g.H z) ∧ (zs.map fun z => (z.k, z.v)).map (·.1) = ps.map (·.1) ∧ IsGL K g m ((zs.map fun z => (z.k, z.v)).map (·.2)) (ps.map (·.2))
  | _, _, _, .nil, h => by cases h; exact ⟨[], rfl, (fun _ z => nomatch z), rfl, .nil⟩
  | _, _, _, .cons i t, h => by
    simp only [pairsT] at h
    split at h
    · rename_i p r e1 e2
      cases h
      obtain ⟨z, rfl, z1, z2, z3⟩ := pairT_ok rp i e1
      obtain ⟨zs, rfl, y1, y2, y3⟩ := pairsT_ok rp t e2
      refine ⟨z :: zs, rfl, fun x hx => ?_, ?_, .cons z3 y3⟩
      · rcases List.mem_cons.mp hx with rfl | hx
        · exact z1
        · exact y1 x hx
      · simp only [List.map_cons]
        rw [z2, y2]
    · cases h
end
def hDict (mu : Bool) : HL := fun ds m => match ds with
  | [d] => (match lstV m d with
    | some xs => (match pairsT xs with
      | some kvs => newD mu (allT [] kvs) m
      | none => .bad)
    | none => .bad)
  | _ => .bad
theorem sd_dict {K : PySem.W.Frag} (mu : Bool) : CaSd K (rDictT K) (hDict mu) := by
  intro W σ g m xs ds Q rp ix q
  unfold hDict at q
  split at q
  · split at q
    · rename_i ys e
      split at q
      · rename_i kvs ek
        cases ix with
        | cons h t =>
          cases t
          obtain ⟨a, vs, rfl, h1, h2, h3⟩ := lstV_ok rp h e
          obtain ⟨zs, rfl, y1, y2, y3⟩ := pairsT_ok rp h3 ek
          obtain ⟨a1, a2⟩ := allT_is y2 y3 (vs := []) (ds := []) rfl .nil
          exact ⟨a, zs, rfl, h1, y1, fun p hp => pre_newD rp q a1 a2 p hp⟩
      · exact q.elim
    · exact q.elim
  · exact q.elim
/-! ### dict(zip(xs, ys)) -/
def tupsK : List D → Option (List (List Key))
  | [] => some []
  | .tup ks :: ds => match keysV ks, tupsK ds with
    | some k, some r => some (k :: r)
    | _, _ => none
  | _ => none
def zipDR (mu : Bool) (x y : D) (m : Mem) : Res D := match lstV m x, lstV m y with
  | some xs, some ys => (match tupsK xs with
    | some ks => newD mu (allT [] (ks.zip ys)) m
    | none => .bad)
  | _, _ => .bad
def eDictZ (mu : Bool) (a b : FE) : FE := fun ρ m => (a ρ m).bind fun x m1 => (b ρ m1).bind fun y m2 => zipDR mu x y m2
theorem tupsK_ok {K : PySem.W.Frag} {g : Gh} {m : Mem} (rp : Rep K g m) : ∀ {vs : List V} {ds : List D} {ks : List (List Key)}, IsGL K g m vs ds → tupsK ds = some ks → ∃ qs : List KeyA, vs = qs.map (fun p => .ref p.q) ∧ qs.map (·.k) = ks ∧ ∀ p ∈ qs, g.H p.q = some (.tup (p.k.map kV))
  | _, _, _, .nil, h => by cases h; exact ⟨[], rfl, rfl, fun _ z => nomatch z⟩
  | _, _, _, .cons i t, h => by
    cases i <;> simp only [tupsK] at h <;> try cases h
    rename_i ds q ws ks' s z l
    split at h
    · rename_i k r e1 e2
      cases h
      obtain ⟨qs, rfl, y1, y2⟩ := tupsK_ok rp t e2
      refine ⟨⟨q, k⟩ :: qs, rfl, by simp [y1], fun p hp => ?_⟩
      rcases List.mem_cons.mp hp with rfl | hp
      · have e := rp.at_ s fun z => z
        rw [keysV_ok l e1] at e
        exact e
      · exact y2 p hp
    · cases h
theorem zip_is {K : PySem.W.Frag} {F : Hp} {al : Nat → Addr} {n : Nat} : ∀ {qs : List KeyA} {vs : List V} {ds : List D}, IsL K F al n vs ds → ((qs.zip vs).map fun z => (z.1.k, z.2)).map (·.1) = ((qs.map (·.k)).zip ds).map (·.1) ∧ IsL K F al n (((qs.zip vs).map fun z => (z.1.k, z.2)).map (·.2)) (((qs.map (·.k)).zip ds).map (·.2))
  | [], _, _, _ => ⟨by simp, by simp; exact .nil⟩
  | _ :: _, _, _, .nil => ⟨by simp, by simp; exact .nil⟩
  | q :: qs, _, _, .cons i t => by
    obtain ⟨a, b⟩ := zip_is (qs := qs) t
    simp only [List.zip_cons_cons, List.map_cons]
    exact ⟨by rw [a], .cons i b⟩
section
variable {X : Cx} {W : WX} {e e2 : Expr} {f f2 : FE} {p p2 pos pos2 : Pos} {k : Nat}
theorem pd_dictZ (mu : Bool) (hc : X.calm = true) (hr : Room k X.A) (hmd : X.mg "dict" = none) (hmz : X.mg "zip" = none) (h : PD X W e f) (h2 : PD X W e2 f2) (hgd : Gl X "dict" := by rfl) (hgz : Gl X "zip" := by rfl)
    (hs : starEach [e, e2] X.env = (false, eval e X.env) :: starEach [e2] X.env := by rfl) (hs1 : starEach (e :: [e2]) X.env = (false, eval e X.env) :: starEach [e2] X.env := by rfl) (hs3 : starEach (e2 :: []) X.env = (false, eval e2 X.env) :: starEach [] X.env := by rfl) (hpl : (backTo pos2 (starEach [e2] X.env)).any (·.1) = false := by rfl)
    (hs2 : starEach [.Call (.Name "zip" p2) [e, e2] [] pos2] X.env = [(false, eval (.Call (.Name "zip" p2) [e, e2] [] pos2) X.env)] := by rfl) :
    PD X W (.Call (.Name "dict" p) [.Call (.Name "zip" p2) [e, e2] [] pos2] [] pos) (eDictZ mu f f2) := by
  obtain ⟨t, pt, s⟩ := h.ex
  obtain ⟨t', pt', s'⟩ := h2.ex
  refine ⟨⟨_, pe_dictZ hc hr.units hgd hmd hgz hmz (pa_cons pt (pa_cons pt' pa_nil hs3) hs1) hs hpl hs2, fun g m σ ρ Q rp en q => s g m σ ρ _ rp en (pre_bind q fun g1 m1 x dx rp1 l1 ix q1 => s' g1 m1 σ ρ _ rp1 (en.le l1) (pre_bind q1 fun g2 m2 y dy rp2 l2 iy q2 => ?_))⟩⟩
  unfold zipDR at q2
  split at q2
  · rename_i xs ys e1 e2
    split at q2
    · rename_i ks ek
      obtain ⟨a, vs, rfl, h1, _, h3⟩ := lstV_ok rp2 (ix.le l2) e1
      obtain ⟨b, ws, rfl, w1, _, w3⟩ := lstV_ok rp2 iy e2
      obtain ⟨qs, rfl, y1, y2⟩ := tupsK_ok rp2 h3 ek
      subst y1
      obtain ⟨z1, z2⟩ := zip_is (qs := qs) w3
      obtain ⟨a1, a2⟩ := allT_is z1 z2 (vs := []) (ds := []) rfl .nil
      exact ⟨a, b, qs, ws, rfl, h1, w1, y2, fun r hr => pre_newD rp2 q2 a1 a2 r hr⟩
    · exact q2.elim
  · exact q2.elim
end
end DL
end
section
set_option maxRecDepth 100000
set_option maxHeartbeats 2000000
/-! The data layer, part 26: list(d), len(d), the values of a dict with tuple keys. -/
namespace DL
open PySem L2
open Classical
def rListT : List V → Hp → VK → Prop := fun xs H Q => ∃ d kvs, xs = [V.ref d] ∧ Rd H d (.dT kvs) ∧ ((∀ q vs, H q = some (.tup vs) → vs.length ≤ sizeLine) → kvs.length ≤ sizeLine → ∀ p bs, H p = none → IsKeys H kvs bs → Q (.ref p) (upd H p (.lst (bs.map V.ref))))
theorem call_listT {X : Cx} (hc : X.calm = true) : CallR X (.type "list") rListT := by
  intro pins s σ H xs us Q I r h
  obtain ⟨d, kvs, rfl, hd, q⟩ := h
  exact call_list_dT hc pins s σ H _ us Q I r ⟨d, kvs, rfl, hd, fun p bs hp hk => q (tup_len I) (dT_len I hd) p bs hp hk⟩
/-- a new list -/
def newL (mu : Bool) (xs : List D) (m : Mem) : Res D := if mu then .ok (.mref m.length) (m ++ [.lst xs]) else .ok (.lst xs) m
theorem pre_newL2 {K : PySem.W.Frag} {W : WX} {σ : St} {g : Gh} {m : Mem} {Q : VK} {mu : Bool} {vs : List V} {ds : List D} (rp : Rep K g m) (q : Pre (RE K) K W σ g m Q (newL mu ds m)) (hz : vs.length ≤ sizeLine) (il : IsGL K g m vs ds) (p : Addr) (hp : g.H p = none) : Q (.ref p) (upd g.H p (.lst vs)) := by
  unfold newL at q
  cases mu with
  | true => rw [if_pos rfl] at q; exact pre_newM rp q hz il p hp
  | false => rw [if_neg Bool.false_ne_true] at q; exact pre_newL rp q hz il p hp
def hListD (mu : Bool) : HL := fun ds m => match ds with
  | [d] => (match dicT m d with
    | some kvs => newL mu (kvs.map fun p => .tup (p.1.map keyD)) m
    | none => .bad)
  | _ => .bad
theorem keys_is {K : PySem.W.Frag} {g : Gh} {m : Mem} (hF : ∀ q vs, g.H q = some (.tup vs) → g.F q = some (.tup vs)) (hl : ∀ q vs, g.H q = some (.tup vs) → vs.length ≤ sizeLine) : ∀ {vs : List (List Key × V)} {bs : List Addr} {kvs : List (List Key × D)}, IsKeys g.H vs bs → vs.map (·.1) = kvs.map (·.1) → IsGL K g m (bs.map V.ref) (kvs.map fun p => .tup (p.1.map keyD))
  | [], _, [], .nil, _ => .nil
  | [], _, _ :: _, _, e => by simp at e
  | _ :: _, _, [], _, e => by simp at e
  | p :: vs, b :: bs, q :: kvs, .cons h t, e => by
    simp only [List.map_cons, List.cons.injEq] at e
    refine .cons (.tup (hF b _ h) (hl b _ h) ?_) (keys_is hF hl t e.2)
    rw [← e.1]
    exact keysD_is p.1
theorem isKeys_len {H : Hp} {kvs : List (List Key × V)} {bs : List Addr} (h : IsKeys H kvs bs) : kvs.length = bs.length := Paired.length h
theorem sd_listD {K : PySem.W.Frag} (mu : Bool) : CaSd K rListT (hListD mu) := by
  intro W σ g m xs ds Q rp ix q
  unfold hListD at q
  split at q
  · split at q
    · rename_i kvs e
      cases ix with
      | cons h t =>
        cases t
        obtain ⟨a, vs, rfl, rd, hk, il⟩ := dicT_ok rp h e
        refine ⟨a, vs, rfl, rd, fun hl hz p bs hp hb => ?_⟩
        obtain ⟨rp', l'⟩ := rp.adoptAll
        refine pre_newL2 (g := ⟨g.H, allF g, g.al⟩) rp' (Pre.le q l') ?_ (keys_is (g := ⟨g.H, allF g, g.al⟩) (fun q vs h => allF_tup h) hl hb hk) p hp
        rw [List.length_map, ← isKeys_len hb]
        exact hz
    · exact q.elim
  · exact q.elim
section
variable {X : Cx} {W : WX} {e : Expr} {es : List Expr} {f : FA} {p pos : Pos}
theorem bf_listD (mu : Bool) (hc : X.calm = true) (hm : X.mg "list" = none) (ha : PDA X W (e :: es) f) (hg : Gl X "list" := by rfl) (he : starEach (e :: es) X.env = (false, eval e X.env) :: starEach es X.env := by rfl) (hpl : (backTo pos (starEach es X.env)).any (·.1) = false := by rfl) : PD X W (.Call (.Name "list" p) (e :: es) [] pos) (eCB (hListD mu) f) := pd_ct (call_listT hc) (sd_listD mu) hg hm (by decide +kernel) ha (by decide) (by decide) he hpl
theorem bf_dict (mu : Bool) {k : Nat} (hr : Room k X.A) (hc : X.calm = true) (hm : X.mg "dict" = none) (ha : PDA X W (e :: es) f) (hg : Gl X "dict" := by rfl) (he : starEach (e :: es) X.env = (false, eval e X.env) :: starEach es X.env := by rfl) (hpl : (backTo pos (starEach es X.env)).any (·.1) = false := by rfl) : PD X W (.Call (.Name "dict" p) (e :: es) [] pos) (eCB (hDict mu) f) := pd_ct (call_dictT hc hr.units) (sd_dict mu) hg hm (by decide +kernel) ha (by decide) (by decide) he hpl
end
/-! ### len(d) -/
def hLenD : HL := fun ds m => match ds with
  | [d] => (match dicT m d with
    | some kvs => .ok (.int kvs.length) m
    | none => .bad)
  | _ => .bad
def rLnT : List V → Hp → VK → Prop := fun xs H Q => ∃ d kvs, xs = [V.ref d] ∧ Rd H d (.dT kvs) ∧ Q (.int kvs.length) H
theorem call_lenT {X : Cx} : CallR X (.builtin "len") rLnT := by
  intro pins s σ H xs us Q I r h
  obtain ⟨d, kvs, rfl, hd, q⟩ := h
  obtain ⟨u, rfl, rx⟩ := vals1 r
  cases rx
  obtain ⟨z, hs, ks, pr, dd⟩ := dt_rd I.hok hd
  have l2 : kvs.length = ks.length := Paired.length pr
  have hfit : (ks.length : Int) < 2 ^ 63 := by
    have : (sizeLine : Int) < 2 ^ 63 := by decide
    omega
  refine PySem.call_len_dictH hs dd hfit ?_
  refine ⟨.int ks.length, H, I.tok _, ⟨_, rfl⟩, ?_⟩
  rw [← l2]
  exact q
theorem sd_lenD {K : PySem.W.Frag} : CaSd K rLnT hLenD := by
  intro W σ g m xs ds Q rp ix q
  unfold hLenD at q
  split at q
  · split at q
    · rename_i kvs e
      cases ix with
      | cons h t =>
        cases t
        obtain ⟨a, vs, rfl, rd, hk, il⟩ := dicT_ok rp h e
        refine ⟨a, vs, rfl, rd, ?_⟩
        have := congrArg List.length hk
        rw [List.length_map, List.length_map] at this
        rw [this]
        exact pre_val rp q (.int _)
    · exact q.elim
  · exact q.elim
theorem bf_lenD {X : Cx} {W : WX} {e : Expr} {es : List Expr} {f : FA} {p pos : Pos} (hm : X.mg "len" = none) (ha : PDA X W (e :: es) f) (hg : Gl X "len" := by rfl) (he : starEach (e :: es) X.env = (false, eval e X.env) :: starEach es X.env := by rfl) (hpl : (backTo pos (starEach es X.env)).any (·.1) = false := by rfl) : PD X W (.Call (.Name "len" p) (e :: es) [] pos) (eCB hLenD f) := pd_cb call_lenT sd_lenD hg hm (by decide +kernel) ha (by decide) (by decide) he hpl
end DL
end
section
set_option maxRecDepth 100000
set_option maxHeartbeats 2000000
/-! The data layer, part 27: == and != of dicts with tuple keys. -/
namespace DL
open PySem L2 PySem.W
open Classical
section
variable {prog : Program} {w : World} {κ : Type} [DecidableEq κ] {kd : HeapKind prog w κ} {A : Around} {E : Value → Shared → Prop} {s : Shared}
inductive HitsT (prog : Program) (w : World) (A : Around) (s : Shared) (yb : List (κ × Addr × Value)) : List (κ × Addr × Value) → Bool → Prop
  | nil : HitsT prog w A s yb [] true
  | miss {x : κ × Addr × Value} {r : List (κ × Addr × Value)} : atKey yb x.1 = none → HitsT prog w A s yb (x :: r) false
  | hit {x : κ × Addr × Value} {y : Addr × Value} {r : List (κ × Addr × Value)} {e b : Bool} : atKey yb x.1 = some y → SeqAt.EqP prog w A s x.2.2 y.2 e → HitsT prog w A s yb r b → HitsT prog w A s yb (x :: r) (e && b)
theorem HitsT.split {yb : List (κ × Addr × Value)} {x : κ × Addr × Value} {r : List (κ × Addr × Value)} {b : Bool} (h : HitsT prog w A s yb (x :: r) b) :
    (atKey yb x.1 = none ∧ b = false) ∨ ∃ y e b', atKey yb x.1 = some y ∧ SeqAt.EqP prog w A s x.2.2 y.2 e ∧ HitsT prog w A s yb r b' ∧ b = (e && b') := by
  cases h with
  | miss a => exact .inl ⟨a, rfl⟩
  | hit a b c => exact .inr ⟨_, _, _, a, b, c, rfl⟩
theorem pairs_same {nm : String} {a b : Addr} {xa xb : List (κ × Addr × Value)} {r : Bool} {Q : Bool → Shared → Prop} (hu : kd.room A) (na : (a == sysModules) = false) (nb : (b == sysModules) = false)
    (da : s.heap.DictOfH kd a xa) (db : s.heap.DictOfH kd b xb) (hits : xa.length = xb.length → HitsT prog w A s xb xa r) (q : Q (xa.length == xb.length && r) s) :
    wpAny (model prog w) A (Builtin.Dict.samePairs nm a b) Q E s := by
  obtain ⟨oa, ea, pa, ga, _, ta, la, ia, _⟩ := da
  obtain ⟨ob, eb, pb, gb, _, tb, lb, ib, ndb⟩ := db
  have za := size_of_entries la
  have zb := size_of_entries lb
  rw [← za, ← zb] at q
  unfold Builtin.Dict.samePairs Builtin.Dict.showsAll
  rw [if_neg (show ¬ (a == sysModules) = true from fun z => by rw [na] at z; cases z), if_neg (show ¬ (b == sysModules) = true from fun z => by rw [nb] at z; cases z)]
  refine wpAny_bind (wpAny_pure (wpAny_bind (wpAny_pure (wpAny_bind (wpAny_dictEntries ga ta ?_)))))
  dsimp only
  refine wpAny_bind (wpAny_dictEntries gb tb ?_)
  by_cases hz : ea.size = eb.size
  case neg =>
    rw [if_pos (by simpa using hz)]
    have e0 : (ea.size == eb.size) = false := by simpa using hz
    rw [e0, Bool.false_and] at q
    exact wpAny_bind (wpAny_rule (wpAny_pure q))
  case pos =>
    have q' : Q r s := by simpa [hz] using q
    have hh := hits (by rw [← za, ← zb]; exact hz)
    rw [if_neg (by rw [hz]; simp)]
    refine wpAny_bind (wpAny_dictEpoch ga ta (wpAny_bind ?_))
    rw [Std.Legacy.Range.forIn_eq_forIn_range']
    simp only [Std.Legacy.Range.size, Nat.sub_zero, Nat.add_sub_cancel, Nat.div_one]
    refine wpAny_forIn_list _ (fun rest c t => t = s ∧ c = (none, ()) ∧ ∃ i, rest = List.range' i (ea.size - i) ∧ i ≤ ea.size ∧ HitsT prog w A s xb (xa.drop i) r) _ ?_ ?_ _ _ ⟨rfl, rfl, 0, by simp, Nat.zero_le _, hh⟩
    · rintro x rest c t ⟨rfl, rfl, i, er, hi, hp⟩
      have hlt : i < ea.size := by
        rcases Nat.lt_or_ge i ea.size with h | h
        · exact h
        · rw [Nat.sub_eq_zero_of_le h] at er; simp at er
      obtain ⟨rfl, er2⟩ : x = i ∧ rest = List.range' (i + 1) (ea.size - (i + 1)) := by
        have e1 : ea.size - i = (ea.size - (i + 1)) + 1 := by omega
        rw [e1, List.range'_succ] at er
        injection er with h1 h2
        exact ⟨h1, h2⟩
      refine wpAny_bind (wpAny_dictEntries ga ta ?_)
      rw [Array.getElem?_eq_getElem hlt]
      have hlx : x < xa.length := by rw [← za]; exact hlt
      have dr : xa.drop x = xa[x] :: xa.drop (x + 1) := List.drop_eq_getElem_cons hlx
      have ent : ea[x] = entryOfKey kd xa[x] := by
        have := entry_at la x
        rw [Array.getElem?_eq_getElem hlt, List.getElem?_eq_getElem hlx] at this
        exact Option.some.inj this
      rw [dr] at hp
      show wpAny _ _ (holding [ea[x].key, ea[x].val] _ >>= _) _ _ _
      rw [ent]
      refine wpAny_bind (wpAny_holding (wpAny_bind (wpAny_dictFind_heap hu (ia _ (List.getElem_mem hlx)) gb tb lb ib ndb (fun no => ?_) fun j y hj => ?_)))
      · have nn := atKey_none_of_get no
        rcases hp.split with ⟨_, e2⟩ | ⟨y, _, _, hy, _⟩
        · rw [e2] at q'
          refine wpAny_pure ?_
          show wpAny _ _ (if (!false) = true then _ else _) _ _ _
          rw [if_pos (by decide)]
          exact wpAny_pure (wpAny_pure q')
        · rw [nn] at hy; cases hy
      · have sm := atKey_of_get ndb hj
        have ej : eb[j]? = some (entryOfKey kd (xa[x].1, y)) := by
          have := entry_at lb j
          rw [hj] at this
          exact this
        refine wpAny_bind (wpAny_dictEntries gb tb ?_)
        rw [ej]
        rcases hp.split with ⟨nn, _⟩ | ⟨z, e, b', hy, he, hr, e2⟩
        · rw [sm] at nn; cases nn
        · cases (sm.symm.trans hy)
          refine wpAny_holding (he _ _ ?_)
          cases e with
          | false =>
            rw [e2, Bool.false_and] at q'
            show wpAny _ _ (if (!false) = true then _ else _) _ _ _
            rw [if_pos (by decide)]
            exact wpAny_pure (wpAny_pure q')
          | true =>
            rw [Bool.true_and] at e2
            rw [← e2] at hr
            show wpAny _ _ (if (!true) = true then _ else _) _ _ _
            rw [if_neg (by decide)]
            refine wpAny_bind (wpAny_dictEpoch ga ta ?_)
            rw [if_neg (by simp)]
            exact wpAny_pure ⟨rfl, rfl, x + 1, er2, hlt, hr⟩
    · rintro c t ⟨rfl, rfl, i, er, hi, hp⟩
      have hin : i = ea.size := by
        rcases Nat.lt_or_ge i ea.size with h | h
        · have e1 : ea.size - i = (ea.size - (i + 1)) + 1 := by omega
          rw [e1, List.range'_succ] at er
          cases er
        · exact Nat.le_antisymm hi h
      refine wpAny_pure ?_
      rw [hin, za, List.drop_length] at hp
      cases hp
      exact q'
theorem rc_dicts {a b : Addr} {xa xb : List (κ × Addr × Value)} {r : Bool} (na : (a == sysModules) = false) (nb : (b == sysModules) = false) (da : s.heap.DictOfH kd a xa) (db : s.heap.DictOfH kd b xb) (hu : A.units < cLine) (hu1 : kd.room A.in1)
    (hits : xa.length = xb.length → HitsT prog w A.in1 s xb xa r) (E Q : Value → Shared → Prop) (q : Q (.bool (xa.length == xb.length && r)) s) : wpAny (model prog w) A (richCompare .Eq (.ref a) (.ref b)) Q E s := by
  refine wpAny_richCompare_same_room (op := .Eq) da.typeIs db.typeIs PySem.F.slot_dict_eq (wpAny_call_entry PySem.F.slot_dict_eq da.typeIs PySem.F.entry_dict_eq ?_ (PySem.F.args_dict_eq_2 _ _)) hu
  show wpAny _ _ (Builtin.Dict.dictSlotArgs "__eq__" ⟨[.ref a, .ref b], []⟩ >>= _) _ _ s
  unfold Builtin.Dict.dictSlotArgs
  refine wpAny_bind (wpAny_bind (wpAny_notOrdered_dict da.typeIs ?_))
  show wpAny _ _ (pure (Value.ref a, Value.ref b)) _ _ s
  refine wpAny_pure (wpAny_bind (wpAny_isInstance (T := "dict") db.typeIs PySem.F.sub_dict_dict ?_))
  simp only [Bool.not_true, Bool.false_eq_true, if_false]
  refine wpAny_bind (wpAny_pure (wpAny_bind (wpAny_pure (wpAny_bind (pairs_same hu1 na nb da db hits ?_)))))
  refine wpAny_pure ⟨_, rfl, (fun z => nomatch z), ?_⟩
  simpa using q
end
end DL
end
section
set_option maxRecDepth 100000
set_option maxHeartbeats 2000000
/-! The data layer, part 28: == and != of dicts with tuple keys: the readings. -/
namespace DL
open PySem L2 PySem.W
open Classical
theorem rcN_dicts {prog : Program} {w : World} {κ : Type} [DecidableEq κ] {kd : HeapKind prog w κ} {A : Around} {s : Shared} {a b : Addr} {xa xb : List (κ × Addr × Value)} {r : Bool} (na : (a == sysModules) = false) (nb : (b == sysModules) = false) (da : s.heap.DictOfH kd a xa) (db : s.heap.DictOfH kd b xb) (hu : A.units < cLine) (hu1 : kd.room A.in1)
    (hits : xa.length = xb.length → HitsT prog w A.in1 s xb xa r) (E Q : Value → Shared → Prop) (q : Q (.bool (!(xa.length == xb.length && r))) s) : wpAny (model prog w) A (richCompare .NotEq (.ref a) (.ref b)) Q E s := by
  refine wpAny_richCompare_same_room (op := .NotEq) da.typeIs db.typeIs PySem.F.slot_dict_ne (wpAny_call_entry PySem.F.slot_dict_ne da.typeIs PySem.F.entry_dict_ne ?_ (PySem.F.args_dict_ne_2 _ _)) hu
  show wpAny _ _ (Builtin.Dict.dictSlotArgs "__ne__" ⟨[.ref a, .ref b], []⟩ >>= _) _ _ s
  unfold Builtin.Dict.dictSlotArgs
  refine wpAny_bind (wpAny_bind (wpAny_notOrdered_dict da.typeIs ?_))
  show wpAny _ _ (pure (Value.ref a, Value.ref b)) _ _ s
  refine wpAny_pure (wpAny_bind (wpAny_isInstance (T := "dict") db.typeIs PySem.F.sub_dict_dict ?_))
  simp only [Bool.not_true, Bool.false_eq_true, if_false]
  refine wpAny_bind (wpAny_pure (wpAny_bind (wpAny_pure (wpAny_bind (pairs_same hu1 na nb da db hits ?_)))))
  refine wpAny_pure ⟨_, rfl, (fun z => nomatch z), ?_⟩
  simpa using q
abbrev DPy := List (List Key × PyData)
def lkP : DPy → List Key → Option PyData
  | [], _ => none
  | p :: r, k => if p.1 = k then some p.2 else lkP r k
def eqP1 (ds : DPy) (p : List Key × PyData) : Bool := match lkP ds p.1 with
  | some y => PyData.eqv p.2 y
  | none => false
def eqDP (cs ds : DPy) : Bool := (cs.length == ds.length) && cs.all (eqP1 ds)
/-- what a dict holds, as data -/
structure DicP (K : PySem.W.Frag) (H : Hp) (a : Addr) (ks : List (List Key × V)) (cs : DPy) : Prop where
  rd : Rd H a (.dT ks)
  keys : ks.map (·.1) = cs.map (·.1)
  vals : DpAll K H (ks.map (·.2)) (cs.map (·.2))
  shp : ∀ p ∈ cs, SeqAt.shaped p.2 = true
theorem lkP_is {K : PySem.W.Frag} {H : Hp} {k : List Key} : ∀ {ls : List (List Key × V)} {ds : DPy}, ls.map (·.1) = ds.map (·.1) → DpAll K H (ls.map (·.2)) (ds.map (·.2)) → (∀ c, lkP ds k = some c → ∃ v, valV ls k = some v ∧ Dp K H v c) ∧ (lkP ds k = none → valV ls k = none)
  | [], [], _, _ => ⟨fun c h => (by cases h), fun _ => rfl⟩
  | [], _ :: _, h, _ => by simp at h
  | _ :: _, [], h, _ => by simp at h
  | p :: ls, q :: ds, h, l => by
    simp only [List.map_cons, List.cons.injEq] at h
    cases l with
    | cons i t =>
      by_cases e : q.1 = k
      · refine ⟨fun d hd => ?_, fun hd => ?_⟩
        · simp only [lkP, if_pos e] at hd
          cases hd
          exact ⟨p.2, valV_pos (h.1.trans e), i⟩
        · simp only [lkP, if_pos e] at hd
          cases hd
      · have ih := lkP_is (k := k) h.2 t
        have e' : ¬ p.1 = k := fun z => e (h.1.symm.trans z)
        rw [valV_neg e']
        simp only [lkP, if_neg e]
        exact ih
theorem lkP_mem {k : List Key} {c : PyData} : ∀ {ds : DPy}, lkP ds k = some c → ∃ p ∈ ds, p.2 = c
  | [], h => by cases h
  | p :: ds, h => by
    by_cases e : p.1 = k
    · simp only [lkP, if_pos e] at h
      cases h
      exact ⟨p, by simp, rfl⟩
    · simp only [lkP, if_neg e] at h
      obtain ⟨q, h1, h2⟩ := lkP_mem h
      exact ⟨q, by simp [h1], h2⟩
theorem hits_of {X : Cx} {pins : List (Addr × Obj)} {σ : St} {H : Hp} {s : Shared} {A : Around} {ls : List (List Key × V)} {ds : DPy} {xb : List (List Key × Addr × Value)} (I : Inv X pins σ H s) (hu : A.in1.units + 64 < cLine) (kb : KT H ls xb) (hk : ls.map (·.1) = ds.map (·.1)) (hd : DpAll X.K H (ls.map (·.2)) (ds.map (·.2))) (hs : ∀ p ∈ ds, SeqAt.shaped p.2 = true) :
    ∀ {ks : List (List Key × V)} {cs : DPy} {xa : List (List Key × Addr × Value)}, KT H ks xa → ks.map (·.1) = cs.map (·.1) → DpAll X.K H (ks.map (·.2)) (cs.map (·.2)) → (∀ p ∈ cs, SeqAt.shaped p.2 = true) → HitsT X.prog X.w A.in1 s xb xa (cs.all (eqP1 ds))
  | [], [], _, .nil, _, _, _ => .nil
  | [], _ :: _, _, _, h, _, _ => by simp at h
  | _ :: _, [], _, _, h, _, _ => by simp at h
  | p :: ks, c :: cs, x :: xa, .cons h t, e, l, sh => by
    simp only [List.map_cons, List.cons.injEq] at e
    cases l with
    | cons i l =>
      have ih := hits_of I hu kb hk hd hs t e.2 l fun q hq => sh q (by simp [hq])
      obtain ⟨h1, h2, h3⟩ := h
      have ek : x.1 = c.1 := h1.symm.trans e.1
      have kv := kb.val x.1
      obtain ⟨v1, v2⟩ := lkP_is (k := c.1) hk hd
      rw [List.all_cons]
      cases el : lkP ds c.1 with
      | none =>
        have ev := v2 el
        rw [← ek] at ev
        rw [ev] at kv
        have en : atKey xb x.1 = none := by
          cases ea : atKey xb x.1 with
          | none => rfl
          | some y => rw [ea] at kv; exact kv.elim
        have ef : eqP1 ds c = false := by unfold eqP1; rw [el]
        rw [ef, Bool.false_and]
        exact .miss en
      | some y =>
        obtain ⟨v, ev, dv⟩ := v1 y el
        rw [← ek] at ev
        rw [ev] at kv
        cases ea : atKey xb x.1 with
        | none => rw [ea] at kv; exact kv.elim
        | some z =>
          rw [ea] at kv
          have rz : RelV v z.2 := kv
          have ef : eqP1 ds c = PyData.eqv c.2 y := by unfold eqP1; rw [el]
          obtain ⟨_, r1⟩ := Dp.reads I _ _ _ i h3
          obtain ⟨_, r2⟩ := Dp.reads I _ _ _ dv rz
          obtain ⟨q, hq, eq⟩ := lkP_mem el
          rw [ef]
          exact .hit ea (SeqAt.EqAt.eqP (keq_at r1 r2 (sh c (by simp)) (by rw [← eq]; exact hs q hq) hu)) ih
def rEqT (K : PySem.W.Frag) (neg : Bool) : R2 := fun x y H Q => ∃ a b ks ls cs ds, x = .ref a ∧ y = .ref b ∧ DicP K H a ks cs ∧ DicP K H b ls ds ∧ Q (.bl (if neg then !eqDP cs ds else eqDP cs ds)) H
section
variable {X : Cx}
theorem dic_len {H : Hp} {ks : List (List Key × V)} {cs : DPy} {xa : List (List Key × Addr × Value)} (r : KT H ks xa) (e : ks.map (·.1) = cs.map (·.1)) : xa.length = cs.length := by
  have h1 : ks.length = xa.length := Paired.length r
  have h2 := congrArg List.length e
  rw [List.length_map, List.length_map] at h2
  omega
theorem op_eqT (hu : X.A.units + 66 < cLine) : OpR X (compareOp .Eq) (rEqT X.K false) := by
  intro pins s σ H x y v u Q I rx ry h
  obtain ⟨a, b, ks, ls, cs, ds, rfl, rfl, da, db, q⟩ := h
  cases (show v = Value.ref a from rx)
  cases (show u = Value.ref b from ry)
  obtain ⟨za, na, xa, ra, ta⟩ := dt_rd I.hok da.rd
  obtain ⟨zb, nb, xb, rb, tb⟩ := dt_rd I.hok db.rd
  refine rc_dicts na nb ta tb (by omega) (tupleKind_room_in1 (by omega)) (r := cs.all (eqP1 ds)) (fun _ => hits_of I (by show X.A.units + 1 + 64 < cLine; omega) rb db.keys db.vals db.shp ra da.keys da.vals da.shp) _ _ (fin_bl I q ?_)
  rw [dic_len ra da.keys, dic_len rb db.keys]
  rfl
theorem op_neT (hu : X.A.units + 66 < cLine) : OpR X (compareOp .NotEq) (rEqT X.K true) := by
  intro pins s σ H x y v u Q I rx ry h
  obtain ⟨a, b, ks, ls, cs, ds, rfl, rfl, da, db, q⟩ := h
  cases (show v = Value.ref a from rx)
  cases (show u = Value.ref b from ry)
  obtain ⟨za, na, xa, ra, ta⟩ := dt_rd I.hok da.rd
  obtain ⟨zb, nb, xb, rb, tb⟩ := dt_rd I.hok db.rd
  refine rcN_dicts na nb ta tb (by omega) (tupleKind_room_in1 (by omega)) (r := cs.all (eqP1 ds)) (fun _ => hits_of I (by show X.A.units + 1 + 64 < cLine; omega) rb db.keys db.vals db.shp ra da.keys da.vals da.shp) _ _ (fin_bl I q ?_)
  rw [dic_len ra da.keys, dic_len rb db.keys]
  rfl
end
/-! ### on data -/
def pyD (m : Mem) : List (List Key × D) → Option DPy
  | [] => some []
  | p :: r => match toPy m p.2, pyD m r with
    | some a, some b => some ((p.1, a) :: b)
    | _, _ => none
theorem pyD_ok {K : PySem.W.Frag} {g : Gh} {m : Mem} (rp : Rep K g m) : ∀ {vs : List (List Key × V)} {kvs : List (List Key × D)} {cs : DPy}, vs.map (·.1) = kvs.map (·.1) → IsGL K g m (vs.map (·.2)) (kvs.map (·.2)) → pyD m kvs = some cs → vs.map (·.1) = cs.map (·.1) ∧ DpAll K g.H (vs.map (·.2)) (cs.map (·.2))
  | [], [], _, _, _, h => by cases h; exact ⟨rfl, .nil⟩
  | [], _ :: _, _, h, _, _ => by simp at h
  | _ :: _, [], _, h, _, _ => by simp at h
  | p :: vs, q :: kvs, cs, e, l, h => by
    simp only [List.map_cons, List.cons.injEq] at e
    cases l with
    | cons i t =>
      simp only [pyD] at h
      split at h
      · rename_i a b e1 e2
        cases h
        obtain ⟨h1, h2⟩ := pyD_ok rp e.2 t e2
        exact ⟨by simp only [List.map_cons]; rw [h1, e.1], .cons (toPy_ok rp i e1) h2⟩
      · cases h
def shpAll (cs : DPy) : Bool := cs.all fun p => SeqAt.shaped p.2
def hEqT (neg : Bool) : H2 := fun x y m => match dicT m x, dicT m y with
  | some ks, some ls => (match pyD m ks, pyD m ls with
    | some cs, some ds => if shpAll cs = true ∧ shpAll ds = true then .ok (.bl (if neg then !eqDP cs ds else eqDP cs ds)) m else .bad
    | _, _ => .bad)
  | _, _ => .bad
theorem sd_eqT {K : PySem.W.Frag} (neg : Bool) : OpSd K (rEqT K neg) (hEqT neg) := fun W σ g m x y dx dy Q rp ix iy q => by
  unfold hEqT at q
  split at q
  · rename_i ks ls e1 e2
    split at q
    · rename_i cs ds e3 e4
      split at q
      · rename_i hs
        obtain ⟨a, vs, rfl, rd, hk, il⟩ := dicT_ok rp ix e1
        obtain ⟨b, ws, rfl, rd2, hk2, il2⟩ := dicT_ok rp iy e2
        obtain ⟨p1, p2⟩ := pyD_ok rp hk il e3
        obtain ⟨p3, p4⟩ := pyD_ok rp hk2 il2 e4
        exact ⟨a, b, vs, ws, cs, ds, rfl, rfl, ⟨rd, p1, p2, fun p hp => List.all_eq_true.mp hs.1 p hp⟩, ⟨rd2, p3, p4, fun p hp => List.all_eq_true.mp hs.2 p hp⟩, pre_val rp q (.bl _)⟩
      · exact q.elim
    · exact q.elim
  · exact q.elim
section
variable {X : Cx} {W : WX} {a b : Expr} {fa fb : FE} {pos : Pos} {k : Nat}
theorem units66 {k : Nat} {A : Around} (hr : Room k A) : A.units + 66 < cLine := by have := hr.un; omega
theorem cm_eqD (hr : Room k X.A) (ha : PD X W a fa) (hb : PD X W b fb) : PD X W (.Compare a [.Eq] [b] pos) (eOp (hEqT false) fa fb) := pd_cmp (op_eqT (units66 hr)) (sd_eqT false) ha hb
theorem cm_neD (hr : Room k X.A) (ha : PD X W a fa) (hb : PD X W b fb) : PD X W (.Compare a [.NotEq] [b] pos) (eOp (hEqT true) fa fb) := pd_cmp (op_neT (units66 hr)) (sd_eqT true) ha hb
theorem ct_eqD (hr : Room k X.A) (ha : PD X W a fa) (hb : PD X W b fb) : PDT X W (.Compare a [.Eq] [b] pos) (tTr (eOp (hEqT false) fa fb)) := pdt_cmp (op_eqT (units66 hr)) (sd_eqT false) ha hb
theorem ct_neD (hr : Room k X.A) (ha : PD X W a fa) (hb : PD X W b fb) : PDT X W (.Compare a [.NotEq] [b] pos) (tTr (eOp (hEqT true) fa fb)) := pdt_cmp (op_neT (units66 hr)) (sd_eqT true) ha hb
end
end DL
end
section
set_option maxRecDepth 100000
set_option maxHeartbeats 2000000
/-! The data layer, part 29: binary operators of own classes. -/
namespace DL
open PySem PySem.W PySem.Calls PyProof.Rows Builtin
open AutoSeq1 (wpAny_loadPart')
open MeetsSeq
section
variable {prog : Program} {w : World} {A : Around} {E : Value → Shared → Prop} {s : Shared} {K : Frag} {x C L f dx : Addr} {h₀ : Heap} {m : Str → Option Value} {ox : Obj} {od : Option Obj} {Q : Value → Shared → Prop}
theorem meet_mul (b : Int) (u : Tok) (l C dx : Addr) : Meets (Builtin.«int.__mul__» ⟨[.int b u, .ref l], []⟩) (fun _ R s => s.heap.get? l = some (instObj C dx) ∧ R (.ok (.ret .notImplemented)) s) :=
  .of_wp fun prog w A R s h => by obtain ⟨hp, g, d, tk, os⟩ := s; obtain ⟨hl, h⟩ := h; wp_walk using wpAny_loadPart' hl, wpAny_load hl; exact ⟨_, rfl, h⟩
theorem dec_mul {b : Int} {u : Tok} (I : InstAt s.heap x (instObj C dx) C od) (q : Q .notImplemented s) : wpAny (model prog w) A (call (.builtin "int.__mul__") [.int b u, .ref x]) Q E s :=
  call_meets PySem.F.slot_int_mul (typeIs_int s b u) PySem.F.entry_int_mul (PySem.F.args_int_mul_2 _ _) (meet_mul b u x C dx) ⟨I.at_, q⟩
/-- int * own -/
theorem rmul_K {n : Int} {t : Tok} {f2 : Addr} (F : Fr h₀ L s.heap m) (X₀ : K.In h₀) (I : InstAt s.heap x (instObj C dx) C od) (hc : selfFirst K C = true)
    (hs : findIn K (.ref C) "__mul__" = some (some (.ref f2))) (hr : findIn K (.ref C) "__rmul__" = some (some (.ref f))) (hf : isFn K (.ref f) = true) (hsub : subIn K (.ref C) (.type "int") = some false)
    (h : wpAny (model prog w) A (call (.ref f) [.ref x, .int n t]) (PySem.W.CmpBack Q) E s) : wpAny (model prog w) A (binaryOp .Mult (.int n t) (.ref x)) Q E s := by
  have X := X₀.keeps F.keep
  obtain ⟨cd, rest, hcd, hm⟩ := ksp_first hc
  have hs' : findIn K (.ref C) (PySem.dunder "mul") = some (some (.ref f2)) := hs
  have hr' : findIn K (.ref C) (dunderR "mul") = some (some (.ref f)) := hr
  have one := ksp_try (name := dunderR "mul") X I hr' hf h
  have L3 : Looks (model prog w) s.heap (fillsNumberSlot (.ref C) "mul") true := fills_K X hcd hm hs'
  have L5 : Looks (model prog w) s.heap (isSubtype (.ref C) (.type "int")) false := looks_subIn X hsub
  have hne : (Value.type "int" == Value.ref C) = false := Bool.eq_false_iff.mpr fun q => by cases beq_iff_eq.mp q
  unfold binaryOp
  refine wpAny_holding ?_
  show wpAny _ _ (binaryOp1 "mul" (.int n t) (.ref x) >>= _) _ _ s
  refine wpAny_bind ?_
  unfold binaryOp1
  refine wpAny_bind (wpAny_typeOf (typeIs_int s n t) (wpAny_bind (I.type.here ?_)))
  rw [PySem.F.fills_int_mul]
  refine wpAny_bind (wpAny_pure ?_)
  simp only [hne, Bool.false_eq_true, if_false]
  refine wpAny_bind (L3.here ?_)
  simp only [Bool.and_self, if_true]
  refine wpAny_bind (L5.here ?_)
  simp only [Bool.false_eq_true, if_false]
  refine wpAny_bind (wpAny_pure ?_)
  simp only [Bool.false_eq_true, if_false, Bool.not_false, Bool.and_true, Bool.and_self, if_true]
  refine wpAny_bind (m := tryMethod (.int n t) _ (.ref x)) ?_
  unfold tryMethod
  refine wpAny_bind (wpAny_callSpecial?_slot (typeIs_int s n t) PySem.F.slot_int_mul (dec_mul I (wpAny_pure ?_)))
  dsimp only
  refine wpAny_bind (wpAny_mono one (fun r s' hr' => ?_) fun _ _ e => e)
  obtain ⟨v, rfl, hq⟩ := hr'
  refine wpAny_bind (wpAny_rule (wpAny_pure (wpAny_pure hq)))
end
end DL
namespace DL
open PySem L2
open Classical
/-- facts of a class whose methods serve + - * -/
structure BinOk (K : PySem.W.Frag) (c : Str) (nm : String) : Prop where
  first : PySem.W.selfFirst K (He.ga K c) = true
  refl : ∃ rc, PySem.W.findIn K (.ref (He.ga K c)) (PySem.dunderR nm) = some rc ∧ (rc = none ∨ ∃ g : Addr, rc = some (.ref g))
  intF : ∃ fo, PySem.W.findIn K (.type "int") (PySem.dunder nm) = some fo
  intR : ∃ ro, PySem.W.findIn K (.type "int") (PySem.dunderR nm) = some ro
noncomputable def hBin (c : Str) (F : HL) : H2 := fun x y m => if isC c m x ∧ isC c m y then F [x, y] m else .bad
def isInt : D → Prop
  | .int _ => True
  | _ => False
noncomputable def hBinI (c : Str) (F : HL) : H2 := fun x y m => if isC c m x ∧ isInt y then F [x, y] m else .bad
noncomputable def hRBin (c : Str) (F : HL) : H2 := fun x y m => if isC c m y ∧ isInt x then F [y, x] m else .bad
def rBin (K : PySem.W.Frag) (c : Str) (n : Nat) (F : HL) (E : XK) : R2 := fun x y H Q => ∃ a dx fs b dy gs, x = .ref a ∧ H a = some (.ins (He.ga K c) dx fs) ∧ y = .ref b ∧ H b = some (.ins (He.ga K c) dy gs) ∧ spD K n F [x, y] H Q E
def rBinI (K : PySem.W.Frag) (c : Str) (n : Nat) (F : HL) (E : XK) : R2 := fun x y H Q => ∃ a dx fs i, x = .ref a ∧ H a = some (.ins (He.ga K c) dx fs) ∧ y = .int i ∧ spD K n F [x, y] H Q E
def rRBin (K : PySem.W.Frag) (c : Str) (n : Nat) (F : HL) (E : XK) : R2 := fun x y H Q => ∃ a dx fs i, y = .ref a ∧ H a = some (.ins (He.ga K c) dx fs) ∧ x = .int i ∧ spD K n F [y, x] H Q E
section
variable {X : Cx} {W : WX} {k : Nat} {c : Str} {ps : List Str} {F : HL} {own : List Str}
theorem bin_sd (hW : Flat W) (h2 : ps.length = 2) {σ σ0 : St} {g : Gh} {m : Mem} {x y : V} {dx dy : D} {Q : VK} (rp : Rep X.K g m) (ix : IsG X.K g m x dx) (iy : IsG X.K g m y dy) (q : Pre (RE X.K) X.K W σ g m Q (hBin c F dx dy m)) : rBin X.K c ps.length F (WE W σ0) x y g.H Q := by
  unfold hBin at q
  split at q
  · rename_i hcc
    obtain ⟨⟨fs, e1⟩, gs, e2⟩ := hcc
    obtain ⟨a, dd, vs, rfl, h1, _⟩ := insV_ok rp ix e1
    obtain ⟨b, de, ws, rfl, w1, _⟩ := insV_ok rp iy e2
    exact ⟨a, dd, vs, b, de, ws, rfl, h1, rfl, w1, by rw [h2]; rfl, g, m, [dx, dy], rfl, rp, .cons ix (.cons iy .nil), (Pre.flat (σ' := σ0) hW q).at⟩
  · exact q.elim
theorem binI_sd (hW : Flat W) (h2 : ps.length = 2) {σ σ0 : St} {g : Gh} {m : Mem} {x y : V} {dx dy : D} {Q : VK} (rp : Rep X.K g m) (ix : IsG X.K g m x dx) (iy : IsG X.K g m y dy) (q : Pre (RE X.K) X.K W σ g m Q (hBinI c F dx dy m)) : rBinI X.K c ps.length F (WE W σ0) x y g.H Q := by
  unfold hBinI at q
  split at q
  · rename_i hcc
    obtain ⟨⟨fs, e1⟩, hi⟩ := hcc
    obtain ⟨a, dd, vs, rfl, h1, _⟩ := insV_ok rp ix e1
    cases iy <;> try exact hi.elim
    exact ⟨a, dd, vs, _, rfl, h1, rfl, by rw [h2]; rfl, g, m, [dx, _], rfl, rp, .cons ix (.cons (.int _) .nil), (Pre.flat (σ' := σ0) hW q).at⟩
  · exact q.elim
theorem rbin_sd (hW : Flat W) (h2 : ps.length = 2) {σ σ0 : St} {g : Gh} {m : Mem} {x y : V} {dx dy : D} {Q : VK} (rp : Rep X.K g m) (ix : IsG X.K g m x dx) (iy : IsG X.K g m y dy) (q : Pre (RE X.K) X.K W σ g m Q (hRBin c F dx dy m)) : rRBin X.K c ps.length F (WE W σ0) x y g.H Q := by
  unfold hRBin at q
  split at q
  · rename_i hcc
    obtain ⟨⟨fs, e1⟩, hi⟩ := hcc
    obtain ⟨a, dd, vs, rfl, h1, _⟩ := insV_ok rp iy e1
    cases ix <;> try exact hi.elim
    exact ⟨a, dd, vs, _, rfl, h1, rfl, by rw [h2]; rfl, g, m, [dy, _], rfl, rp, .cons iy (.cons (.int _) .nil), (Pre.flat (σ' := σ0) hW q).at⟩
  · exact q.elim
theorem ow_bin {op : Operator} {mn : Str} (G : Met1 X.prog X.w X.K X.mg X.base k c mn ps [] F) (hr : Room k X.A) (tk : Takes X W) (hW : Flat W) (B : BinOk X.K c op.info.2) (h2 : ps.length = 2) (hmn : PySem.dunder op.info.2 = mn) : OW X W (binaryOp op) (hBin c F) := by
  obtain ⟨f, fd, hm, hF, hb⟩ := met_open G
  refine ⟨⟨rBin X.K c ps.length F (WE W []), ?_, fun σ g m x y dx dy Q rp ix iy q => bin_sd hW h2 rp ix iy q⟩⟩
  intro pins s σ H x y v u Q I rx ry q
  obtain ⟨a, dx, fs, b, dy, gs, rfl, ha, rfl, hb2, sp⟩ := q
  cases (show v = Value.ref a from rx)
  cases (show u = Value.ref b from ry)
  obtain ⟨mA, J, _⟩ := ins_get I.hok ha
  obtain ⟨od, J, _⟩ := J.look
  obtain ⟨mB, JB, _⟩ := ins_get I.hok hb2
  obtain ⟨od2, JB, _⟩ := JB.look
  obtain ⟨m, hFr⟩ := I.fr
  refine PySem.W.binop_K (op := op) hFr I.ok.mod.kin J JB.type B.first (by rw [hmn]; exact hm.at_) hm.fn ?_
  exact wpAny_mono (run_at hF ⟨hr, rfl⟩ hb tk hW I (.cons rx (.cons ry .nil)) sp) (fun w s' z => ep_cmp z) fun _ _ e => e
theorem ow_binI {op : Operator} {mn : Str} (G : Met1 X.prog X.w X.K X.mg X.base k c mn ps [] F) (hr : Room k X.A) (tk : Takes X W) (hW : Flat W) (kt : KitOk X.K own) (hc : c ∈ own) (B : BinOk X.K c op.info.2) (h2 : ps.length = 2) (hmn : PySem.dunder op.info.2 = mn) : OW X W (binaryOp op) (hBinI c F) := by
  obtain ⟨f, fd, hm, hF, hb⟩ := met_open G
  refine ⟨⟨rBinI X.K c ps.length F (WE W []), ?_, fun σ g m x y dx dy Q rp ix iy q => binI_sd hW h2 rp ix iy q⟩⟩
  intro pins s σ H x y v u Q I rx ry q
  obtain ⟨a, dx, fs, i, rfl, ha, rfl, sp⟩ := q
  cases (show v = Value.ref a from rx)
  have ry' := ry
  obtain ⟨t, rfl⟩ := ry'
  obtain ⟨mA, J, _⟩ := ins_get I.hok ha
  obtain ⟨od, J, _⟩ := J.look
  obtain ⟨m, hFr⟩ := I.fr
  obtain ⟨rc, e1, e2⟩ := B.refl
  obtain ⟨fo, e3⟩ := B.intF
  obtain ⟨ro, e4⟩ := B.intR
  refine PySem.W.ksp_binT (op := op) (T := "int") hFr I.ok.mod.kin J rfl B.first (by rw [hmn]; exact hm.at_) hm.fn e1 e2 e3 e4 (sub_of_kit (kt.bo "int" (by decide) c hc)) ?_
  exact wpAny_mono (run_at hF ⟨hr, rfl⟩ hb tk hW I (.cons rx (.cons ry .nil)) sp) (fun w s' z => ep_cmp z) fun _ _ e => e
theorem ow_rbin {ps2 : List Str} {F2 : HL} {k2 : Nat} (G : Met1 X.prog X.w X.K X.mg X.base k c "__rmul__" ps [] F) (G2 : Met1 X.prog X.w X.K X.mg X.base k2 c "__mul__" ps2 [] F2) (hr : Room k X.A) (tk : Takes X W) (hW : Flat W) (kt : KitOk X.K own) (hc : c ∈ own) (B : BinOk X.K c "mul") (h2 : ps.length = 2) : OW X W (binaryOp .Mult) (hRBin c F) := by
  obtain ⟨f, fd, hm, hF, hb⟩ := met_open G
  obtain ⟨f2, fd2, hm2, _, _⟩ := met_open G2
  refine ⟨⟨rRBin X.K c ps.length F (WE W []), ?_, fun σ g m x y dx dy Q rp ix iy q => rbin_sd hW h2 rp ix iy q⟩⟩
  intro pins s σ H x y v u Q I rx ry q
  obtain ⟨a, dx, fs, i, rfl, ha, rfl, sp⟩ := q
  cases (show u = Value.ref a from ry)
  have rx' := rx
  obtain ⟨t, rfl⟩ := rx'
  obtain ⟨mA, J, _⟩ := ins_get I.hok ha
  obtain ⟨od, J, _⟩ := J.look
  obtain ⟨m, hFr⟩ := I.fr
  refine rmul_K hFr I.ok.mod.kin J B.first hm2.at_ hm.at_ hm.fn (sub_of_kit (kt.ob c hc "int" (by decide))) ?_
  exact wpAny_mono (run_at hF ⟨hr, rfl⟩ hb tk hW I (.cons ry (.cons rx .nil)) sp) (fun w s' z => ep_cmp z) fun _ _ e => e
end
/-! the facts, told by a Bool -/
def exBin (K : PySem.W.Frag) (c : Str) (nm : String) : Bool :=
  PySem.W.selfFirst K (He.ga K c) && ((match PySem.W.findIn K (.ref (He.ga K c)) (PySem.dunderR nm) with
    | some none => true
    | some (some (.ref _)) => true
    | _ => false) && ((PySem.W.findIn K (.type "int") (PySem.dunder nm)).isSome && (PySem.W.findIn K (.type "int") (PySem.dunderR nm)).isSome))
theorem exBin_ok {K : PySem.W.Frag} {c : Str} {nm : String} (h : exBin K c nm = true) : BinOk K c nm := by
  obtain ⟨h1, h⟩ := band h
  obtain ⟨h2, h⟩ := band h
  obtain ⟨h3, h4⟩ := band h
  refine ⟨h1, ?_, Option.isSome_iff_exists.mp h3, Option.isSome_iff_exists.mp h4⟩
  split at h2
  · rename_i e; exact ⟨none, e, .inl rfl⟩
  · rename_i g e; exact ⟨_, e, .inr ⟨g, rfl⟩⟩
  · cases h2
end DL
end
section
set_option maxRecDepth 100000
set_option maxHeartbeats 2000000
/-! The data layer, part 30: x in a list of deep data; the values of a dict with tuple keys. -/
namespace DL
open PySem L2
open Classical
/-! ### x in xs, data of any depth -/
def hInD (neg : Bool) : H2 := fun x y m => match toPyM m x, toPyM m y with
  | some a, some (.list bs) => if SeqAt.shaped a = true ∧ SeqAt.shaped (.list bs) = true then .ok (.bl (if neg then !bs.any (fun z => PyData.eqv z a) else bs.any fun z => PyData.eqv z a)) m else .bad
  | _, _ => .bad
theorem sd_inD {K : PySem.W.Frag} : OpSd K (rInD K) (hInD false) := fun W σ g m x y dx dy Q rp ix iy q => by
  unfold hInD at q
  split at q
  · rename_i a bs e1 e2
    split at q
    · rename_i hs
      exact ⟨a, bs, toPyM_ok rp ix e1, toPyM_ok rp iy e2, hs.1, hs.2, pre_val rp q (.bl _)⟩
    · exact q.elim
  · exact q.elim
theorem sd_ninD {K : PySem.W.Frag} : OpSd K (rNotInD K) (hInD true) := fun W σ g m x y dx dy Q rp ix iy q => by
  unfold hInD at q
  split at q
  · rename_i a bs e1 e2
    split at q
    · rename_i hs
      exact ⟨a, bs, toPyM_ok rp ix e1, toPyM_ok rp iy e2, hs.1, hs.2, pre_val rp q (.bl _)⟩
    · exact q.elim
  · exact q.elim
section
variable {X : Cx} {W : WX} {a b : Expr} {fa fb : FE} {pos : Pos} {k : Nat}
theorem units65 {k : Nat} {A : Around} (hr : Room k A) : A.units + 65 < cLine := by have := hr.un; omega
theorem cm_inP (hr : Room k X.A) (ha : PD X W a fa) (hb : PD X W b fb) (hm : behindInMarks .In b = false := by rfl) : PD X W (.Compare a [.In] [b] pos) (eOp (hInD false) fa fb) := pd_cmp (op_inD (units65 hr)) sd_inD ha hb hm
theorem cm_ninP (hr : Room k X.A) (ha : PD X W a fa) (hb : PD X W b fb) (hm : behindInMarks .NotIn b = false := by rfl) : PD X W (.Compare a [.NotIn] [b] pos) (eOp (hInD true) fa fb) := pd_cmp (op_notInD (units65 hr)) sd_ninD ha hb hm
theorem ct_inP (hr : Room k X.A) (ha : PD X W a fa) (hb : PD X W b fb) (hm : behindInMarks .In b = false := by rfl) : PDT X W (.Compare a [.In] [b] pos) (tTr (eOp (hInD false) fa fb)) := pdt_cmp (op_inD (units65 hr)) sd_inD ha hb hm
theorem ct_ninP (hr : Room k X.A) (ha : PD X W a fa) (hb : PD X W b fb) (hm : behindInMarks .NotIn b = false := by rfl) : PDT X W (.Compare a [.NotIn] [b] pos) (tTr (eOp (hInD true) fa fb)) := pdt_cmp (op_notInD (units65 hr)) sd_ninD ha hb hm
end
/-! ### d.values() -/
def Jv (d : Addr) (o : Obj) (kvs : List (List Key × V)) : It :=
  ⟨fun i H => H d = some (.frz o (.dT kvs)) ∧ i < kvs.length, fun i H x H' => H' = H ∧ ∃ ks, kvs[i]? = some (ks, x), fun i H => H d = some (.frz o (.dT kvs)) ∧ kvs.length ≤ i⟩
theorem turn_valsT {P : Program} {w : World} {K : PySem.W.Frag} {tg : Expr} {d : Addr} {o : Obj} {es0 : Array DictEntry} {ep0 : Nat} {kvs : List (List Key × V)} (it : Addr) (hod : o.data = .dict es0 ep0) :
    Turn P w K tg (Jv d o kvs) [it] it (fun i h => h.IsValIter it d i kvs.length ep0) where
  mem := by simp
  obj := by
    rintro i h st c hc
    rw [List.mem_singleton] at hc
    subst hc
    obtain ⟨oi, e, cc, dd⟩ := st
    exact ⟨oi, e, fun v z => by rw [dd] at z; cases z⟩
  keep := fun i h h' st k => st.at fun oi e => k it (by simp) oi e
  item := by
    intro X hP hw hK hc i pins s σ H E I hf st hg
    subst hP hw hK
    obtain ⟨hd, hi⟩ := hg
    obtain ⟨f0, f1, f2, f3, f4, f5⟩ := hf it (by simp)
    obtain ⟨hs, es, ep, hraw, hdt, hsz, ent⟩ := frzT2 I hd
    obtain ⟨rfl, rfl⟩ := dict_ep hod hdt
    obtain ⟨⟨ks, v⟩, hkv⟩ : ∃ p, kvs[i]? = some p := ⟨kvs[i], List.getElem?_eq_getElem hi⟩
    have hi' : i < es.size := by rw [hsz]; exact hi
    obtain ⟨q, hkey, hq, rv⟩ := ent i hi' ks v hkv
    rw [← hsz] at st
    refine wpAny_pyNext_values_item_raw st hraw hi' fun h' st' sb => ?_
    have I1 : Inv X pins σ H { s with heap := h' } := I.turned (t' := s.toks) (fun b ob hb e => (sb.2 b hb).trans e) f0 f1 f3 f4 f5
    obtain ⟨oi, e, c, dd⟩ := id st'
    refine ⟨_, rfl, go_of (s := { s with heap := h' }) e c dd (by decide) ⟨v, H, I1, rv, ⟨rfl, ks, hkv⟩, ?_, fun b hb => (hf b hb).1⟩⟩
    rw [← hsz]
    exact st'
  done := by
    intro X hP hw hK hc i pins s σ H E I hf st hg
    subst hP hw hK
    obtain ⟨hd, hi⟩ := hg
    obtain ⟨f0, f1, f2, f3, f4, f5⟩ := hf it (by simp)
    obtain ⟨hs, es, ep, hraw, hdt, hsz, ent⟩ := frzT2 I hd
    obtain ⟨rfl, rfl⟩ := dict_ep hod hdt
    rw [← hsz] at st
    exact wpAny_pyNext_values_end_raw (I.ok.hd hc) st hraw (by rw [hsz]; exact hi) fun h' eb => ⟨rfl, I.turned (t' := s.toks) eb f0 f1 f3 f4 f5⟩
  self := fun A i s Q E st h => wpAny_pyIter_valiter st h
def iValsL (td : TE) : TI := fun σ H R => td σ H fun x H1 => ∃ d kvs, x = .ref d ∧ ((H1 d = some (.dT kvs) ∧ (kvs.length ≤ sizeLine → ∀ o, R (Jv d o kvs) (upd H1 d (.frz o (.dT kvs))))) ∨ ∃ o, H1 d = some (.frz o (.dT kvs)) ∧ (kvs.length ≤ sizeLine → R (Jv d o kvs) H1))
theorem pie_vals {X : Cx} {tg : Expr} {cpos : Pos} {pins : List (Addr × Obj)} {σ : St} {H : Hp} {s : Shared} {d : Addr} {o : Obj} {kvs : List (List Key × V)} {R : It → Hp → Prop} (I : Inv X pins σ H s) (h : H d = some (.frz o (.dT kvs))) (q : R (Jv d o kvs) H) :
    wpAny (model X.prog X.w) X.A (callWith cpos (.builtin "dict.values") [.ref d] [] []) (fun v s1 => wpAny (model X.prog X.w) X.A (pyIter v) (PIE X pins σ tg R) X.xe s1) X.xe s := by
  obtain ⟨hs, es, ep, hraw, hdt, hsz, ent⟩ := frzT2 I h
  have I2 : Inv X pins σ H { s with heap := s.heap.push { cls := .type "dict_values", data := .fields #[.ref d] } } := I.kept (t' := s.toks) fun b ob e => Heap.get?_push_of_some _ e
  refine method_meetsIn F.slot_dict_values F.entry_dict_values rfl (PySem.evalArgs_none ⟨rfl, hraw.typeIs, F.args_dict_values_1 _, _, meets_dict_values_raw d hs, ⟨es, ep, hraw⟩, ?_⟩)
  refine wpAny_pyIter_values_raw (d := d) ⟨_, Heap.get?_push_size _ rfl, rfl, rfl⟩ (hraw.at fun ob e => Heap.get?_push_of_some _ e) (pi_one (tk := s.toks) I2 _ (turn_valsT _ hdt) ⟨_, Heap.get?_push_size _ rfl, rfl, ?_⟩ q)
  rw [← hsz]
  rfl
theorem pi_valsL {X : Cx} {tg e : Expr} {td : TE} {apos cpos : Pos} (he : PE X e td) (hbase : attributeBase e "values" X.env (eval e X.env) = eval e X.env := by rfl) (hline : (apos.endLine == cpos.line) = true := by rfl) :
    PI X tg (.Call (.Attribute e "values" apos) [] [] cpos) (iValsL td) := by
  refine ⟨fun pins s σ H R I h => wpAny_Call_method (T := "dict") (id := "dict.values") hbase rfl hline F.plainAttrs_dict F.slot_dict_values F.type_dict_values (thn (he.run pins s σ H _ I h) fun u s1 ⟨x, H1, I1, rx, d, kvs, ex, q⟩ => ?_)⟩
  subst ex
  cases (show u = Value.ref d from rx)
  rcases q with ⟨hd, q⟩ | ⟨o, hd, q⟩
  · obtain ⟨od, I2⟩ := I1.lock hd True.intro
    obtain ⟨_, es, ep, hraw, _⟩ := frzT2 I2 upd_same
    refine ⟨hraw.typeIs, ?_, pie_vals I2 upd_same (q (dT_len I1 (.inl hd)) od)⟩
    rintro b ⟨⟩
    obtain ⟨ob, hob, hx, _⟩ := hraw
    exact ⟨ob, hob, hx.2.1⟩
  · obtain ⟨_, es, ep, hraw, _⟩ := frzT2 I1 hd
    refine ⟨hraw.typeIs, ?_, pie_vals I1 hd (q (dT_len I1 (.inr ⟨o, hd⟩)))⟩
    rintro b ⟨⟩
    obtain ⟨ob, hob, hx, _⟩ := hraw
    exact ⟨ob, hob, hx.2.1⟩
theorem iter_dv {K : PySem.W.Frag} {g : Gh} {m : Mem} {d : Addr} {o : Obj} {vs : List (List Key × V)} {kvs : List (List Key × D)} (hz : vs.length ≤ sizeLine) (h : g.H d = some (.frz o (.dT vs))) (hk : vs.map (·.1) = kvs.map (·.1)) (il : IsGL K g m (vs.map (·.2)) (kvs.map (·.2))) : IterOk K (Jv d o vs) g m (kvs.map (·.2)) where
  sz := by
    have := congrArg List.length hk
    rw [List.length_map, List.length_map] at this
    rw [List.length_map]
    omega
  go := fun g' m' rp le i x e => by
    obtain ⟨w, hw, iw⟩ := (il.lw le).get e
    rw [List.getElem?_map] at hw
    obtain ⟨p, hp, rfl⟩ := Option.map_eq_some_iff.mp hw
    refine ⟨⟨le.frz _ _ _ h, (List.getElem?_eq_some_iff.mp hp).1⟩, fun v H' y => ?_⟩
    obtain ⟨rfl, ks, h1⟩ := y
    rw [hp] at h1
    cases h1
    exact ⟨g', rfl, rp, Le.refl _ _, iw⟩
  stop := fun g' m' rp le => by
    refine ⟨le.frz _ _ _ h, ?_⟩
    have := congrArg List.length hk
    rw [List.length_map, List.length_map] at this
    rw [List.length_map]
    omega
def valsI (x : D) (m : Mem) : Res (List D) := match dicW m x with
  | some kvs => .ok (kvs.map (·.2)) m
  | none => .bad
def iVl (a : FE) : FI := fun ρ m => (a ρ m).bind fun x m1 => valsI x m1
theorem pdi_vals {X : Cx} {W : WX} {tg e : Expr} {f : FE} {apos cpos : Pos} (h : PD X W e f) (hb : attributeBase e "values" X.env (eval e X.env) = eval e X.env := by rfl) (hline : (apos.endLine == cpos.line) = true := by rfl) : PDI X W tg (.Call (.Attribute e "values" apos) [] [] cpos) (iVl f) := by
  obtain ⟨t, p, s⟩ := h.ex
  refine ⟨⟨_, pi_valsL p hb hline, fun g m σ ρ R rp en q => s g m σ ρ _ rp en (pre_bind q fun g1 m1 x dx rp1 l1 ix q1 => ?_)⟩⟩
  unfold valsI at q1
  split at q1
  · rename_i kvs ek
    obtain ⟨d, vs, rfl, hk, il, ho⟩ := dicW_ok rp1 ix ek
    refine ⟨d, vs, rfl, ?_⟩
    rcases ho with ⟨hd, ho⟩ | ⟨o, hd⟩
    · exact .inl ⟨hd, fun hz o => q1 _ _ (ho o).1 (ho o).2 (iter_dv hz upd_same hk (il.le (ho o).2))⟩
    · exact .inr ⟨o, hd, fun hz => q1 g1 _ rp1 (Le.refl _ _) (iter_dv hz hd hk il)⟩
  · exact q1.elim
end DL
end
section
set_option maxRecDepth 100000
set_option maxHeartbeats 2000000
/-! The data layer, part 31: lists taken apart; three names at once; a sign in a text; == of lists of dicts. -/
namespace DL
open PySem L2 PySem.W
open Classical
def gL (n : Nat) (f : FGs) : FG := fun d ρ m => match lstV m d with
  | some xs => if xs.length = n then f xs ρ m else .bad
  | none => .bad
section
variable {X : Cx} {W : WX} {pos : Pos}
theorem pdg_lst {es : List Expr} {k n : Nat} {f : FGs} {is : List Nat} (hc : X.calm = true) (h : PDGs X W es f is) (hn : (assignEach es X.env).length = n := by rfl) (hst : (assignEach es X.env).findIdx? (·.1) = none := by rfl) : PDG X W (.Tuple es k pos) (gL n f) is := by
  obtain ⟨t, p, s⟩ := h.ex
  refine ⟨⟨_, pg_unl hc p hn hst, fun g m σ ρ v d Q rp en iv q => ?_⟩⟩
  unfold gL at q
  split at q
  · rename_i xs ex
    split at q
    · rename_i hl
      obtain ⟨a, vs, rfl, sq, hz, il⟩ := lstV_ok rp iv ex
      exact ⟨_, _, rfl, sq, by rw [il.length]; exact hl, s g m σ ρ _ _ Q rp en il q⟩
    · exact q.elim
  · exact q.elim
theorem pds_par3 (i j l : Nat) {x y z : Str} {a b c : Expr} {fa : FA} {px py pz pt : Pos} {kt k2 pt2} (hc : X.calm = true) (hN : X.N.Nodup) (ha : PDA X W [a, b, c] fa) (hi : X.N[i]? = some x := by rfl) (hj : X.N[j]? = some y := by rfl) (hl : X.N[l]? = some z := by rfl) (hij : i ≠ j := by decide) (hil : i ≠ l := by decide) (hjl : j ≠ l := by decide)
    (hx : X.env.scope.names.lookup x = some .local := by rfl) (hy : X.env.scope.names.lookup y = some .local := by rfl) (hz : X.env.scope.names.lookup z = some .local := by rfl)
    (hw : swappedStores [.Tuple [.Name x px, .Name y py, .Name z pz] kt pt] (.Tuple [a, b, c] k2 pt2) X.env = pure (some [x, y, z]) := by rfl)
    (hs : swapsWithSole [.Tuple [.Name x px, .Name y py, .Name z pz] kt pt] (.Tuple [a, b, c] k2 pt2) pos.line X.env = pure false := by rfl) :
    PDS X W (.Assign [.Tuple [.Name x px, .Name y py, .Name z pz] kt pt] (.Tuple [a, b, c] k2 pt2) pos) (sPar3 i j l fa) := by
  obtain ⟨t, p, s⟩ := ha.ex
  refine ⟨⟨_, ps_par3 hc hN hi hj hl hij hil hjl hx hy hz p hw hs, fun g m σ ρ D rp en q => s g m σ ρ _ rp en (preS_on en q fun g1 m1 vs ds rp1 l1 il q1 => ?_)⟩⟩
  cases il with
  | nil => exact q1.elim
  | cons i1 il =>
    cases il with
    | nil => exact q1.elim
    | cons i2 il =>
      cases il with
      | nil => exact q1.elim
      | cons i3 il =>
        cases il with
        | cons _ _ => exact q1.elim
        | nil => exact ⟨_, _, _, rfl, q1 g1 _ rp1 (Le.refl _ _) ((((en.le l1).set i i1).set j i2).set l i3)⟩
end
/-! ### a sign in a text -/
def sign1 (s : Str) : Option Nat := match s.cps.toList with
  | [c] => some c
  | _ => none
theorem sign1_ok {s : Str} {c : Nat} (h : sign1 s = some c) : s = ⟨#[c]⟩ := by
  unfold sign1 at h
  split at h
  · rename_i c' e
    cases h
    cases s with
    | mk cps =>
      congr 1
      exact Array.toList_inj.mp e
  · cases h
def hInS (neg : Bool) : H2 := fun x y m => match x, y with
  | .str s, .str z => (match sign1 s with
    | some c => .ok (.bl (if neg then !decide (c ∈ z.cps.toList) else decide (c ∈ z.cps.toList))) m
    | none => .bad)
  | _, _ => .bad
theorem sd_inS {K : PySem.W.Frag} : OpSd K (fun x y H Q => ∃ (c : Nat) (z : Str), x = .str ⟨#[c]⟩ ∧ y = .str z ∧ Q (.bl (decide (c ∈ z.cps.toList))) H) (hInS false) := fun W σ g m x y dx dy Q rp ix iy q => by
  unfold hInS at q
  split at q
  · rename_i s z
    split at q
    · rename_i c ec
      cases ix
      cases iy
      exact ⟨c, z, by rw [sign1_ok ec], rfl, pre_val rp q (.bl _)⟩
    · exact q.elim
  · exact q.elim
section
variable {X : Cx} {W : WX} {a b : Expr} {fa fb : FE} {pos : Pos} {k : Nat}
theorem cm_inS (ha : PD X W a fa) (hb : PD X W b fb) (hm : behindInMarks .In b = false := by rfl) : PD X W (.Compare a [.In] [b] pos) (eOp (hInS false) fa fb) := pd_cmp op_in_sign sd_inS ha hb hm
end
/-! ### == of lists of dicts that are equal -/
def pyDs (m : Mem) : D → Option DPy := fun d => match dicT m d with
  | some ks => pyD m ks
  | none => none
def eqTs (m : Mem) : List D → List D → Bool
  | [], [] => true
  | x :: xs, y :: ys => (match pyDs m x, pyDs m y with
    | some cs, some ds => shpAll cs && shpAll ds && eqDP cs ds
    | _, _ => false) && eqTs m xs ys
  | _, _ => false
def hEqTs : H2 := fun x y m => match lstV m x, lstV m y with
  | some xs, some ys => if eqTs m xs ys = true then .ok (.bl true) m else .bad
  | _, _ => .bad
def EqTV (K : PySem.W.Frag) (H : Hp) (x y : V) : Prop := ∃ a b ks ls cs ds, x = .ref a ∧ y = .ref b ∧ DicP K H a ks cs ∧ DicP K H b ls ds ∧ eqDP cs ds = true
def rEqTs (K : PySem.W.Frag) : R2 := fun x y H Q => ∃ a b xs ys, x = .ref a ∧ y = .ref b ∧ SqL K H a xs ∧ SqL K H b ys ∧ Paired (EqTV K H) xs ys ∧ Q (.bl true) H
theorem op_eqTs {X : Cx} (hu : X.A.units + 70 < cLine) : OpR X (compareOp .Eq) (rEqTs X.K) := by
  intro pins s σ H x y v u Q I rx ry h
  obtain ⟨a, b, xs, ys, rfl, rfl, ha, hb, hp, q⟩ := h
  cases (show v = Value.ref a from rx)
  cases (show u = Value.ref b from ry)
  obtain ⟨us, r1, p1, _⟩ := I.list ha
  obtain ⟨ws, r2, p2, _⟩ := I.list hb
  have hsz : us.toArray.size = ws.toArray.size := by
    rw [List.size_toArray, List.size_toArray, ← r1.length, ← r2.length]
    exact Paired.length hp
  have ih : ∀ x y v u, EqTV X.K H x y → RelV x v → RelV y u → SeqAt.EqP X.prog X.w X.A.in1 s v u true := fun x y v u h rx ry => by
    obtain ⟨a, b, ks, ls, cs, ds, rfl, rfl, da, db, e⟩ := h
    cases (show v = Value.ref a from rx)
    cases (show u = Value.ref b from ry)
    by_cases eab : a = b
    · subst eab
      exact (SeqAt.EqAt.same _).eqP
    · obtain ⟨za, na, xa, ra, ta⟩ := dt_rd I.hok da.rd
      obtain ⟨zb, nb, xb, rb, tb⟩ := dt_rd I.hok db.rd
      refine SeqAt.eqP_refs eab fun E Q q => ?_
      refine rc_dicts na nb ta tb (by show X.A.units + 1 < cLine; omega) (tupleKind_room_in1 (by show X.A.units + 1 + 1 < cLine; omega)) (r := cs.all (eqP1 ds)) (fun _ => hits_of I (by show X.A.units + 1 + 1 + 64 < cLine; omega) rb db.keys db.vals db.shp ra da.keys da.vals da.shp) _ _ ?_
      rw [dic_len ra da.keys, dic_len rb db.keys]
      unfold eqDP at e
      rw [e]
      exact q
  refine SeqAt.rcP_lists (e := fun _ => true) p1.isList p2.isList hsz (by omega) (fun j h1 h2 => ?_) _ _ ?_
  · have k := items_run ih hp r1 r2 j (by simpa using h1) (by simpa using h2)
    simpa using k
  · rw [show ((List.range us.toArray.size).all fun _ => true) = true from List.all_eq_true.mpr fun _ _ => rfl]
    exact ⟨.bl true, H, I, rfl, q⟩
theorem eqTs_ok {K : PySem.W.Frag} {g : Gh} {m : Mem} (rp : Rep K g m) : ∀ {vs ws : List V} {xs ys : List D}, IsGL K g m vs xs → IsGL K g m ws ys → eqTs m xs ys = true → Paired (EqTV K g.H) vs ws
  | [], [], [], [], .nil, .nil, _ => .nil
  | v :: vs, w :: ws, x :: xs, y :: ys, .cons i l, .cons i2 l2, h => by
    simp only [eqTs, Bool.and_eq_true] at h
    obtain ⟨h1, h2⟩ := h
    refine .cons ?_ (eqTs_ok rp l l2 h2)
    split at h1
    · rename_i cs ds e1 e2
      simp only [Bool.and_eq_true] at h1
      unfold pyDs at e1 e2
      split at e1
      · rename_i ks ek
        split at e2
        · rename_i ls el
          obtain ⟨a, vs, rfl, rd, hk, il⟩ := dicT_ok rp i ek
          obtain ⟨b, ws, rfl, rd2, hk2, il2⟩ := dicT_ok rp i2 el
          obtain ⟨p1, p2⟩ := pyD_ok rp hk il e1
          obtain ⟨p3, p4⟩ := pyD_ok rp hk2 il2 e2
          exact ⟨a, b, vs, ws, cs, ds, rfl, rfl, ⟨rd, p1, p2, fun p hp => List.all_eq_true.mp h1.1.1 p hp⟩, ⟨rd2, p3, p4, fun p hp => List.all_eq_true.mp h1.1.2 p hp⟩, h1.2⟩
        · cases e2
      · cases e1
    · cases h1
  | [], _ :: _, [], _ :: _, _, _, h => by cases h
  | _ :: _, [], _ :: _, [], _, _, h => by cases h
theorem sd_eqTs {K : PySem.W.Frag} : OpSd K (rEqTs K) hEqTs := fun W σ g m x y dx dy Q rp ix iy q => by
  unfold hEqTs at q
  split at q
  · rename_i xs ys e1 e2
    split at q
    · rename_i h
      obtain ⟨a, vs, rfl, s1, _, l1⟩ := lstV_ok rp ix e1
      obtain ⟨b, ws, rfl, s2, _, l2⟩ := lstV_ok rp iy e2
      exact ⟨a, b, vs, ws, rfl, rfl, s1, s2, eqTs_ok rp l1 l2 h, pre_val rp q (.bl _)⟩
    · exact q.elim
  · exact q.elim
theorem units70 {k : Nat} {A : Around} (hr : Room k A) : A.units + 70 < cLine := by have := hr.un; omega
theorem cm_eqTs {X : Cx} {W : WX} {a b : Expr} {fa fb : FE} {pos : Pos} {k : Nat} (hr : Room k X.A) (ha : PD X W a fa) (hb : PD X W b fb) : PD X W (.Compare a [.Eq] [b] pos) (eOp hEqTs fa fb) := pd_cmp (op_eqTs (units70 hr)) sd_eqTs ha hb
end DL
end
section
set_option maxRecDepth 100000
set_option maxHeartbeats 2000000
/-! The data layer, part 32: displays of dicts with tuple keys. -/
namespace DL
open PySem L2 PySem.W
open Classical
section
variable {prog : Program} {w : World} {κ : Type} [DecidableEq κ] {knd : HeapKind prog w κ} {A : Around} {E : Value → Shared → Prop} {s : Shared}
theorem dict_pairsH {env : Env} {keys : List (Option Expr)} {values : List Expr} {pos : Pos} {Q : Value → Shared → Prop} (hu : knd.room A)
    (hall : keys.all (·.isSome) = true) (hl : keys.length = values.length) (h0 : keys ≠ []) (hlen : keys.length ≤ 15)
    (h : wpAny (model prog w) A (evalPairs (pairTrees keys values env pos)) (fun vs s₁ => ∃ ps, CarriesH knd s₁.heap vs ps ∧ s₁.heap.DictOfH knd s.heap.objs.size [] ∧
      ∀ h' tk, h'.DictOfH knd s.heap.objs.size (storedAllH [] ps) → Heap.SameBut s.heap.objs.size s₁.heap h' → Q (.ref s.heap.objs.size) { s₁ with heap := h', toks := tk }) E
      { s with heap := s.heap.push { cls := .type "dict", data := .dict #[] } }) :
    wpAny (model prog w) A (eval (.Dict keys values pos) env) Q E s := by
  have hn := pairTrees_length keys values env pos hall hl
  have h0' : pairTrees keys values env pos ≠ [] := fun he => by
    rw [he] at hn
    exact h0 (List.length_eq_zero_iff.mp hn.symm)
  rw [arm_eval_Dict, zip_pairTrees keys values env pos hall hl, dictDisplay_pairs _ h0' (by omega)]
  exact wpAny_bind (wpAny_standAt (wpAny_bind (wpAny_subDictH (knd := knd) (Q := fun d s' => wpAny (model prog w) A (pure (Value.ref d)) Q E s') hu (by omega)
    (wpAny_mono h (fun vs s₁ h₁ => by obtain ⟨ps, hc, hm, hq⟩ := h₁; exact ⟨ps, hc, hm, fun h' tk a b => wpAny_pure (hq h' tk a b)⟩) fun _ _ e => e))))
end
def tDispT (trs : List (TE × TE)) : TE := fun σ H Q => ∀ p, H p = none → tPairs trs σ (upd H p (.dT [])) fun ps H2 => H2 p = some (.dT []) ∧ ∃ (qs : List KeyA) (vs : List V), qs.length = vs.length ∧ ps = (qs.zip vs).map (fun z => (V.ref z.1.q, z.2)) ∧ (∀ p ∈ qs, H2 p.q = some (.tup (p.k.map kV))) ∧ qs.length ≤ 15 ∧
  Q (.ref p) (upd H2 p (.dT (allK [] ((qs.zip vs).map fun z => (z.1.k, z.2)))))
theorem vv_zip : ∀ {qs : List KeyA} {vs : List V} {ws : List (Value × Value)}, qs.length = vs.length → VV ((qs.zip vs).map fun z => (V.ref z.1.q, z.2)) ws → ∃ us : List Value, Vals vs us ∧ ws = (qs.zip us).map fun z => (Value.ref z.1.q, z.2)
  | [], [], ws, _, h => by
    cases h
    exact ⟨[], .nil, rfl⟩
  | [], _ :: _, _, h, _ => by simp at h
  | _ :: _, [], _, h, _ => by simp at h
  | p :: qs, v :: vs, ws, hl, h => by
    simp only [List.zip_cons_cons, List.map_cons] at h
    cases h with
    | cons h1 h2 =>
      rename_i q ws
      obtain ⟨us, r, rfl⟩ := vv_zip (by simpa using hl) h2
      refine ⟨q.2 :: us, .cons h1.2 r, ?_⟩
      simp only [List.zip_cons_cons, List.map_cons]
      congr 1
      have e : q.1 = Value.ref p.q := h1.1
      rw [← e]
theorem carries_zip {X : Cx} {pins : List (Addr × Obj)} {σ : St} {H : Hp} {s : Shared} (I : Inv X pins σ H s) : ∀ (qs : List KeyA) (us : List Value), (∀ p ∈ qs, H p.q = some (.tup (p.k.map kV))) → CarriesH (tupleKind (mixKind X.prog X.w)) s.heap ((qs.zip us).map fun z => (Value.ref z.1.q, z.2)) ((qs.zip us).map fun z => (z.1.k, z.1.q, z.2))
  | [], _, _ => trivial
  | _ :: _, [], _ => trivial
  | p :: qs, u :: us, h => ⟨rfl, rfl, key_of I.hok (h p (by simp)), carries_zip I qs us fun p hp => h p (by simp [hp])⟩
theorem pe_dispT {X : Cx} {pos : Pos} {keys : List (Option Expr)} {values : List Expr} {trs : List (TE × TE)} (hu : X.A.units < cLine) (h : PPs X pos keys values trs) (hall : keys.all (·.isSome) = true) (hl : keys.length = values.length) (h0 : keys ≠ [])
    (h15 : keys.length ≤ 15) : PE X (.Dict keys values pos) (tDispT trs) := by
  refine ⟨fun pins s σ H Q I q => ?_⟩
  have hn := I.hok.fresh (Nat.le_refl s.heap.objs.size)
  have I1 := I.laid (a := s.heap.objs.size) (o := .dT []) (h' := s.heap.push { cls := .type "dict", data := .dict #[] }) (t' := s.toks) (fun _ _ q => Heap.get?_push_of_some _ q) (Nat.le_refl _) (dt_empty s.heap I.big)
  refine dict_pairsH (knd := tupleKind (mixKind X.prog X.w)) hu hall hl h0 h15 (thn (h.run pins _ σ _ _ I1 (q _ hn)) fun ws s2 ⟨ps, H2, I2, rel, e, qs, vs, el, ep, hk, lk, q2⟩ => ?_)
  subst ep
  obtain ⟨us, rv, rfl⟩ := vv_zip el rel
  obtain ⟨z, hd, xs0, r0, dd⟩ := dt_of I2.hok e
  cases r0
  refine ⟨_, carries_zip I2 qs us hk, dd, fun h' tk dd' hs => ⟨.ref s.heap.objs.size, _, ?_, rfl, q2⟩⟩
  have hz : (allK [] ((qs.zip vs).map fun z => (z.1.k, z.2))).length ≤ sizeLine := by
    have h1 := allK_len ((qs.zip vs).map fun z => (z.1.k, z.2)) []
    rw [List.length_nil, List.length_map, List.length_zip] at h1
    rw [sizeLine_eq]; omega
  obtain ⟨qo, es, ep2, hq, h2, h3, h4, _, h5⟩ := dd'
  refine d_write I2 (by rw [e]; exact True.intro) hs ⟨qo, hq⟩ ⟨hz, hd, _, (kt_zip hk rv .nil).keeps fun c ys ec => ?_, qo, es, ep2, hq, h2, h3, h4, h5⟩
  rw [upd_ne (ne_of ec e (fun z => nomatch z))]
  exact ec
/-! ### on data -/
abbrev FP := EnvD → Mem → Res (List (D × D))
def fpNil : FP := fun _ m => .ok [] m
def fpCons (fk fv : FE) (r : FP) : FP := fun ρ m => (fk ρ m).bind fun x m1 => (fv ρ m1).bind fun y m2 => (r ρ m2).bind fun ps m3 => .ok ((x, y) :: ps) m3
def RP (K : PySem.W.Frag) : Gh → Mem → List (V × V) → List (D × D) → Prop := fun g m ps ds => IsGL K g m (ps.map (·.1)) (ds.map (·.1)) ∧ IsGL K g m (ps.map (·.2)) (ds.map (·.2))
structure PDP (X : Cx) (W : WX) (pos : Pos) (keys : List (Option Expr)) (values : List Expr) (f : FP) : Prop where
  ex : ∃ trs, PPs X pos keys values trs ∧ ∀ g m σ ρ Q, Rep X.K g m → EnvOk X.K g m σ ρ → Pre (RP X.K) X.K W σ g m Q (f ρ m) → tPairs trs σ g.H Q
def keysD : List (D × D) → Option (List (List Key × D))
  | [] => some []
  | (.tup ks, v) :: r => (match keysV ks, keysD r with
    | some k, some t => some ((k, v) :: t)
    | _, _ => none)
  | _ => none
def eDisp (f : FP) : FE := fun ρ m => (f ρ (m ++ [.dT []])).bind fun ps m1 => match keysD ps, m1[m.length]? with
  | some kvs, some (.dT []) => if kvs.length ≤ 15 then .ok (.mref m.length) (m1.set m.length (.dT (allT [] kvs))) else .bad
  | _, _ => .bad
theorem keysD_ok {K : PySem.W.Frag} {g : Gh} {m : Mem} (rp : Rep K g m) : ∀ {ps : List (V × V)} {ds : List (D × D)} {kvs : List (List Key × D)}, IsGL K g m (ps.map (·.1)) (ds.map (·.1)) → IsGL K g m (ps.map (·.2)) (ds.map (·.2)) → keysD ds = some kvs →
    ∃ (qs : List KeyA) (vs : List V), qs.length = vs.length ∧ ps = (qs.zip vs).map (fun z => (V.ref z.1.q, z.2)) ∧ (∀ p ∈ qs, g.H p.q = some (.tup (p.k.map kV))) ∧ ((qs.zip vs).map fun z => (z.1.k, z.2)).map (·.1) = kvs.map (·.1) ∧ IsGL K g m (((qs.zip vs).map fun z => (z.1.k, z.2)).map (·.2)) (kvs.map (·.2)) ∧ qs.length = kvs.length
  | [], [], kvs, _, _, h => by
    cases h
    exact ⟨[], [], rfl, rfl, by simp, rfl, .nil, rfl⟩
  | [], _ :: _, _, h, _, _ => by cases h
  | _ :: _, [], _, h, _, _ => by cases h
  | p :: ps, (d, v) :: ds, kvs, l1, l2, h => by
    simp only [List.map_cons] at l1 l2
    cases l1 with
    | cons i1 l1 =>
      cases l2 with
      | cons i2 l2 =>
        cases d <;> simp only [keysD] at h <;> try cases h
        rename_i ks
        split at h
        · rename_i k t e1 e2
          cases h
          obtain ⟨qs, vs, h1, h2, h3, h4, h5, h6⟩ := keysD_ok rp l1 l2 e2
          obtain ⟨x, y⟩ := p
          cases i1 with
          | tup s z l =>
            rename_i b ws
            have eb : g.H b = some (.tup ws) := rp.at_ s fun z => z
            rw [keysV_ok l e1] at eb
            refine ⟨⟨b, k⟩ :: qs, y :: vs, by simp [h1], ?_, ?_, ?_, ?_, by simp [h6]⟩
            · simp only [List.zip_cons_cons, List.map_cons]
              rw [← h2]
            · intro p hp
              rcases List.mem_cons.mp hp with rfl | hp
              · exact eb
              · exact h3 p hp
            · simp only [List.zip_cons_cons, List.map_cons]
              rw [h4]
            · simp only [List.zip_cons_cons, List.map_cons]
              exact .cons i2 h5
        · cases h
section
variable {X : Cx} {W : WX} {pos : Pos} {k v : Expr} {fk fv : FE} {ks : List (Option Expr)} {vs : List Expr} {f : FP}
theorem pdp_nil : PDP X W pos [] [] fpNil := ⟨⟨_, pps_nil, fun g m σ ρ Q rp en q => q g _ rp (Le.refl _ _) ⟨.nil, .nil⟩⟩⟩
theorem pdp_cons (hk : PD X W k fk) (hv : PD X W v fv) (hr : PDP X W pos ks vs f) : PDP X W pos (some k :: ks) (v :: vs) (fpCons fk fv f) := by
  obtain ⟨t1, p1, s1⟩ := hk.ex
  obtain ⟨t2, p2, s2⟩ := hv.ex
  obtain ⟨t3, p3, s3⟩ := hr.ex
  refine ⟨⟨_, pps_cons p1 p2 p3, fun g m σ ρ Q rp en q => s1 g m σ ρ _ rp en (pre_bind q fun g1 m1 x dx rp1 l1 ix q1 => s2 g1 m1 σ ρ _ rp1 (en.le l1) (pre_bind q1 fun g2 m2 y dy rp2 l2 iy q2 => s3 g2 m2 σ ρ _ rp2 ((en.le l1).le l2) (pre_bind q2 fun g3 m3 xs ds rp3 l3 ixs q3 => ?_)))⟩⟩
  exact q3 g3 _ rp3 (Le.refl _ _) ⟨.cons (ix.le (l2.trans l3)) ixs.1, .cons (iy.le l3) ixs.2⟩
theorem pd_disp {n : Nat} (hr : Room n X.A) (h : PDP X W pos ks vs f) (hall : ks.all (·.isSome) = true := by rfl) (hl : ks.length = vs.length := by rfl) (h0 : ks ≠ [] := by exact List.cons_ne_nil _ _) (h15 : ks.length ≤ 15 := by decide) : PD X W (.Dict ks vs pos) (eDisp f) := by
  obtain ⟨t, p, s⟩ := h.ex
  refine ⟨⟨_, pe_dispT hr.units0 p hall hl h0 h15, fun g m σ ρ Q rp en q a ha => ?_⟩⟩
  obtain ⟨r, l⟩ := rp.newM (o := .dT []) (mo := .dT []) ha (fun _ _ z => by cases z) ⟨rp.free ha, [], upd_same, rfl, .nil⟩
  have ea : (g.add m.length a (.dT [])).al m.length = a := if_pos rfl
  refine s _ _ σ ρ _ r (en.le l) (pre_bind (Pre.le q l) fun g1 m1 ps ds rp1 l1 ip q1 => ?_)
  have ea1 : g1.al m.length = a := (l1.al m.length (by simp)).trans ea
  split at q1
  · rename_i kvs e1 e2
    split at q1
    · rename_i hz
      obtain ⟨qs, ws, h1, h2, h3, h4, h5, h6⟩ := keysD_ok rp1 ip.1 ip.2 e1
      obtain ⟨b1, b2⟩ := allT_is (vs := []) (ds := []) h4 h5 rfl .nil
      obtain ⟨rp2, l2⟩ := dT_write rp1 e2 b1 b2
      obtain ⟨hf, us, hu, hk, _⟩ := rp1.mem m.length _ e2
      have hm := (List.getElem?_eq_some_iff.mp e2).1
      have us0 : us = [] := by simpa using hk
      subst us0
      rw [ea1] at hu rp2 l2
      refine ⟨hu, qs, ws, h1, h2, h3, by omega, q1 _ _ rp2 l2 ?_⟩
      have z : IsG X.K ⟨upd g1.H a (.dT (allK [] ((qs.zip ws).map fun z => (z.1.k, z.2)))), g1.F, g1.al⟩ (m1.set m.length (.dT (allT [] kvs))) (.ref (g1.al m.length)) (.mref m.length) := .mref (by rw [List.length_set]; exact hm)
      rw [ea1] at z
      exact z
    · exact q1.elim
  · exact q1.elim
end
end DL
end
section
set_option maxRecDepth 100000
set_option maxHeartbeats 2000000
/-! The data layer, part 33: errors that say super().__init__(text) and keep one thing. -/
namespace DL
open PySem PySem.W PySem.Calls PyProof.Rows
section
variable {prog : Program} {w : World} {A : Around} {E : Value → Shared → Prop} {h : Heap} {g : Array GenState} {d : Drawn} {t : Nat} {os : OsState}
variable {nm q : Str} {C N : Addr} {bs bm : List Value} {hdct : Bool} {sn : List Str} {sub : List Value} {ab : Bool} {col : Option Bool} {dd : Option Addr} {k0 k1 k2 k3 k5 : Option Value}
/-- the bound __init__ is called -/
theorem call_mw {u e t0 : Addr} {rest : List Value} {Q : Value → Shared → Prop}
    (hC : h.get? C = some (excClassObj nm q C N bs bm hdct sn sub ab col dd k0 k1 k2 k3 k5 "ValueError.__new__")) (he : h.get? e = some (HandSPX.excO C t0)) (hu : h.get? u = some (kxs_mw "ValueError.__init__" e)) (hrest : rest.length ≤ sizeLine)
    (hq : ∀ h' t1, (∀ b o, b ≠ e → h.get? b = some o → h'.get? b = some o) → h'.get? e = some (HandSPX.excO C t1) → Q .none ⟨h', g, d, t, os⟩) :
    wpAny (model prog w) A (call (.ref u) rest) Q E ⟨h, g, d, t, os⟩ := by
  refine wpAny_call (codeAny_of_tree ?_)
  show wpAny _ A.in1 (callAny (.ref u) ⟨rest, []⟩) _ _ _
  simp only [callAny]
  refine wpAny_bind (wpAny_load hu ?_)
  simp only [kxs_mw, show (Value.type "method-wrapper" == Value.type "method" || Value.type "method-wrapper" == Value.type "builtin_function_or_method" || Value.type "method-wrapper" == Value.type "method-wrapper") = true by decide, if_true]
  refine KFB.if_so (by decide) ?_
  refine wpAny_bind (check_bound_init F.excBase_ValueError.toExcCallFacts hC he rfl ?_)
  refine wpAny_bind (wpAny_pure (wpAny_pure ?_))
  refine ⟨Code.quiet_builtin _ (by decide +kernel), codeAny_builtin F.excBase_ValueError.initEntry ?_⟩
  rw [Around.under_plainId F.excBase_ValueError.init.plain _]
  wp_walk
  refine hq _ h.objs.size (fun b o hb ho => ?_) ?_
  · rw [Heap.get?_update_other _ _ (Ne.symm hb)]
    exact Heap.get?_push_of_some _ ho
  · rw [Heap.get?_update_self _ (Heap.get?_push_of_some _ he) rfl]
    rfl
end
/-- the two statements of such an __init__ -/
abbrev supBody (txt f x : Str) (ck : Nat) (p0 p1 p2 p3 p4 p5 p6 p7 p8 pc : Pos) : List Stmt :=
  [.Expr (.Call (.Attribute (.Call (.Name "super" p0) [] [] p1) "__init__" p2) [.Constant (.str txt) ck pc] [] p3) p4, .Assign [.Attribute (.Name "self" p5) f p6] (.Name x p7) p8]
section
variable {prog : Program} {w : World} {A : Around} {R : Result → Shared → Prop} {s : Shared} {K : Frag} {mg : Str → Option Value} {base : Heap}
variable {fI e C cc cda N t0 : Addr} {v : Value} {name qual txt f x nm q file : Str} {params : Arguments} {scope : Scope} {dV kV doc pm ct oc ccl cl : Value} {an od cdd cld dd : Option Addr} {osl ccs csl : Array (Option Value)} {ar : Arg} {vs : Array Value} {tf : Tok}
variable {bs bm : List Value} {sn : List Str} {sub : List Value} {ab : Bool} {col : Option Bool} {k0 k1 k2 k3 k5 : Option Value} {ck : Nat} {p0 p1 p2 p3 p4 p5 p6 p7 p8 pc : Pos}
theorem init_sup (M0 : L2.Mod K mg base) (bk : ∀ b o, base.get? b = some o → s.heap.get? b = some o)
    (hfI : K.lookup fI = some ⟨oc, od, .func (ksFn name qual params (supBody txt f x ck p0 p1 p2 p3 p4 p5 p6 p7 p8 pc) scope dV kV doc pm an (.ref cda) ct cc), osl⟩)
    (hp : (params.posonlyargs ++ params.args).head? = some ar) (har : ar.arg = "self")
    (hcode : K.lookup cda = some ⟨ccl, cdd, .fields vs, ccs⟩) (hvs : vs[2]? = some (.str file tf)) (hfile : ((prog.main.file : Str) == file) = true) (hcd : codeIn K (.ref cda) qual = true)
    (hcell : K.lookup cc = some ⟨cl, cld, .cell (some (.ref C)), csl⟩)
    (hC : K.lookup C = some (excClassObj nm q C N bs bm true sn sub ab col dd k0 k1 k2 k3 k5 "ValueError.__new__")) (hbm : HandSPX.refsVE bm = true)
    (hsub : mroIn K C (.ref C) = some true) (hsuper : mg "super" = none) (ho : nsIn K cStatics "thirdparty.any" = some none)
    (hm : ks_superIn K C C "__init__" = some (some (.builtin "ValueError.__init__"))) (hB : subIn K (.ref C) (.type "ValueError") = some true)
    (sa : findIn K (.ref C) "__setattr__" = some (some (.builtin "object.__setattr__"))) (hno : findIn K (.ref C) f = some none)
    (hks : scope.names.lookup ("super" : Str) = some .globalImplicit) (hkc : scope.names.lookup ("__class__" : Str) = some .free) (hka : scope.names.lookup ("self" : Str) = some .local) (hkx : scope.names.lookup x = some .local) (hk : scope.kind = .function)
    (hcl : ∀ x ∈ scope.names, x.2 ≠ .cell) (hco : scope.isCoroutine = false) (hgen : scope.isGenerator = false) (htop : (prog.main.scope.names.lookup ("super" : Str)).isSome = false) (hxs : x ≠ "self") (hxd : (x == ("__debug__" : Str)) = false)
    (pl : Addr → Sem Bool)
    (hev : ∀ L, eval (.Call (.Attribute (.Call (.Name "super" p0) [] [] p1) "__init__" p2) [.Constant (.str txt) ck pc] [] p3) (callEnv (ksFn name qual params (supBody txt f x ck p0 p1 p2 p3 p4 p5 p6 p7 p8 pc) scope dV kV doc pm an (.ref cda) ct cc) L fI) = (do
      let ov ← attributeBase (.Call (.Name "super" p0) [] [] p1) "__init__" (callEnv (ksFn name qual params (supBody txt f x ck p0 p1 p2 p3 p4 p5 p6 p7 p8 pc) scope dV kV doc pm an (.ref cda) ct cc) L fI) (eval (.Call (.Name "super" p0) [] [] p1) (callEnv (ksFn name qual params (supBody txt f x ck p0 p1 p2 p3 p4 p5 p6 p7 p8 pc) scope dV kV doc pm an (.ref cda) ct cc) L fI))
      standAt p2.atName
      let (fn, first) ← holding [ov] (getMethod ov "__init__" (pl L))
      callWith p3 fn first (backTo p3 (starEach [.Constant (.str txt) ck pc] (callEnv (ksFn name qual params (supBody txt f x ck p0 p1 p2 p3 p4 p5 p6 p7 p8 pc) scope dV kV doc pm an (.ref cda) ct cc) L fI))) []))
    (hint : ∀ L, interactive (callEnv (ksFn name qual params (supBody txt f x ck p0 p1 p2 p3 p4 p5 p6 p7 p8 pc) scope dV kV doc pm an (.ref cda) ct cc) L fI) = false)
    (hsw1 : ∀ L, swapsWith (.Call (.Attribute (.Call (.Name "super" p0) [] [] p1) "__init__" p2) [.Constant (.str txt) ck pc] [] p3) none p4.line (callEnv (ksFn name qual params (supBody txt f x ck p0 p1 p2 p3 p4 p5 p6 p7 p8 pc) scope dV kV doc pm an (.ref cda) ct cc) L fI) = pure false)
    (hsw2 : ∀ L, swapsWith (.Name x p7) (some (.Attribute (.Name "self" p5) f p6)) p8.line (callEnv (ksFn name qual params (supBody txt f x ck p0 p1 p2 p3 p4 p5 p6 p7 p8 pc) scope dV kV doc pm an (.ref cda) ct cc) L fI) = pure false)
    (hroom : A.depth < recursionLimit) (hlim : s.heap.NoLimit) (hbind : BindsTo s (ksFn name qual params (supBody txt f x ck p0 p1 p2 p3 p4 p5 p6 p7 p8 pc) scope dV kV doc pm an (.ref cda) ct cc) ⟨[.ref e, v], []⟩ [("self", .ref e), (x, v)])
    (he : s.heap.get? e = some (HandSPX.excO C t0)) (hen : base.get? e = none)
    (hq : ∀ h' tk' dx t1, (∀ b o, b ≠ e → s.heap.get? b = some o → h'.get? b = some o) → s.heap.objs.size ≤ dx → dx ≠ e → h'.get? e = some { cls := .ref C, dict := some dx, data := .fields #[.ref t1, .none, .none, .none, .bool false, .none] } →
      h'.Ns1 dx (fun y => if y = f then some v else none) → R (.ok (.ret .none)) { s with heap := h', toks := tk' }) :
    codeAny (model prog w) A (.call (.ref fI) ⟨[.ref e, v], []⟩) R s := by
  have X : K.In s.heap := M0.kin.keeps bk
  refine ks_codeAny_call_defAt (fd := ksFn name qual params (supBody txt f x ck p0 p1 p2 p3 p4 p5 p6 p7 p8 pc) scope dV kV doc pm an (.ref cda) ct cc) (body := supBody txt f x ck p0 p1 p2 p3 p4 p5 p6 p7 p8 pc) (binds := [("self", .ref e), (x, v)]) hroom (X _ _ hfI) rfl hlim (codeRec_of X hcd) rfl hbind hcl (fun y hy => by
    simp only [List.mem_cons, List.not_mem_nil, or_false] at hy
    rcases hy with rfl | rfl
    · exact hka
    · exact hkx) (fun h₁ hns hk₁ => ?_) hco hgen hk
  have X1 : K.In h₁ := X.keeps hk₁
  have he1 := hk₁ _ _ he
  have eL : e ≠ s.heap.objs.size := Nat.ne_of_lt (Heap.lt_size he)
  obtain ⟨mb, hb1, hb2⟩ := M0.blt
  have hglob : h₁.Ns mainGlobals mg := (M0.glob.keeps bk).keeps hk₁
  have hblt : h₁.Ns builtinsNs mb := (hb1.keeps bk).keeps hk₁
  have hv1 : List.lookup ("self" : Str) [(("self" : Str), Value.ref e), (x, v)].reverse = some (Value.ref e) := by
    show List.lookup ("self" : Str) [(x, v), (("self" : Str), Value.ref e)] = _
    rw [List.lookup_cons, show (("self" : Str) == x) = false from by simpa using Ne.symm hxs]
    rfl
  have hv2 : List.lookup x [(("self" : Str), Value.ref e), (x, v)].reverse = some v := by
    show List.lookup x [(x, v), (("self" : Str), Value.ref e)] = _
    rw [List.lookup_cons, show (x == x) = true from by simp]
  refine ks_wpAt_execs_cons (ks_wpAt_Expr_any (ks_wpAt_MethodCall (ks_wpAt_super_base (cc := cda) hks hkc (by decide +kernel) rfl (X1 _ _ hfI) rfl hp rfl (X1 _ _ hcode) rfl hvs hfile htop ?_) (hev _)) (hint _) (hsw1 _))
  refine ks_loadName_global hk hks (loadGlobal_builtin (mb := mb) (v := .type "super") hglob hsuper hblt ((hb2 _ (by decide +kernel)).trans (by kernel_rfl)) ⟨rfl, ?_⟩)
  refine wpAny_loadName_free hk hkc rfl ⟨_, X1 _ _ hcell, rfl⟩ ?_
  rw [har]
  refine wpAny_loadName_local hk hka hns hv1 ?_
  have hC1 := X1 _ _ hC
  have hcls : clsIn K C = some { name := nm, bases := bs, mro := .ref C :: bm, ns := N, qualname := q, hasDict := true, slotNames := sn, subclasses := sub, abstract := ab, collection := col, hasDel := false } := by unfold clsIn; rw [hC] <;> rfl
  refine ks_wpAny_isType_cls hC1 rfl ⟨rfl, ?_⟩
  refine ks_wpAny_call_super hC1 rfl he1 rfl (fun c z => by cases z) (looks_mroIn X1 hsub) (fun h2 e2 kk2 => ?_)
  have X2 : K.In h2 := X1.keeps kk2
  have he2 := kk2 _ _ he1
  have I2 : InstAt h2 e (HandSPX.excO C t0) C none := ⟨he2, rfl, rfl, trivial⟩
  have hI2 : Looks (model prog w) h2 (isInstance (.ref e) (.type "ValueError")) true := I2.type.andThen (looks_subIn X2 hB)
  unfold ks_superIn at hm
  rw [hcls] at hm
  refine kxs_getMethod kxs_ValueError e2 (looks_opaque X2 ho) (l₀ := .ref C :: bm) (fun A Q E s k q => wpAny_bind ((looks_clsIn X2 hcls) A _ E s k (wpAny_pure q))) rfl X2 hm hI2 (ks_ne X2 I2 hcls) (by decide +kernel) ?_
  have he3 := Heap.get?_push_of_some (kxs_mw "ValueError.__init__" e) he2
  refine kxs_callWith (i := "ValueError.__init__") (x := e) rfl (evalArgs_plain (spliced_more (Calls.Constant_str (spliced_none ⟨Heap.get?_push_at rfl rfl, ?_⟩))))
  refine call_mw (X2.keeps (fun b o z => Heap.get?_push_of_some _ z) _ _ hC) he3 (Heap.get?_push_at rfl rfl) (by rw [sizeLine_eq]; show (1 : Nat) ≤ _; decide) (fun h4 t1 kk4 he4 => ?_)
  have kk : ∀ b o, b ≠ e → h₁.get? b = some o → h4.get? b = some o := fun b o hb z => kk4 b o hb (Heap.get?_push_of_some _ (kk2 b o z))
  have X4 : K.In h4 := fun b o z => kk b o (fun y => by
    have := M0.kin b o z
    rw [y, hen] at this
    cases this) (X1 b o z)
  have hns4 : h4.Ns s.heap.objs.size (fun y => List.lookup y [(("self" : Str), Value.ref e), (x, v)].reverse) := by
    obtain ⟨oL, es, ep, hL, r⟩ := hns
    exact ⟨oL, es, ep, kk _ _ (Ne.symm eL) hL, r⟩
  refine ks_wpAt_execs_cons (ks_wpAt_Assign_Attr (wpAt_of_wpAny (wpAny_Name (wpAny_loadName_local hk hkx hns4 hv2 ?_) hxd)) (hsw2 _))
  refine wpAny_Name (wpAny_loadName_local hk hka hns4 hv1 ?_) (by decide +kernel)
  refine set_plain X4 (ox := HandSPX.excO C t1) (od := none) ⟨he4, rfl, rfl, trivial⟩ sa ?_
  refine HandSPX.exc_osa X4 he4 hcls (show HandSPX.refsVE (.ref C :: bm) = true from hbm) rfl hno (fun h5 tk5 dx k5' dn dne hx5 hn5 => ?_)
  refine wpAt_of_wpAny (wpAny_execs_nil ?_)
  refine hq h5 tk5 dx t1 (fun b o hb z => k5' b o hb (kk b o hb (hk₁ b o z))) ?_ dne hx5 hn5
  obtain ⟨oL, es, ep, hL, r⟩ := hns4
  exact Nat.le_trans (Nat.le_of_lt (Heap.lt_size hL)) dn
end
end DL
end
section
set_option maxRecDepth 100000
set_option maxHeartbeats 2000000
/-! The data layer, part 34: making such an error. -/
namespace DL
open PySem PySem.Spec PyProof.Rows L2
/-- what is known of an error's class: its __init__ keeps one thing as f -/
structure SupC (P : Program) (K : PySem.W.Frag) (mg : Str → Option Value) (C : Addr) (f : Str) : Prop where
  oex : OexC K C
  run : ∃ fI, PySem.W.findIn K (.ref C) "__init__" = some (some (.ref fI)) ∧ PySem.W.typeIn K (.ref fI) = some (.type "function") ∧
    ∀ (w : World) (A : Around) (R : Result → Shared → Prop) (s : Shared) (base : Heap) (v : Value) (e t0 : Addr), Mod K mg base → (∀ b o, base.get? b = some o → s.heap.get? b = some o) → A.depth < recursionLimit → s.heap.NoLimit → s.heap.get? e = some (HandSPX.excO C t0) → base.get? e = none →
      (∀ h' tk' dx t1, (∀ b o, b ≠ e → s.heap.get? b = some o → h'.get? b = some o) → s.heap.objs.size ≤ dx → dx ≠ e → h'.get? e = some { cls := .ref C, dict := some dx, data := .fields #[.ref t1, .none, .none, .none, .bool false, .none] } →
        h'.Ns1 dx (fun y => if y = f then some v else none) → R (.ok (.ret .none)) { s with heap := h', toks := tk' }) →
      codeAny (model P w) A (.call (.ref fI) ⟨[.ref e, v], []⟩) R s
def tMkS (C : Addr) (f : Str) (ta : TA) : L2.St → Hp → XK → Prop := fun σ H Q => ta σ H fun vs H1 => ∃ y, vs = [y] ∧ ∀ d, H1 d = none → Q (.ref C) (some d) (upd H1 d (.xd [(f, y)]))
section
variable {X : Cx} {e : Expr} {ta : TA} {f : Str} {p pos : Pos}
theorem pmk_sup {x : Str} {C : Addr} {k : Nat} (T : SupC X.prog X.K X.mg C f) (hr : Room (k + 1) X.A) (hg : Gl X x) (hm : X.mg x = some (.ref C)) (ha : PA X [e] ta)
    (hdb : (x == ("__debug__" : Str)) = false := by decide) (he : starEach [e] X.env = (false, eval e X.env) :: starEach [] X.env := by rfl) : PMk X (.Call (.Name x p) [e] [] pos) (tMkS C f ta) := by
  intro pins s σ H Q I h
  obtain ⟨fI, iC, tI, run⟩ := T.run
  obtain ⟨nm, q, N, bs, bm, sn, sub, ab, col, dd, k0, k1, k2, k3, k5, hC, hbm⟩ := T.oex.cls
  refine wpAny_Call_Name_kw (ld_glob I hg hm ?_ hdb)
  refine PySem.W.callWith_K (h₀ := X.base) I.ok.mod.kin T.oex.kC (thn (ha.run pos pins s σ H _ I h) fun us s1 ⟨vs, H1, I1, r1, y, ev, q1⟩ => ⟨I1.kIn, ?_⟩) he rfl
  show wpAny _ _ (call (.ref C) us) _ _ _
  subst ev
  cases r1 with
  | @cons _ u0 _ ur ry rr =>
  cases rr
  obtain ⟨hp, g, dr, tk, os⟩ := s1
  have hsz : hp.objs.size ≤ hp.objs.size + 1 := Nat.le_succ _
  have hn : H1 (hp.objs.size + 1) = none := I1.hok.fresh hsz
  have kk : ∀ b o, hp.get? b = some o → ((hp.push (PySem.W.kdv_tup [u0])).push (PySem.HandSPX.excO C hp.objs.size)).get? b = some o := fun b o e => Heap.get?_push_of_some _ (Heap.get?_push_of_some _ e)
  have hget : ((hp.push (PySem.W.kdv_tup [u0])).push (PySem.HandSPX.excO C hp.objs.size)).get? (hp.objs.size + 1) = some (PySem.HandSPX.excO C hp.objs.size) := by heap_get
  have I2 : Inv X pins σ (upd H1 (hp.objs.size + 1) (exo (hp.objs.size + 1) C none)) ⟨(hp.push (PySem.W.kdv_tup [u0])).push (PySem.HandSPX.excO C hp.objs.size), g, dr, tk, os⟩ :=
    I1.laid (t' := tk) (a := hp.objs.size + 1) (o := exo (hp.objs.size + 1) C none) (h' := (hp.push (PySem.W.kdv_tup [u0])).push (PySem.HandSPX.excO C hp.objs.size)) kk hsz (exo_ok hget)
  have hbe : X.base.get? (hp.objs.size + 1) = none := by
    cases z : X.base.get? (hp.objs.size + 1) with
    | none => rfl
    | some o => exact absurd (Heap.lt_size (I1.bk _ _ z)) (by show ¬ hp.objs.size + 1 < hp.objs.size; omega)
  refine wpAny_call (PySem.HandSPX.call_own F.excBase_ValueError (fun Y => PySem.HandSPX.refsVE_contains Y bm hbm) (I1.kIn _ _ hC) (PySem.W.looks_findIn I1.kIn iC) (fun self => PySem.W.bind_fn I1.kIn self tI) (by rw [sizeLine_eq]; show (1 : Nat) ≤ _; decide)
    (run _ _ _ _ X.base u0 (hp.objs.size + 1) hp.objs.size I1.ok.mod I2.bk (hr.make C [u0] []).depth (I1.ok.mod.nolimit.keeps I2.bk) hget hbe (fun h' tk' dx t1 kp dn dne hx hns => ?_)))
  generalize hA : hp.objs.size + 1 = a at *
  generalize hH : upd H1 a (exo a C none) = HA at *
  have ea : HA a = some (exo a C none) := by rw [← hH, upd_same]
  have hnd : HA dx = none := I2.hok.fresh dn
  have hnd1 : H1 dx = none := by
    rw [← hH, upd_ne dne] at hnd
    exact hnd
  have nd : ∀ {b : Addr} {o : Obj}, ((hp.push (PySem.W.kdv_tup [u0])).push (PySem.HandSPX.excO C hp.objs.size)).get? b = some o → b ≠ dx := fun {b o} q => Nat.ne_of_lt (Nat.lt_of_lt_of_le (Heap.lt_size q) dn)
  have na : ∀ {b : Addr}, HA b = none → b ≠ a := fun {b} n z => by
    rw [z, ea] at n
    cases n
  have Un1 : Un (frs X.stack) [] HA (upd (upd HA dx (exd dx [(f, y)])) a (exo a C (some dx))) ((hp.push (PySem.W.kdv_tup [u0])).push (PySem.HandSPX.excO C hp.objs.size)) h' := {
    keep := fun b o q n _ _ => kp b o (na n) q
    slot := fun b o q n _ _ => ⟨o.slots, kp b o (na n) q⟩
    free := fun b o q n _ => by rw [upd_ne (na n), upd_ne (nd q)]; exact n
    there := fun b o q _ => by
      by_cases hb : b = a
      · exact ⟨_, by rw [hb]; exact hx⟩
      · exact ⟨o, kp b o hb q⟩
    tups := fun b xs q => by rw [upd_ne (at_ne ea q exo_tup), upd_ne (ne_of_none q hnd)]; exact q
    frzs := fun b o v q => by rw [upd_ne (at_ne ea q exo_frz), upd_ne (ne_of_none q hnd)]; exact q
    tbls := fun b ps q => ⟨#[], by rw [upd_ne (at_ne ea q exo_tbl), upd_ne (ne_of_none q hnd), q]; simp⟩ }
  have hok : HOk X.prog X.w (upd (upd HA dx (exd dx [(f, y)])) a (exo a C (some dx))) h' := fun b o q => by
    by_cases hb : b = a
    · subst hb
      rw [upd_same] at q
      cases q
      exact exo_ok hx
    · rw [upd_ne hb] at q
      by_cases hd : b = dx
      · subst hd
        rw [upd_same] at q
        cases q
        exact exd_ok hns (relO_put (fs := []) ry fun g => True.intro)
      · rw [upd_ne hd] at q
        exact (I2.hok b o q).stay (fun c v hc z => kp c v (by
            rcases hc with hc | hc
            · rw [hc]
              exact hb
            · exact at_ne ea hc exo_own) z)
          (fun c hc => by rw [upd_ne (at_ne ea hc exo_own), upd_ne (ne_of_none hc hnd)]; exact hc) (fun c xs hc => by rw [upd_ne (at_ne ea hc exo_tup), upd_ne (ne_of_none hc hnd)]; exact hc)
  refine ⟨rfl, ?_⟩
  refine mk_end (fs := [(f, y)]) (d := dx) (raises_own T.oex.exC T.oex.tyC) I1 (hA ▸ hsz) kk (by rw [hH]; exact Un1) hok rfl I2.bare upd_same (by rw [upd_ne dne, upd_same]) hnd1 ?_
  have eq : upd (del (upd (upd HA dx (exd dx [(f, y)])) a (exo a C (some dx))) a) dx (.xd [(f, y)]) = upd H1 dx (.xd [(f, y)]) := by
    funext b
    by_cases hb : b = dx
    · subst hb; rw [upd_same, upd_same]
    · rw [upd_ne hb, upd_ne hb]
      by_cases hba : b = a
      · subst hba; rw [del_same, hn]
      · rw [del_ne hba, upd_ne hba, upd_ne hb, ← hH, upd_ne hba]
  rw [eq]
  exact q1 dx hnd1
end
end DL
end
section
set_option maxRecDepth 100000
set_option maxHeartbeats 2000000
/-! The data layer, part 35: raise; try .. except. -/
namespace DL
open PySem L2
open Classical
def sRaise (c f : Str) (fa : FA) : FS := fun ρ m => onE (fa ρ m) ρ fun ds m1 => match ds with
  | [d] => .exc ⟨c, [(f, d)]⟩ ρ m1
  | _ => .bad
section
variable {X : Cx} {W : WX} {e : Expr} {fa : FA} {p pos pos1 : Pos} {c f : Str} {k : Nat}
theorem pds_raise (T : SupC X.prog X.K X.mg (He.ga X.K c) f) (hc : X.calm = true) (tk : Takes X W) (hr : Room (k + 1) X.A) (hm : X.mg c = some (.ref (He.ga X.K c))) (ha : PDA X W [e] fa) (hg : Gl X c := by rfl)
    (hdb : (c == ("__debug__" : Str)) = false := by decide) (he : starEach [e] X.env = (false, eval e X.env) :: starEach [] X.env := by rfl) : PDS X W (.Raise (some (.Call (.Name c p) [e] [] pos1)) none pos) (sRaise c f fa) := by
  obtain ⟨t, p, s⟩ := ha.ex
  refine ⟨⟨_, ps_raise hc tk (pmk_sup T hr hg hm p hdb he), fun g m σ ρ D rp en q => s g m σ ρ _ rp en (preS_on en q fun g1 m1 vs ds rp1 l1 il q1 => ?_)⟩⟩
  cases il with
  | nil => exact q1.elim
  | cons i1 il =>
    cases il with
    | cons _ _ => exact q1.elim
    | nil =>
      refine ⟨_, rfl, fun d hd => ?_⟩
      obtain ⟨rp2, l2⟩ := rp1.newF hd (.xd [(f, _)])
      exact q1 _ σ (.ref (He.ga X.K c)) (some d) rp2 l2 ((en.le l1).le l2) ⟨rfl, .inr ⟨d, _, rfl, upd_same, rfl, .cons (i1.le l2) .nil⟩⟩
end
/-! ### the reading of a suite of statements -/
def cS (K : PySem.W.Frag) (W : WX) (f : FS) : TS := fun D σ H => ∃ g m ρ, g.H = H ∧ Rep K g m ∧ EnvOk K g m σ ρ ∧ PreS K W g m D (f ρ m)
theorem PDSs.can {X : Cx} {W : WX} {b : List Stmt} {f : FS} (h : PDSs X W b f) : PSs X b (cS X.K W f) := by
  obtain ⟨t, p, s⟩ := h.ex
  refine ⟨fun pins s0 σ H D I q => ?_⟩
  obtain ⟨g, m, ρ, rfl, rp, en, q⟩ := q
  exact p.run pins s0 σ g.H D I (s g m σ ρ D rp en q)
/-- .. of an except clause: the exception stands in slot i -/
def cSX (K : PySem.W.Frag) (i : Nat) (a : Addr) (cls : Value) (d : Option Addr) (f : Exn → FS) : TS := fun D σ H => ∃ g m ρ x, g.H = H ∧ Rep K g m ∧ EnvOk K g m σ ρ ∧ σ[i]? = some (some (.ref a)) ∧ IsX K g m cls d x ∧ PreS K W0 g m D (f x ρ m)
/-- a suite of an except clause -/
def PDX (X : Cx) (i : Nat) (b : List Stmt) (f : Exn → FS) : Prop := ∀ (a : Addr) (oe : Obj) (cls : Value) (d : Option Addr) (pn : List (Addr × Obj)), Zc cls d oe → (∃ vs, oe.data = .fields vs) → PSs (X.suite a ((a, oe) :: pn)) b (cSX X.K i a cls d f)
theorem envOk_blind {K : PySem.W.Frag} {g : Gh} {m : Mem} {σ : St} {ρ : EnvD} (h : EnvOk K g m σ ρ) (i : Nat) (v : Option V) : EnvOk K g m (σ.set i v) (ρ.set i none) := by
  refine ⟨by rw [List.length_set, List.length_set, h.len], fun j e q => ?_⟩
  by_cases hj : i = j
  · subst hj
    by_cases hl : i < ρ.length
    · rw [List.getElem?_set_self hl] at q
      cases q
    · rw [List.getElem?_eq_none (by simpa using Nat.le_of_not_lt hl)] at q
      cases q
  · rw [List.getElem?_set_ne hj] at q ⊢
    exact h.at_ j e q
/-- the name of the clause goes -/
def unN (i : Nat) : RS → RS
  | .nx ρ m => .nx (ρ.set i none) m
  | .bk ρ m => .bk (ρ.set i none) m
  | .ct ρ m => .ct (ρ.set i none) m
  | .rt d m => .rt d m
  | _ => .bad
def sTry (c : Str) (i : Nat) (fb : FS) (fs : Exn → FS) : FS := fun ρ m => match fb ρ m with
  | .exc x ρ1 m1 => if x.c = c ∧ i < ρ1.length then unN i (fs x (ρ1.set i none) m1) else .bad
  | r => r
section
variable {X : Cx} {W : WX} {x n c : Str} {i : Nat} {body suite : List Stmt} {b₀ : Stmt} {np pos pos' : Pos} {fb : FS} {fs : Exn → FS}
theorem preS_un {K : PySem.W.Frag} {g : Gh} {m : Mem} {D : Ends} : ∀ {r : RS}, PreS K W g m D (unN i r) → PreS K W0 g m { nx := fun σ' H' => D.nx (σ'.set i none) H', rt := D.rt, bk := fun σ' H' => D.bk (σ'.set i none) H', ct := fun σ' H' => D.ct (σ'.set i none) H' } r
  | .nx ρ m, q => fun g' σ' rp l en => q g' _ rp l (en.unset i)
  | .bk ρ m, q => fun g' σ' rp l en => q g' _ rp l (en.unset i)
  | .ct ρ m, q => fun g' σ' rp l en => q g' _ rp l (en.unset i)
  | .rt d m, q => q
  | .exc _ _ _, q => q.elim
  | .bad, q => q.elim
theorem pds_try (hs : X.stack = X.env :: X.outer) (hf : X.env.frame = some X.env.locals) (hN : X.N.Nodup) (hi : X.N[i]? = some n) (hln : X.env.kindOf n = some .local) (hc : Names X c (.ref (He.ga X.K c))) (tk : Takes X W)
    (hex : PySem.W.exmOne X.K (.ref (He.ga X.K c)) (.ref (He.ga X.K c)) = some true)
    (hb : ∀ (W' : WX) (pn : List (Addr × Obj)) (xe : Value → Shared → Prop), Takes (X.tr pn xe) W' → PDSs (X.tr pn xe) W' body fb)
    (hsu : PDX X i (b₀ :: suite) fs) : PDS X W (.Try body [.ExceptHandler (some (.Name c np)) (some n) (b₀ :: suite) pos'] [] [] pos) (sTry c i fb fs) := by
  refine ⟨⟨_, ps_try_as (tb := fun W' => cS X.K W' fb) (ts := fun a cls d => cSX X.K i a cls d fs) hs hf hN hi hln hc tk (fun W' pn xe tk' _ => (hb W' pn xe tk').can) hsu, fun g m σ ρ D rp en q => ?_⟩⟩
  refine ⟨g, m, ρ, rfl, rp, en, ?_⟩
  unfold sTry at q
  cases hr : fb ρ m with
  | nx ρ1 m1 => rw [hr] at q; exact q
  | rt d m1 => rw [hr] at q; exact q
  | bk ρ1 m1 => rw [hr] at q; exact q
  | ct ρ1 m1 => rw [hr] at q; exact q
  | bad => rw [hr] at q; exact q
  | exc x ρ1 m1 =>
    rw [hr] at q
    simp only at q
    split at q
    · rename_i hx
      intro g' σ' cls dc rp' l' en' ix
      have hcls : cls = .ref (He.ga X.K c) := by rw [← hx.1]; exact ix.1
      refine ⟨true, by rw [hcls]; exact hex, fun _ a ha => ?_, fun z => by cases z⟩
      have hlen : i < σ'.length := by rw [en'.len]; exact hx.2
      refine ⟨g', m1, ρ1.set i none, x, rfl, rp', ?_, List.getElem?_set_self hlen, ix, preS_un (PreS.le q l')⟩
      exact envOk_blind en' i _
    · exact q.elim
end
end DL
end
section
set_option maxRecDepth 100000
set_option maxHeartbeats 2000000
/-! The data layer, part 36: what stands in an except suite. -/
namespace DL
open PySem L2
open Classical
def cEX (K : PySem.W.Frag) (i : Nat) (a : Addr) (cls : Value) (d : Option Addr) (f : Exn → FE) : TE := fun σ H Q => ∃ g m ρ x, g.H = H ∧ Rep K g m ∧ EnvOk K g m σ ρ ∧ σ[i]? = some (some (.ref a)) ∧ IsX K g m cls d x ∧ Pre (RE K) K W0 σ g m Q (f x ρ m)
def cAX (K : PySem.W.Frag) (i : Nat) (a : Addr) (cls : Value) (d : Option Addr) (f : Exn → FA) : TA := fun σ H Q => ∃ g m ρ x, g.H = H ∧ Rep K g m ∧ EnvOk K g m σ ρ ∧ σ[i]? = some (some (.ref a)) ∧ IsX K g m cls d x ∧ Pre (RA K) K W0 σ g m Q (f x ρ m)
def PX (X : Cx) (i : Nat) (e : Expr) (f : Exn → FE) : Prop := ∀ (a : Addr) (oe : Obj) (cls : Value) (d : Option Addr) (pn : List (Addr × Obj)), Zc cls d oe → (∃ vs, oe.data = .fields vs) → PE (X.suite a ((a, oe) :: pn)) e (cEX X.K i a cls d f)
def PAX (X : Cx) (i : Nat) (es : List Expr) (f : Exn → FA) : Prop := ∀ (a : Addr) (oe : Obj) (cls : Value) (d : Option Addr) (pn : List (Addr × Obj)), Zc cls d oe → (∃ vs, oe.data = .fields vs) → PA (X.suite a ((a, oe) :: pn)) es (cAX X.K i a cls d f)
theorem PE.weak {X : Cx} {e : Expr} {t u : TE} (h : PE X e t) (hu : ∀ σ H Q, u σ H Q → t σ H Q) : PE X e u := ⟨fun pins s σ H Q I q => h.run pins s σ H Q I (hu σ H Q q)⟩
theorem PA.weak {X : Cx} {e : List Expr} {t u : TA} (h : PA X e t) (hu : ∀ σ H Q, u σ H Q → t σ H Q) : PA X e u := ⟨fun pos pins s σ H Q I q => h.run pos pins s σ H Q I (hu σ H Q q)⟩
theorem PSs.weak {X : Cx} {e : List Stmt} {t u : TS} (h : PSs X e t) (hu : ∀ D σ H, u D σ H → t D σ H) : PSs X e u := ⟨fun pins s σ H D I q => h.run pins s σ H D I (hu D σ H q)⟩
/-- an attribute of the exception -/
def eXf (c f : Str) (x : Exn) : FE := fun _ m => if x.c = c then (match x.att.lookup f with
  | some d => .ok d m
  | none => .bad) else .bad
theorem xatt_is {K : PySem.W.Frag} {g : Gh} {m : Mem} {f : Str} {dv : D} : ∀ {vs : List (Str × V)} {ds : List (Str × D)}, vs.map (·.1) = ds.map (·.1) → IsGL K g m (vs.map (·.2)) (ds.map (·.2)) → ds.lookup f = some dv → ∃ v, vs.lookup f = some v ∧ IsG K g m v dv
  | [], [], _, _, h => by cases h
  | [], _ :: _, h, _, _ => by simp at h
  | _ :: _, [], h, _, _ => by simp at h
  | p :: vs, q :: ds, h, l, e => by
    obtain ⟨pk, pv⟩ := p
    obtain ⟨qk, qv⟩ := q
    simp only [List.map_cons, List.cons.injEq] at h
    obtain ⟨hk, ht⟩ := h
    have hk' : pk = qk := hk
    subst hk'
    cases l with
    | cons i t =>
      rw [List.lookup_cons] at e ⊢
      cases hb : f == pk with
      | true =>
        rw [hb] at e
        cases e
        exact ⟨pv, rfl, i⟩
      | false =>
        rw [hb] at e
        exact xatt_is ht t e
section
variable {X : Cx} {i : Nat} {e : Expr} {es : List Expr} {pos : Pos}
theorem px_pd {f : FE} (h : ∀ a oe pn, PD (X.suite a ((a, oe) :: pn)) W0 e f) : PX X i e fun _ => f := fun a oe cls d pn hz hf => by
  obtain ⟨t, p, s⟩ := (h a oe pn).ex
  refine PE.weak p fun σ H Q q => ?_
  obtain ⟨g, m, ρ, x, rfl, rp, en, _, _, q⟩ := q
  exact s g m σ ρ Q rp en q
theorem px_at {n c f : Str} {p1 : Pos} (T : XfC X.K (He.ga X.K c)) (hno : PySem.W.findIn X.K (.ref (He.ga X.K c)) f = some none) (hN : X.N[i]? = some n) (hv : Vis X.env.scope n) (hb : attributeBase (.Name n p1) f X.env (eval (.Name n p1) X.env) = eval (.Name n p1) X.env := by rfl)
    (hd : (n == ("__debug__" : Str)) = false := by decide) (hcd : (n == ("__classdict__" : Str)) = false := by decide) : PX X i (.Attribute (.Name n p1) f pos) (eXf c f) := fun a oe cls d pn hz hf => by
  refine PE.weak (pe_xf (X := X) (C := He.ga X.K c) T hno hz hf (pe_var (X := X.suite a ((a, oe) :: pn)) hN hv hd hcd) hb) fun σ H Q q => ?_
  obtain ⟨g, m, ρ, x, rfl, rp, en, hs, ix, q⟩ := q
  unfold eXf at q
  split at q
  · rename_i hx
    split at q
    · rename_i dv hl
      obtain ⟨h1, h2⟩ := ix
      rcases h2 with h2 | ⟨dd, vs, h2, h3, h4, h5⟩
      · rw [h2] at hl
        cases hl
      · obtain ⟨v, hv, iv⟩ := xatt_is h4 h5 hl
        refine ⟨.ref a, hs, rfl, by rw [h1, hx], dd, vs, v, h2, ?_, hv, pre_val rp q iv⟩
        rcases rp.sub _ _ h3 with z | ⟨z, _⟩
        · exact z
        · exact z.elim
    · exact q.elim
  · exact q.elim
theorem pax_nil : PAX X i [] fun _ => aNil := fun a oe cls d pn hz hf => PA.weak pa_nil fun σ H Q q => by
  obtain ⟨g, m, ρ, x, rfl, rp, en, _, _, q⟩ := q
  exact q g _ rp (Le.refl _ _) .nil
theorem pax_cons {f : Exn → FE} {r : Exn → FA} (h : PX X i e f) (hr : PAX X i es r) (hs : starEach (e :: es) X.env = (false, eval e X.env) :: starEach es X.env := by rfl) : PAX X i (e :: es) fun x => aCons (f x) (r x) := fun a oe cls d pn hz hf =>
  PA.weak (pa_cons (X := X.suite a ((a, oe) :: pn)) (h a oe cls d pn hz hf) (hr a oe cls d pn hz hf) hs) fun σ H Q q => by
    obtain ⟨g, m, ρ, x, rfl, rp, en, hs, ix, q⟩ := q
    refine ⟨g, m, ρ, x, rfl, rp, en, hs, ix, pre_bind q fun g1 m1 v dv rp1 l1 iv q1 => ?_⟩
    refine ⟨g1, m1, ρ, x, rfl, rp1, en.le l1, hs, ix.le l1, pre_bind q1 fun g2 m2 vs ds rp2 l2 il q2 => ?_⟩
    exact q2 g2 _ rp2 (Le.refl _ _) (.cons (iv.le l2) il)
theorem px_tup {x1} {r : Exn → FA} (h : PAX X i es r) : PX X i (.Tuple es x1 pos) fun x => eTup (r x) := fun a oe cls d pn hz hf =>
  PE.weak (pe_tup (X := X.suite a ((a, oe) :: pn)) (h a oe cls d pn hz hf)) fun σ H Q q => by
    obtain ⟨g, m, ρ, x, rfl, rp, en, hs, ix, q⟩ := q
    refine ⟨g, m, ρ, x, rfl, rp, en, hs, ix, pre_bind q fun g1 m1 vs ds rp1 l1 il q1 => ?_⟩
    split at q1
    · rename_i hz
      have hz' : vs.length ≤ sizeLine := by rw [il.length]; exact hz
      exact ⟨hz', pre_newT rp1 q1 hz' il⟩
    · exact q1.elim
theorem pdx_set {j : Nat} {y : Str} {pos' : Pos} {f : Exn → FE} (hN : X.N.Nodup) (h : PX X i e f) (hj : X.N[j]? = some y := by rfl) (hx : Loc X.env.scope y := by first | exact Or.inl rfl | exact Or.inr rfl) (hs : swapsWith e (some (.Name y pos')) pos.line X.env = pure false := by rfl)
    (hf : X.fn y = true ∨ X.env.scope.names.lookup y = some .local := by first | exact .inl rfl | exact .inr rfl | assumption) : PDX X i [.Assign [.Name y pos'] e pos] fun x => sSet j (f x) := fun a oe cls d pn hz hff =>
  PSs.weak (pss_one (ps_set (X := X.suite a ((a, oe) :: pn)) hN hj hx (h a oe cls d pn hz hff) hs hf)) fun D σ H q => by
    obtain ⟨g, m, ρ, x, rfl, rp, en, hs, ix, q⟩ := q
    refine ⟨g, m, ρ, x, rfl, rp, en, hs, ix, preS_on en q fun g1 m1 v dv rp1 l1 iv q1 => ?_⟩
    exact q1 g1 (σ.set j (some v)) rp1 (Le.refl _ _) ((en.le l1).set j iv)
end
end DL
end
section
set_option maxRecDepth 100000
set_option maxHeartbeats 2000000
/-! The data layer, part 37: what is told of an error's class, as a Bool. -/
namespace DL
open PySem PySem.W PySem.Calls PyProof.Rows
/-- such an __init__ -/
def supShape (f : Str) : FuncBody → Bool
  | .stmts [.Expr (.Call (.Attribute (.Call (.Name s _) [] [] _) i p2) [.Constant (.str _) _ _] [] p3) _, .Assign [.Attribute (.Name sf _) f' _] (.Name x _) _] =>
    decide (s = ("super" : Str)) && (decide (i = ("__init__" : Str)) && ((p2.endLine == p3.line) && (decide (sf = ("self" : Str)) && (decide (f' = f) && (decide (x ≠ ("self" : Str)) && !(x == ("__debug__" : Str)))))))
  | _ => false
theorem supShape_ok {f : Str} {b : FuncBody} (h : supShape f b = true) : ∃ txt x ck p0 p1 p2 p3 p4 p5 p6 p7 p8 pc, b = .stmts (supBody txt f x ck p0 p1 p2 p3 p4 p5 p6 p7 p8 pc) ∧ (p2.endLine == p3.line) = true ∧ x ≠ "self" ∧ (x == ("__debug__" : Str)) = false := by
  unfold supShape at h
  split at h
  · simp only [Bool.and_eq_true, decide_eq_true_eq, Bool.not_eq_true'] at h
    obtain ⟨rfl, rfl, h3, rfl, rfl, h6, h7⟩ := h
    exact ⟨_, _, _, _, _, _, _, _, _, _, _, _, _, rfl, h3, h6, h7⟩
  · cases h
theorem sup_eval {txt : Str} {ck : Nat} {p0 p1 p2 p3 pc : Pos} {env : Env} (h : (p2.endLine == p3.line) = true) : eval (.Call (.Attribute (.Call (.Name "super" p0) [] [] p1) "__init__" p2) [.Constant (.str txt) ck pc] [] p3) env = (do
      let ov ← attributeBase (.Call (.Name "super" p0) [] [] p1) "__init__" env (eval (.Call (.Name "super" p0) [] [] p1) env)
      standAt p2.atName
      let (fn, first) ← holding [ov] (getMethod ov "__init__" (do return (← importBound (.Call (.Name "super" p0) [] [] p1) env).getD true))
      callWith p3 fn first (backTo p3 (starEach [.Constant (.str txt) ck pc] env)) []) := by
  have e : methodCallPos true (.Call (.Name "super" p0) [] [] p1) env p2 p3 = pure p3 := by
    unfold methodCallPos
    rw [h]
    rfl
  rw [arm_eval_Call]
  show (do
    let ov ← attributeBase (.Call (.Name "super" p0) [] [] p1) "__init__" env (eval (.Call (.Name "super" p0) [] [] p1) env)
    standAt p2.atName
    let (f, first) ← holding [ov] (calleeOf true (.Call (.Name "super" p0) [] [] p1) env ov "__init__")
    let callPos ← methodCallPos true (.Call (.Name "super" p0) [] [] p1) env p2 p3
    callWith callPos f first (backTo p3 (starEach [.Constant (.str txt) ck pc] env)) []) = _
  rw [e]
  rfl

def supX : FuncBody → Str
  | .stmts [_, .Assign _ (.Name x _) _] => x
  | _ => Str.empty
def parShape (x : Str) (p : Arguments) : Bool := match p with
  | ⟨[], [a, b], none, [], [], none, []⟩ => decide (a.arg = ("self" : Str)) && decide (b.arg = x)
  | _ => false
def clsShape (K : Frag) (C : Addr) : Bool := match K.lookup C with
  | some ⟨.type "type", _, .cls cd, sl⟩ => (match cd.mro, sl.toList with
    | .ref C' :: bm, [_, _, _, _, some (.builtin n), _] => decide (C' = C) && (decide (n = "ValueError.__new__") && (!cd.hasDel && (cd.hasDict && HandSPX.refsVE bm)))
    | _, _ => false)
  | _ => false
theorem clsShape_ok {K : Frag} {C : Addr} (h : clsShape K C = true) : ∃ nm q N bs bm sn sub ab col dd k0 k1 k2 k3 k5, K.lookup C = some (excClassObj nm q C N bs bm true sn sub ab col dd k0 k1 k2 k3 k5 "ValueError.__new__") ∧ HandSPX.refsVE bm = true := by
  unfold clsShape at h
  split at h
  · rename_i dd cd sl e
    split at h
    · rename_i C' bm k0 k1 k2 k3 n k5 e1 e2
      simp only [Bool.and_eq_true, decide_eq_true_eq, Bool.not_eq_true'] at h
      obtain ⟨rfl, rfl, h3, h4, h5⟩ := h
      obtain ⟨nm, bs, mro, ns, qn, hd, sn, sb, ab, col, del⟩ := cd
      dsimp only at e1 h3 h4
      subst e1 h3 h4
      refine ⟨nm, qn, ns, bs, bm, sn, sb, ab, col, dd, k0, k1, k2, k3, k5, ?_, h5⟩
      rw [e]
      have : sl = #[k0, k1, k2, k3, some (.builtin "ValueError.__new__"), k5] := by
        apply Array.toList_inj.mp
        rw [e2]
      rw [this]
    · cases h
  · cases h
end DL
end
section
set_option maxRecDepth 100000
set_option maxHeartbeats 2000000
/-! The data layer, part 38: what is told of an error's __init__, as a Bool. -/
namespace DL
open PySem PySem.W PySem.Calls PyProof.Rows
def scShape (x : Str) (sc : Scope) : Bool := decide (sc.names.lookup ("super" : Str) = some .globalImplicit) && (decide (sc.names.lookup ("__class__" : Str) = some .free) && (decide (sc.names.lookup ("self" : Str) = some .local) && (decide (sc.names.lookup x = some .local) &&
  (decide (sc.kind = .function) && (sc.names.all (fun y => decide (y.2 ≠ .cell)) && (!sc.isCoroutine && !sc.isGenerator))))))
def cellShape (K : Frag) (C : Addr) : List (Str × Addr) → Bool
  | [(n, cc)] => decide (n = ("__class__" : Str)) && (match K.lookup cc with
    | some ⟨_, _, .cell (some (.ref D)), _⟩ => decide (D = C)
    | _ => false)
  | _ => false
def codeShape (P : Program) (K : Frag) (qual : Str) : Value → Bool
  | .ref cda => codeIn K (.ref cda) qual && (match K.lookup cda with
    | some ⟨_, _, .fields vs, _⟩ => (match (vs[2]? : Option Value) with
      | some (Value.str file _) => (P.main.file : Str) == file
      | _ => false)
    | _ => false)
  | _ => false
def fnShape (P : Program) (K : Frag) (C fI : Addr) (f : Str) : Bool := match K.lookup fI with
  | some ⟨_, _, .func fd, _⟩ => supShape f fd.body && (parShape (supX fd.body) fd.params && (decide (fd.globals = mainGlobals) && (decide (fd.builtins = builtinsNs) && (cellShape K C fd.closure && (codeShape P K fd.qualname fd.code && (scShape (supX fd.body) fd.scope && decide (fd.defaults = .none)))))))
  | _ => false
theorem cellShape_ok {K : Frag} {C : Addr} {l : List (Str × Addr)} (h : cellShape K C l = true) : ∃ cc cl cld csl, l = [(("__class__" : Str), cc)] ∧ K.lookup cc = some ⟨cl, cld, .cell (some (.ref C)), csl⟩ := by
  unfold cellShape at h
  split at h
  · rename_i n cc
    rw [Bool.and_eq_true, decide_eq_true_eq] at h
    obtain ⟨rfl, h⟩ := h
    split at h
    · rename_i e
      rw [decide_eq_true_eq] at h
      subst h
      exact ⟨cc, _, _, _, rfl, e⟩
    · cases h
  · cases h
theorem codeShape_ok {P : Program} {K : Frag} {q : Str} {v : Value} (h : codeShape P K q v = true) : ∃ cda ccl cdd vs ccs file tf, v = .ref cda ∧ codeIn K (.ref cda) q = true ∧ K.lookup cda = some ⟨ccl, cdd, .fields vs, ccs⟩ ∧ vs[2]? = some (.str file tf) ∧ ((P.main.file : Str) == file) = true := by
  unfold codeShape at h
  split at h
  · rw [Bool.and_eq_true] at h
    obtain ⟨h1, h⟩ := h
    split at h
    · rename_i e
      split at h
      · rename_i e2
        exact ⟨_, _, _, _, _, _, _, rfl, h1, e, e2, h⟩
      · cases h
    · cases h
  · cases h
theorem parShape_ok {x : Str} {p : Arguments} (h : parShape x p = true) : ∃ an1 q1 an2 q2, p = ⟨[], [⟨"self", an1, q1⟩, ⟨x, an2, q2⟩], none, [], [], none, []⟩ := by
  unfold parShape at h
  split at h
  · rename_i a b
    rw [Bool.and_eq_true, decide_eq_true_eq, decide_eq_true_eq] at h
    obtain ⟨⟨a1, a2, a3⟩, ⟨b1, b2, b3⟩⟩ := (⟨a, b⟩ : Arg × Arg)
    obtain ⟨h1, h2⟩ := h
    cases a
    cases b
    dsimp only at h1 h2
    subst h1 h2
    exact ⟨_, _, _, _, rfl⟩
  · cases h
/-- how two things are bound to self and x: to be seen at the name itself -/
def SupBinds (x : Str) : Prop := ∀ (name qual : Str) (body : List Stmt) (scope : Scope) (kV doc pm ct cdv : Value) (an : Option Addr) (cc : Addr) (an1 an2 : Option Expr) (q1 q2 : Pos) (u v : Value),
  bindArgs (ksFn name qual ⟨[], [⟨"self", an1, q1⟩, ⟨x, an2, q2⟩], none, [], [], none, []⟩ body scope .none kV doc pm an cdv ct cc) ⟨[u, v], []⟩ = pure [(("self" : Str), u), (x, v)]
theorem sup_binds_index : SupBinds "index" := fun _ _ _ _ _ _ _ _ _ _ _ _ _ _ _ _ _ => rfl
def exSup (P : Program) (K : Frag) (c f x : Str) : Bool := clsShape K (He.ga K c) && (fnShape P K (He.ga K c) (He.ma K (He.ga K c) "__init__") f && (He.eqO (findIn K (.ref (He.ga K c)) "__init__") (some (some (.ref (He.ma K (He.ga K c) "__init__")))) && (decide (typeIn K (.ref (He.ma K (He.ga K c) "__init__")) = some (.type "function")) &&
  (He.eqO (findIn K (.ref (He.ga K c)) "__setattr__") (some (some (.builtin "object.__setattr__"))) && (decide (subIn K (.ref (He.ga K c)) (.type "BaseException") = some true) && (decide (typeIn K (.ref (He.ga K c)) = some (.type "type")) && (keepIn K (.ref (He.ga K c)) &&
  (decide (mroIn K (He.ga K c) (.ref (He.ga K c)) = some true) && (He.eqO (nsIn K cStatics "thirdparty.any") (some none) && (He.eqO (ks_superIn K (He.ga K c) (He.ga K c) "__init__") (some (some (.builtin "ValueError.__init__"))) && (decide (subIn K (.ref (He.ga K c)) (.type "ValueError") = some true) &&
  (He.eqO (findIn K (.ref (He.ga K c)) f) (some none) && ((P.main.scope.names.lookup ("super" : Str)).isNone && (match K.lookup (He.ma K (He.ga K c) "__init__") with
    | some ⟨_, _, .func fd, _⟩ => decide (supX fd.body = x)
    | _ => false))))))))))))))
theorem exSup_ok {P : Program} {K : Frag} {mg : Str → Option Value} {c f x : Str} (hb : SupBinds x) (hs : mg "super" = none) (h : exSup P K c f x = true) : SupC P K mg (He.ga K c) f := by
  unfold exSup at h
  obtain ⟨h1, h⟩ := band h
  obtain ⟨h2, h⟩ := band h
  obtain ⟨h3, h⟩ := band h
  obtain ⟨h4, h⟩ := band h
  obtain ⟨h5, h⟩ := band h
  obtain ⟨h6, h⟩ := band h
  obtain ⟨h7, h⟩ := band h
  obtain ⟨h8, h⟩ := band h
  obtain ⟨h9, h⟩ := band h
  obtain ⟨h10, h⟩ := band h
  obtain ⟨h11, h⟩ := band h
  obtain ⟨h12, h⟩ := band h
  obtain ⟨h13, h⟩ := band h
  obtain ⟨h14, h15⟩ := band h
  have hC := clsShape_ok h1
  refine ⟨⟨hC, He.eqO_ok h5, of_decide_eq_true h6, of_decide_eq_true h7, h8⟩, He.ma K (He.ga K c) "__init__", He.eqO_ok h3, of_decide_eq_true h4, ?_⟩
  obtain ⟨nm, q, N, bs, bm, sn, sub, ab, col, dd, k0, k1, k2, k3, k5, hC, hbm⟩ := hC
  unfold fnShape at h2
  split at h2
  · rename_i oc od fd osl el
    obtain ⟨g1, h2⟩ := band h2
    obtain ⟨g2, h2⟩ := band h2
    obtain ⟨g3, h2⟩ := band h2
    obtain ⟨g4, h2⟩ := band h2
    obtain ⟨g5, h2⟩ := band h2
    obtain ⟨g6, h2⟩ := band h2
    obtain ⟨g7, g8⟩ := band h2
    rw [el] at h15
    simp only [decide_eq_true_eq] at h15 g3 g4 g8
    rw [h15] at g2 g7
    obtain ⟨txt, x', ck, p0, p1, p2, p3, p4, p5, p6, p7, p8, pc, eb, hpos, hxs, hxd⟩ := supShape_ok g1
    have ex : x' = x := by rw [← h15, eb]; rfl
    subst ex
    obtain ⟨an1, q1, an2, q2, ep⟩ := parShape_ok g2
    obtain ⟨cc, cl, cld, csl, ecl, hcell⟩ := cellShape_ok g5
    obtain ⟨cda, ccl, cdd, vs, ccs, file, tf, ecd, hcd, hcode, hvs, hfile⟩ := codeShape_ok g6
    obtain ⟨name, qual, params, body, scope, globals, closure, defaults, kwdefaults, doc, pm, an, code, ct, builtins⟩ := fd
    dsimp only at eb ep ecl ecd g3 g4 g8 g7 hcd
    subst eb ep ecl ecd g3 g4 g8
    unfold scShape at g7
    simp only [Bool.and_eq_true, decide_eq_true_eq, Bool.not_eq_true', List.all_eq_true] at g7
    obtain ⟨s1, s2, s3, s4, s5, s6, s7, s8⟩ := g7
    intro w A R s base v e t0 M0 bk hroom hlim he hen hq
    refine init_sup M0 bk el rfl rfl hcode hvs hfile hcd hcell hC hbm (of_decide_eq_true h9) hs (He.eqO_ok h10) (He.eqO_ok h11) (of_decide_eq_true h12) (He.eqO_ok h5) (He.eqO_ok h13) s1 s2 s3 s4 s5 (fun y hy => s6 y hy) s7 s8 (by simpa using h14) hxs hxd _ (fun L => sup_eval hpos) (fun L => ?_) (fun L => rfl) (fun L => rfl) hroom hlim (BindsTo.of_eq (hb _ _ _ _ _ _ _ _ _ _ _ _ _ _ _ _ _)) he hen hq
    show (scope.kind == .module && _) = false
    rw [s5]
    rfl
  · cases h2
end DL
end
section
set_option maxRecDepth 100000
set_option maxHeartbeats 2000000
/-! The data layer, part 39: things made where an exception may be caught here. -/
namespace DL
open PySem L2
open Classical
section
variable {X : Cx} {W : WX} {k n : Nat} {f : Addr} {fd : FuncData} {ps ks : List Str} {F : HL} {c : Str} {p pos : Pos} {e : Expr} {es : List Expr} {kws : List Keyword} {fa fk : FA}
/-- the wish at these slots: it looks at none -/
theorem flat_at (W : WX) (σ : St) : Flat (fun c d _ H' => W c d σ H') := fun _ _ _ _ _ h => h
theorem makeK_at {gA : List Value → List Value → List Value} {gV : List V → List V → List V} {pins : List (Addr × Obj)} {σ : St} {H : Hp} {s : Shared} {Q : VK} {us ws : List Value} {vs zs : List V} {C : Addr} (M : Mk X.K C f) (G : FnD X.prog X.w X.K X.mg X.base k f fd ps F) (hr : Room (k + 1) X.A)
    (hb : KBn X.K fd ps (n + 1) ks gA gV) (tk : Takes X W) (I : Inv X pins σ H s) (r : Vals vs us) (rz : Vals zs ws) (l1 : vs.length = n) (l2 : zs.length = ks.length)
    (h : ∀ y dx, H y = none → H dx = none → dx ≠ y → spD X.K ps.length F (gV (.ref y :: vs) zs) (upd (upd H dx (.own y)) y (.ins C dx [])) (fun v H2 => v = .non ∧ Q (.ref y) H2) (WE W σ)) :
    wpAny (model X.prog X.w) X.A (call (.ref C) us (ks.zip ws)) (EP X pins σ Q) X.xe s := by
  let y := s.heap.objs.size + 1
  have want := h y s.heap.objs.size (I.hok.fresh (Nat.le_succ _)) (I.hok.fresh (Nat.le_refl _)) (Nat.ne_of_lt (Nat.lt_succ_self _))
  have J := Inv.made (C := C) I
  have rv : Vals (V.ref y :: vs) (Value.ref y :: us) := .cons rfl r
  have many : (Value.ref y :: us).length = n + 1 := by rw [List.length_cons, ← r.length, l1]
  refine wpAny_call (make_map (f := f) I.kIn M.makes M.init (beq_iff_eq.mp M.fn) (codeAny_mono (G.run _ X.stack _ _ ⟨Value.ref y :: us, ks.zip ws⟩ (gA (Value.ref y :: us) ws) _ _ (WE W σ) (hr.make C us (ks.zip ws)) (J.env0.make C us (ks.zip ws)) (hb.to _ _ ws J.kIn many (rz.length.symm.trans l2)) (hb.rel rv rz) want) fun res s' got => ?_))
  rcases res with er | fl
  · exact passAt tk σ pins _ _ er s' J got
  · cases fl with
    | ret u =>
      obtain ⟨v, H', J', rel, ev, done⟩ := J.after got
      subst ev
      exact ⟨rel, ⟨V.ref y, H', J', rfl, done⟩⟩
    | next => exact got.elim
    | brk => exact got.elim
    | cont => exact got.elim
theorem pc_makKA {np nk m : Nat} (G : MakK X.prog X.w X.K X.mg X.base k c ps ks np F) (hr : Room (k + 1) X.A) (tk : Takes X W) (ha : PDA X W (e :: es) fa) (hkw : PDK X W kws fk) (hn : ps.length = m := by rfl) (hnk : ks.length = nk := by rfl) (hg : Gl X c := by rfl)
    (hall : (backToKw pos (keywordEach kws X.env)).all (·.1.isSome) = true := by rfl) (hks : (backToKw pos (keywordEach kws X.env)).filterMap (·.1) = ks := by rfl) (hdb : (c == ("__debug__" : Str)) = false := by decide)
    (he : starEach (e :: es) X.env = (false, eval e X.env) :: starEach es X.env := by rfl) (hpl : ((backTo pos (starEach (e :: es) X.env)).any (·.1) || (backToKw pos (keywordEach kws X.env)).any (·.1.isNone)) = false := by rfl) :
    PD X W (.Call (.Name c p) (e :: es) kws pos) (eMakeK c m np nk F fa fk) := by
  subst hn hnk
  obtain ⟨f, fd, gA, gV, hm, M, G', hb, hgv⟩ := G.ex
  obtain ⟨t, pa, sa⟩ := ha.ex
  obtain ⟨t', pk, sk⟩ := hkw.ex
  refine ⟨⟨fun σ H Q => tMakeK (He.ga X.K c) np ks.length (spD X.K ps.length F) gV (WE W σ) t t' σ H Q, ⟨fun pins s σ H Q I h => ?_⟩, fun g m σ ρ Q rp en q => sa g m σ ρ _ rp en (pre_bind q fun g1 m1 vs ds rp1 l1 il q1 => sk g1 m1 σ ρ _ rp1 (en.le l1) (pre_bind q1 fun g2 m2 zs es rp2 l2 il2 q2 => ?_))⟩⟩
  · refine wpAny_Call_Name_kw (ld_glob I hg hm ?_ hdb)
    refine PySem.W.callWith_KW (h₀ := X.base) I.ok.mod.kin M.kp hall (thn (pa.run pos pins s σ H _ I h) fun us s1 ⟨vs, H1, I1, r, q⟩ => ?_) hpl he
    refine thn (pk.run pos pins s1 σ H1 _ I1 q) fun ws s2 ⟨zs, H2, I2, rz, l1, l2, q2⟩ => ⟨I2.kIn, ?_⟩
    rw [hks]
    exact makeK_at M G' hr hb tk I2 r rz l1 l2 q2
  · split at q2
    · rename_i hl
      refine ⟨by rw [il.length]; exact hl.1, by rw [il2.length]; exact hl.2, ?_⟩
      intro y dx hy hdx ne
      rw [hgv]
      exact mk_ok (W := fun c d _ H' => W c d σ H') (σ := []) (σ0 := []) (flat_at W σ) rp2 ((il.le l2).append il2) q2.at y dx hy hdx ne
    · exact q2.elim
end
end DL
end
section
set_option maxRecDepth 100000
set_option maxHeartbeats 2000000
/-! The data layer, part 40: <= of texts; displays of dicts with texts or numbers as keys. -/
namespace DL
open PySem L2
open Classical
def hLeS : H2 := fun x y m => match x, y with
  | .str i, .str j => .ok (.bl (!decide (j.cps.toList < i.cps.toList))) m
  | _, _ => .bad
theorem sd_leS {K : PySem.W.Frag} : OpSd K (fun x y H Q => ∃ i j, x = .str i ∧ y = .str j ∧ Q (.bl (!decide (j.cps.toList < i.cps.toList))) H) hLeS := fun W σ g m x y dx dy Q rp ix iy q => by
  unfold hLeS at q
  split at q
  · cases ix
    cases iy
    exact ⟨_, _, rfl, rfl, pre_val rp q (.bl _)⟩
  · exact q.elim
def keysK : List (D × D) → Option (List (Key × D))
  | [] => some []
  | (d, v) :: r => (match keyV d, keysK r with
    | some k, some t => some ((k, v) :: t)
    | _, _ => none)
def eDispK (f : FP) : FE := fun ρ m => (f ρ (m ++ [.dK []])).bind fun ps m1 => match keysK ps, m1[m.length]? with
  | some kvs, some (.dK []) => if kvs.length ≤ 15 then .ok (.mref m.length) (m1.set m.length (.dK (allT [] kvs))) else .bad
  | _, _ => .bad
theorem keysK_ok {K : PySem.W.Frag} {g : Gh} {m : Mem} : ∀ {ps : List (V × V)} {ds : List (D × D)} {kvs : List (Key × D)}, IsGL K g m (ps.map (·.1)) (ds.map (·.1)) → IsGL K g m (ps.map (·.2)) (ds.map (·.2)) → keysK ds = some kvs →
    ∃ vs : List (Key × V), ps = vs.map (fun kv => (kV kv.1, kv.2)) ∧ vs.map (·.1) = kvs.map (·.1) ∧ IsGL K g m (vs.map (·.2)) (kvs.map (·.2)) ∧ vs.length = kvs.length
  | [], [], kvs, _, _, h => by
    cases h
    exact ⟨[], rfl, rfl, .nil, rfl⟩
  | [], _ :: _, _, h, _, _ => by cases h
  | _ :: _, [], _, h, _, _ => by cases h
  | p :: ps, (d, v) :: ds, kvs, l1, l2, h => by
    simp only [List.map_cons] at l1 l2
    cases l1 with
    | cons i1 l1 =>
      cases l2 with
      | cons i2 l2 =>
        simp only [keysK] at h
        split at h
        · rename_i k t e1 e2
          cases h
          obtain ⟨vs, h1, h2, h3, h4⟩ := keysK_ok l1 l2 e2
          obtain ⟨x, y⟩ := p
          have ek : x = kV k := keyV_ok i1 e1
          subst ek
          exact ⟨(k, y) :: vs, by simp only [List.map_cons]; rw [← h1], by simp only [List.map_cons]; rw [h2], .cons i2 h3, by simp [h4]⟩
        · cases h
section
variable {X : Cx} {W : WX} {pos : Pos} {ks : List (Option Expr)} {vs : List Expr} {f : FP}
theorem pd_dispK (h : PDP X W pos ks vs f) (hall : ks.all (·.isSome) = true := by rfl) (hl : ks.length = vs.length := by rfl) (h0 : ks ≠ [] := by exact List.cons_ne_nil _ _) (h15 : ks.length ≤ 15 := by decide) : PD X W (.Dict ks vs pos) (eDispK f) := by
  obtain ⟨t, p, s⟩ := h.ex
  refine ⟨⟨_, pe_disp p hall hl h0 h15, fun g m σ ρ Q rp en q a ha => ?_⟩⟩
  obtain ⟨r, l⟩ := rp.newM (o := .dK []) (mo := .dK []) ha (fun _ _ z => by cases z) ⟨rp.free ha, [], upd_same, rfl, .nil⟩
  have ea : (g.add m.length a (.dK [])).al m.length = a := if_pos rfl
  refine s _ _ σ ρ _ r (en.le l) (pre_bind (Pre.le q l) fun g1 m1 ps ds rp1 l1 ip q1 => ?_)
  have ea1 : g1.al m.length = a := (l1.al m.length (by simp)).trans ea
  split at q1
  · rename_i kvs e1 e2
    split at q1
    · rename_i hz
      obtain ⟨us, h1, h2, h3, h4⟩ := keysK_ok ip.1 ip.2 e1
      obtain ⟨b1, b2⟩ := allT_is (vs := []) (ds := []) h2 h3 rfl .nil
      obtain ⟨rp2, l2⟩ := dK_write rp1 e2 b1 b2
      obtain ⟨hf, ws, hu, hk, _⟩ := rp1.mem m.length _ e2
      have hm := (List.getElem?_eq_some_iff.mp e2).1
      have ws0 : ws = [] := by simpa using hk
      subst ws0
      rw [ea1] at hu rp2 l2
      refine ⟨hu, us, h1, by omega, q1 _ _ rp2 l2 ?_⟩
      have z : IsG X.K ⟨upd g1.H a (.dK (allK [] us)), g1.F, g1.al⟩ (m1.set m.length (.dK (allT [] kvs))) (.ref (g1.al m.length)) (.mref m.length) := .mref (by rw [List.length_set]; exact hm)
      rw [ea1] at z
      exact z
    · exact q1.elim
  · exact q1.elim
end
end DL
end
section
set_option maxRecDepth 100000
set_option maxHeartbeats 2000000
/-! The data layer, part 41: what the head tells, the statics among it. -/
namespace DL
open PySem L2
def asY (g : Addr → Option Obj) : Nat → List Addr
  | 0 => [mainGlobals]
  | n + 1 => He.growD g (asY g n)
def rootsY (g : Addr → Option Obj) (n : Nat) : List Addr := asY g n ++ [cStatics]
def obsY (n : Nat) (fa : List He.Fa) (fn : List He.DefD) (ex : PySem.W.Frag → Bool) (g : Addr → Option Obj) : He.AlX := (He.obsT fa fn [] (He.frT g (rootsY g n)), ex (He.frT g (rootsY g n)))
def hookY (n : Nat) (fa : List He.Fa) (fn : List He.DefD) (ex : PySem.W.Frag → Bool) : PySem.W.Hook where
  α := He.AlX
  obs := fun s => obsY n fa fn ex s.heap.get?
  val := fun w => He.valX fn [] w
  says := fun w h => ∃ K : PySem.W.Frag, K.In h ∧ He.SaysX fa fn [] [] ex w h K
  of := fun _ _ e => ⟨_, He.frT_in, ⟨congrArg (fun z : He.AlX => z.1) e, congrArg (fun z : He.AlX => z.2) e, fun _ z => (by cases z), fun _ z => (by cases z), fun _ z => (by cases z)⟩⟩
  keeps := fun _ _ _ ⟨K, hK, c⟩ k => ⟨K, PySem.W.Frag.In.keeps hK k, ⟨c.t, c.more, c.hd, c.out, fun p hp => k _ _ (c.empty p hp)⟩⟩
theorem obsY_eq {n : Nat} {fa : List He.Fa} {fn : List He.DefD} {ex : PySem.W.Frag → Bool} {g : Addr → Option Obj} {s : Shared} (h : ∀ a, g a = s.heap.get? a) : obsY n fa fn ex g = (hookY n fa fn ex).obs s := by
  have e : g = s.heap.get? := funext h
  subst e
  rfl
end DL
end
section
set_option maxRecDepth 100000
set_option maxHeartbeats 4000000
namespace K02
open PySem L2 DL
def own : List Str := ["Folders"]
noncomputable def b__law_start : FS :=
  sRt (eLstM (aCons (eCB hListM (aCons (eVar 0) (aNil))) (aCons (eC (.int 0)) (aCons (eC (.int 0)) (aCons (eC (.int 11)) (aNil))))))
noncomputable def F__law_start : HL := runF 1 b__law_start
noncomputable def b__law_draw : FS :=
  sSeq (sAsg (eOp hAdd (eOp hIx (eVar 0) (eC (.int 2))) (eC (.int 1))) (gIx (eVar 0) (eC (.int 2))))
  (sSeq (sIf (tAn (tTr (eOp (hEqP false) (eOp hIx (eVar 0) (eC (.int 1))) (eC (.int 0)))) (tTr (eOp (hEqP true) (eOp hIx (eVar 0) (eC (.int 0))) (eLst (aNil))))) (sSeq (sSet 3 (eM1 isLst hPop (eOp hIx (eVar 0) (eC (.int 0))) (eC (.int 0))))
  (sSeq (sAsg (eOp hMod (eCB hInt (aCons (eOp hAdd (eOp hAdd (eOp hMul (eOp hIx (eVar 0) (eC (.int 3))) (eC (.int 8191))) (eVar 3)) (eC (.int 3))) (aNil))) (eC (.int 2147483647))) (gIx (eVar 0) (eC (.int 3))))
  (sAsg (eIf (tTr (eOp hGe (eVar 3) (eOp hPow (eC (.int 10)) (eC (.int 18))))) (eVar 3) (eC (.int 0))) (gIx (eVar 0) (eC (.int 1)))))) (sNx))
  (sSeq (sIf (tTr (eOp hGt (eOp hIx (eVar 0) (eC (.int 1))) (eC (.int 0)))) (sSeq (sSet 4 (eOp hMod (eCB hInt (aCons (eOp hIx (eVar 0) (eC (.int 1))) (aNil))) (eVar 1)))
  (sSeq (sAsg (eOp hFdiv (eOp hIx (eVar 0) (eC (.int 1))) (eVar 1)) (gIx (eVar 0) (eC (.int 1))))
  (sRt (eVar 4)))) (sNx))
  (sSeq (sSet 2 (eOp hMod (eCB hInt (aCons (eOp hPow (eOp hAdd (eOp hAdd (eOp hIx (eVar 0) (eC (.int 3))) (eOp hMul (eC (.int 7919)) (eOp hIx (eVar 0) (eC (.int 2))))) (eC (.int 104729))) (eC (.int 5))) (aNil))) (eC (.int 2147483629))))
  (sRt (eOp hMod (eOp hMod (eCB hInt (aCons (eOp hPow (eOp hAdd (eOp hAdd (eOp hMul (eVar 2) (eC (.int 48271))) (eOp hMul (eC (.int 30011)) (eOp hIx (eVar 0) (eC (.int 2))))) (eC (.int 29))) (eC (.int 3))) (aNil))) (eC (.int 1000000007))) (eVar 1))))))
noncomputable def F__law_draw : HL := runF 5 b__law_draw
noncomputable def b__law_pick : FS :=
  sRt (eOp hIx (eVar 1) (eCall 2 F__law_draw [] (aCons (eVar 0) (aCons (eCB hLen (aCons (eVar 1) (aNil))) (aNil)))))
noncomputable def F__law_pick : HL := runF 2 b__law_pick
noncomputable def b__law_name : FS :=
  sSeq (sSet 1 (eOp hIx (eLst (aCons (eC (.int 1)) (aCons (eC (.int 1)) (aCons (eC (.int 2)) (aCons (eC (.int 3)) (aCons (eC (.int 5)) (aCons (eC (.int 8)) (aNil)))))))) (eCall 2 F__law_draw [] (aCons (eVar 0) (aCons (eC (.int 6)) (aNil))))))
  (sRt (eM1 isStr hJoin (eC (.str "")) (eLc false [2] (iRg1 (eVar 1)) (gN 2) (tY) (eCall 2 F__law_pick [] (aCons (eVar 0) (aCons (eC (.str "abcdefghijklmnopqrstuvwxyz")) (aNil)))))))
noncomputable def F__law_name : HL := runF 3 b__law_name
noncomputable def b__law_names : FS :=
  sSeq (sSet 2 (eLstM (aNil)))
  (sSeq (sFor (iRg1 (eVar 1)) (gN 3) (sSeq (sSet 4 (eOp hAdd (eLst (aCons (eCall 1 F__law_name [] (aCons (eVar 0) (aNil))) (aNil))) (eLc false [5] (iSeq (eC (.str "abcdefghijklmnop"))) (gN 5) (tY) (eOp hAdd (eVar 5) (eC (.str "jq"))))))
  (sEx (eApp (eVar 2) (eOp hIx (eLc false [6] (iSeq (eVar 4)) (gN 6) (tTr (eOp (hIn true) (eVar 6) (eVar 2))) (eVar 6)) (eC (.int 0)))))))
  (sRt (eFrz (eVar 2))))
noncomputable def F__law_names : HL := runF 7 b__law_names
noncomputable def b_is_list : FS :=
  sRt (eCB (hIsi own) (aCons (eVar 0) (aCons (eTup (aCons (eC (.ty "list")) (aCons (eC (.ty "tuple")) (aNil)))) (aNil))))
noncomputable def F_is_list : HL := runF 1 b_is_list
noncomputable def b_is_name : FS :=
  sRt (eAn (eCB (hIsi own) (aCons (eVar 0) (aCons (eC (.ty "str")) (aNil)))) (eAn (eCh hLe hLe (eC (.int 1)) (eCB hLen (aCons (eVar 0) (aNil))) (eC (.int 8))) (eCB (hBls (·.all id)) (aCons (eLc false [1] (iSeq (eVar 0)) (gN 1) (tY) (eOp (hInS false) (eVar 1) (eC (.str "abcdefghijklmnopqrstuvwxyz")))) (aNil)))))
noncomputable def F_is_name : HL := runF 2 b_is_name
noncomputable def b_Folders___init__ : FS :=
  sSeq (sIf (tOr' (tNo (tTr (eCall 1 F_is_list [] (aCons (eVar 1) (aNil))))) (tTr (eOp (hEqP false) (eCB hLen (aCons (eVar 1) (aNil))) (eC (.int 0))))) (sRaise "BadFolders" "index" (aCons (eC (.int 0)) (aNil))) (sNx))
  (sSeq (sSet 3 (eLstM (aNil)))
  (sSeq (sLkO 1 (sFor (iEnA (eVar 1)) (gT 2 (gsCons (gN 4) (gsCons (gN 5) (gsNil)))) (sSeq (sIf (tOr' (tNo (tTr (eCall 1 F_is_name [] (aCons (eVar 5) (aNil))))) (tOr' (tTr (eOp (hIn false) (eVar 5) (eVar 3))) (tTr (eOp hGe (eVar 4) (eIf (tTr (eVar 2)) (eC (.int 12)) (eC (.int 5))))))) (sRaise "BadFolders" "index" (aCons (eVar 4) (aNil))) (sNx))
  (sEx (eApp (eVar 3) (eVar 5))))))
  (sSeq (sFl ["Folders"] "names" (eVar 0) (eCB hTuple (aCons (eVar 3) (aNil))))
  (sFl ["Folders"] "chain" (eVar 0) (eVar 2)))))
noncomputable def F_Folders___init__ : HL := runF 6 b_Folders___init__
noncomputable def b__law_due : FS :=
  sSeq (sIf (tOr' (tNo (tTr (eCB (hIsi own) (aCons (eVar 0) (aCons (eTup (aCons (eC (.ty "list")) (aCons (eC (.ty "tuple")) (aNil)))) (aNil)))))) (tTr (eOp (hEqP false) (eCB hLen (aCons (eVar 0) (aNil))) (eC (.int 0))))) (sRt (eC (.int 0))) (sNx))
  (sSeq (sLkO 0 (sFor (iEnA (eVar 0)) (gT 2 (gsCons (gN 2) (gsCons (gN 3) (gsNil)))) (sSeq (sSet 4 (eIf (tTr (eCB (hIsi own) (aCons (eVar 3) (aCons (eC (.ty "str")) (aNil))))) (eLc false [5] (iSeq (eVar 3)) (gN 5) (tTr (eCh hLeS hLeS (eC (.str "a")) (eVar 5) (eC (.str "z")))) (eVar 5)) (eLst (aNil))))
  (sSeq (sIf (tOr' (tNo (tTr (eCB (hIsi own) (aCons (eVar 3) (aCons (eC (.ty "str")) (aNil)))))) (tOr' (tNo (tTr (eCh hLt hLt (eC (.int 0)) (eCB hLen (aCons (eVar 4) (aNil))) (eC (.int 9))))) (tTr (eOp (hEqP true) (eCB hLen (aCons (eVar 4) (aNil))) (eCB hLen (aCons (eVar 3) (aNil))))))) (sRt (eVar 2)) (sNx))
  (sIf (tOr' (tTr (eOp (hIn false) (eVar 3) (eSl false (eCB hList (aCons (eVar 0) (aNil))) (oNo) (oSo (eVar 2))))) (tTr (eOp (hEqP false) (eVar 2) (eIf (tTr (eVar 1)) (eC (.int 12)) (eC (.int 5)))))) (sRt (eVar 2)) (sNx))))))
  (sRt (eC .non)))
noncomputable def F__law_due : HL := runF 6 b__law_due
noncomputable def b__law_tried : FS :=
  sSeq (sSet 2 (eTup (aCons (eC (.str "odd")) (aNil))))
  (sSeq (sTry "BadFolders" 3 (sSet 2 (eTup (aCons (eC (.str "made")) (aCons (eAt ["Folders"] "names" (eFrz (eMakeK "Folders" 3 1 1 F_Folders___init__ (aCons (eVar 0) (aNil)) (aCons (eVar 1) (aNil))))) (aNil))))) (fun x_ => sSet 2 (eTup (aCons (eC (.str "bad")) (aCons (eXf "BadFolders" "index" x_) (aNil))))))
  (sRt (eVar 2)))
noncomputable def F__law_tried : HL := runF 4 b__law_tried
noncomputable def b__law_same (self_ : HL) : FS :=
  sSeq (sIf (tTr (eCB (hIsi own) (aCons (eVar 1) (aCons (eTup (aCons (eC (.ty "list")) (aCons (eC (.ty "tuple")) (aNil)))) (aNil))))) (sSeq (sIf (tOr' (tTr (eOp (hEqP true) (eCB (hIsi own) (aCons (eVar 0) (aCons (eC (.ty "list")) (aNil)))) (eCB (hIsi own) (aCons (eVar 1) (aCons (eC (.ty "list")) (aNil)))))) (tTr (eOp (hEqP true) (eCB (hIsi own) (aCons (eVar 0) (aCons (eC (.ty "tuple")) (aNil)))) (eCB (hIsi own) (aCons (eVar 1) (aCons (eC (.ty "tuple")) (aNil))))))) (sRt (eC (.bl false))) (sNx))
  (sRt (eAn (eOp (hEqP false) (eCB hLen (aCons (eVar 0) (aNil))) (eCB hLen (aCons (eVar 1) (aNil)))) (eCB (hBls (·.all id)) (aCons (eLkO 0 (eLc false [2, 3] (iZpA (eVar 0) (eVar 1)) (gT 2 (gsCons (gN 2) (gsCons (gN 3) (gsNil)))) (tY) (eCall 2 self_ [] (aCons (eVar 2) (aCons (eVar 3) (aNil)))))) (aNil)))))) (sNx))
  (sSeq (sIf (tTr (eCB (hIsi own) (aCons (eVar 1) (aCons (eC (.ty "int")) (aNil))))) (sRt (eAn (eCB (hIsi own) (aCons (eVar 0) (aCons (eC (.ty "int")) (aNil)))) (eAn (eOp (hEqP false) (eCB (hIsi own) (aCons (eVar 0) (aCons (eC (.ty "bool")) (aNil)))) (eCB (hIsi own) (aCons (eVar 1) (aCons (eC (.ty "bool")) (aNil))))) (eOp (hEqP false) (eVar 0) (eVar 1))))) (sNx))
  (sRt (eAn (eOp (hIsN false) (eCB (hIsi own) (aCons (eVar 0) (aCons (eTup (aCons (eC (.ty "int")) (aCons (eC (.ty "list")) (aCons (eC (.ty "tuple")) (aNil))))) (aNil)))) (eC (.bl false))) (eOp (hEqP false) (eVar 0) (eVar 1)))))
noncomputable def F__law_same : Nat → HL
  | 0 => fun _ _ => .bad
  | n + 1 => runF 4 (b__law_same (F__law_same n))
noncomputable def p_law_111 : FS :=
  sAsg (eCall 2 F__law_pick [] (aCons (eVar 1) (aCons (eOp hAdd (eVar 2) (eVar 6)) (aNil)))) (gIx (eVar 6) (eCall 2 F__law_draw [] (aCons (eVar 1) (aCons (eCB hLen (aCons (eVar 6) (aNil))) (aNil)))))
noncomputable def p_law_114 : FS :=
  sSet 7 (eCall 2 F__law_pick [] (aCons (eVar 1) (aCons (eLst (aCons (eLst (aNil)) (aCons (eTup (aNil)) (aCons (eC .non) (aCons (eC (.int 5)) (aCons (eC (.str "abc")) (aCons (eD0K) (aCons (eFrz (eDispK (fpCons (eC (.str "a")) (eC (.int 1)) (fpNil)))) (aCons (eC (.bl true)) (aCons (eFrz (eMake "Folders" 3 F_Folders___init__ [.bl false] (aCons (eLst (aCons (eC (.str "a")) (aNil))) (aNil)))) (aNil))))))))))) (aNil))))
noncomputable def p_law_118 : FS :=
  sRt (eC (.bl false))
noncomputable def p_law_107 : FS :=
  sSet 4 (eOp (hEqP false) (eCall 2 F__law_draw [] (aCons (eVar 1) (aCons (eC (.int 2)) (aNil)))) (eC (.int 0)))
noncomputable def p_law_108 : FS :=
  sSet 5 (eOp hAdd (eCall 2 F__law_names [] (aCons (eVar 1) (aCons (eC (.int 13)) (aNil)))) (eLst (aCons (eC (.str "zz")) (aNil))))
noncomputable def p_law_109 : FS :=
  sSet 6 (eSl true (eVar 5) (oNo) (oSo (eOp hAdd (eC (.int 1)) (eCall 2 F__law_draw [] (aCons (eVar 1) (aCons (eC (.int 14)) (aNil)))))))
noncomputable def p_law_110 : FS :=
  sIf (tTr (eOp hGt (eCall 2 F__law_draw [] (aCons (eVar 1) (aCons (eC (.int 3)) (aNil)))) (eC (.int 0)))) (p_law_111) (sNx)
noncomputable def p_law_112 : FS :=
  sSet 7 (eCall 2 F__law_pick [] (aCons (eVar 1) (aCons (eLst (aCons (eVar 6) (aCons (eCB hTuple (aCons (eVar 6) (aNil))) (aNil)))) (aNil))))
noncomputable def p_law_113 : FS :=
  sIf (tTr (eOp (hEqP false) (eCall 2 F__law_draw [] (aCons (eVar 1) (aCons (eC (.int 8)) (aNil)))) (eC (.int 0)))) (p_law_114) (sNx)
noncomputable def p_law_115 : FS :=
  sSet 8 (eCall 2 F__law_due [] (aCons (eVar 7) (aCons (eVar 4) (aNil))))
noncomputable def p_law_116 : FS :=
  sSet 9 (eIf (tTr (eOp (hIsN false) (eVar 8) (eC .non))) (eTup (aCons (eC (.str "made")) (aCons (eCB hTuple (aCons (eVar 7) (aNil))) (aNil)))) (eTup (aCons (eC (.str "bad")) (aCons (eVar 8) (aNil)))))
noncomputable def p_law_117 : FS :=
  sIf (tNo (tTr (eCall 2 (F__law_same 4) [] (aCons (eCall 2 F__law_tried [] (aCons (eVar 7) (aCons (eVar 4) (aNil)))) (aCons (eVar 9) (aNil)))))) (p_law_118) (sNx)
noncomputable def p_law_104 : FS :=
  sSet 1 (eCall 1 F__law_start [] (aCons (eVar 0) (aNil)))
noncomputable def p_law_105 : FS :=
  sSet 2 (eLst (aCons (eC .non) (aCons (eC (.int 5)) (aCons (eC (.str "")) (aCons (eC (.str "A")) (aCons (eC (.str "abcdefghi")) (aCons (eC (.str "a b")) (aCons (eC (.str "a1")) (aCons (eLst (aCons (eC (.str "a")) (aNil))) (aCons (eTup (aCons (eC (.str "a")) (aNil))) (aCons (eD0K) (aCons (eC (.bl true)) (aCons (eC (.str "-")) (aCons (eC (.str "aB")) (aCons (eC (.str "ab\n")) (aNil))))))))))))))))
noncomputable def p_law_106 : FS :=
  sFor (iRg1 (eC (.int 8))) (gN 3) (sSeq (p_law_107)
  (sSeq (p_law_108)
  (sSeq (p_law_109)
  (sSeq (p_law_110)
  (sSeq (p_law_112)
  (sSeq (p_law_113)
  (sSeq (p_law_115)
  (sSeq (p_law_116)
  (p_law_117)))))))))
noncomputable def p_law_119 : FS :=
  sRt (eC (.bl true))
noncomputable def b_law : FS :=
  sSeq (p_law_104)
  (sSeq (p_law_105)
  (sSeq (p_law_106)
  (p_law_119)))
noncomputable def F_law : HL := runF 10 b_law
end K02
end
section
set_option maxRecDepth 100000
set_option maxHeartbeats 4000000
namespace K02
open PySem L2 DL
def top (i : Nat) : Stmt := PySem.Challenge.pw_blockshares_k02_folders_refused.main.body.getD i (.Pass ⟨0, 0, 0, 0⟩)
abbrev s__law_start : Stmt := top 14
abbrev s__law_draw : Stmt := top 15
abbrev s__law_pick : Stmt := top 16
abbrev s__law_name : Stmt := top 18
abbrev s__law_names : Stmt := top 19
abbrev s_is_list : Stmt := top 8
abbrev s_is_name : Stmt := top 7
abbrev s_Folders___init__ : Stmt := inClass (top 12) 0
abbrev s__law_due : Stmt := top 20
abbrev s__law_tried : Stmt := top 21
abbrev s__law_same : Stmt := top 17
abbrev s_law : Stmt := top 22
abbrev P : Program := PySem.Challenge.pw_blockshares_k02_folders_refused
theorem sb_index : SupBinds "index" := fun _ _ _ _ _ _ _ _ _ _ _ _ _ _ _ _ _ => rfl
structure Tx (K : PySem.W.Frag) (mg : Str → Option Value) : Prop where
  f_all : mg "all" = none
  f_bool : mg "bool" = none
  f_enumerate : mg "enumerate" = none
  f_int : mg "int" = none
  f_isinstance : mg "isinstance" = none
  f_len : mg "len" = none
  f_list : mg "list" = none
  f_range : mg "range" = none
  f_str : mg "str" = none
  f_super : mg "super" = none
  f_tuple : mg "tuple" = none
  f_zip : mg "zip" = none
  c_LETTERS : ∃ t, mg "LETTERS" = some (.str "abcdefghijklmnopqrstuvwxyz" t)
  c_LONGEST : ∃ t, mg "LONGEST" = some (.int 8 t)
  c_MOST : ∃ t, mg "MOST" = some (.int 5 t)
  c_MOST_IN_CHAIN : ∃ t, mg "MOST_IN_CHAIN" = some (.int 12 t)
  kit : KitOk K own
  g_BadFolders : mg "BadFolders" = some (.ref (He.ga K "BadFolders"))
  at_chain : ∀ c ∈ (["Folders"] : List Str), Cls K (He.ga K c) ∧ NoAttr K (He.ga K c) "chain"
  at_names : ∀ c ∈ (["Folders"] : List Str), Cls K (He.ga K c) ∧ NoAttr K (He.ga K c) "names"
  sup_BadFolders : SupC P K mg (He.ga K "BadFolders") "index"
  xf_BadFolders : XfC K (He.ga K "BadFolders")
  no_BadFolders : PySem.W.findIn K (.ref (He.ga K "BadFolders")) "index" = some none
  exm_BadFolders : PySem.W.exmOne K (.ref (He.ga K "BadFolders")) (.ref (He.ga K "BadFolders")) = some true
  d__law_start : mg "_law_start" = some (.ref (He.fAd K ("_law_start", none))) ∧ ∃ fd, FunD K "_law_start" "_law_start" (defArgs s__law_start) (defBody s__law_start) (defScope s__law_start) [] [] (He.fAd K ("_law_start", none)) fd
  d__law_draw : mg "_law_draw" = some (.ref (He.fAd K ("_law_draw", none))) ∧ ∃ fd, FunD K "_law_draw" "_law_draw" (defArgs s__law_draw) (defBody s__law_draw) (defScope s__law_draw) [] [] (He.fAd K ("_law_draw", none)) fd
  d__law_pick : mg "_law_pick" = some (.ref (He.fAd K ("_law_pick", none))) ∧ ∃ fd, FunD K "_law_pick" "_law_pick" (defArgs s__law_pick) (defBody s__law_pick) (defScope s__law_pick) [] [] (He.fAd K ("_law_pick", none)) fd
  d__law_name : mg "_law_name" = some (.ref (He.fAd K ("_law_name", none))) ∧ ∃ fd, FunD K "_law_name" "_law_name" (defArgs s__law_name) (defBody s__law_name) (defScope s__law_name) [] [] (He.fAd K ("_law_name", none)) fd
  d__law_names : mg "_law_names" = some (.ref (He.fAd K ("_law_names", none))) ∧ ∃ fd, FunD K "_law_names" "_law_names" (defArgs s__law_names) (defBody s__law_names) (defScope s__law_names) [] [] (He.fAd K ("_law_names", none)) fd
  d_is_list : mg "is_list" = some (.ref (He.fAd K ("is_list", none))) ∧ ∃ fd, FunD K "is_list" "is_list" (defArgs s_is_list) (defBody s_is_list) (defScope s_is_list) [] [] (He.fAd K ("is_list", none)) fd
  d_is_name : mg "is_name" = some (.ref (He.fAd K ("is_name", none))) ∧ ∃ fd, FunD K "is_name" "is_name" (defArgs s_is_name) (defBody s_is_name) (defScope s_is_name) [] [] (He.fAd K ("is_name", none)) fd
  d_Folders___init__ : mg "Folders" = some (.ref (He.ga K "Folders")) ∧ Mk K (He.ga K "Folders") (He.fAd K ("Folders", some "__init__")) ∧ ∃ fd, FunD K "__init__" "Folders.__init__" (defArgs s_Folders___init__) (defBody s_Folders___init__) (defScope s_Folders___init__) [] [("chain", .bl false)] (He.fAd K ("Folders", some "__init__")) fd
  d__law_due : mg "_law_due" = some (.ref (He.fAd K ("_law_due", none))) ∧ ∃ fd, FunD K "_law_due" "_law_due" (defArgs s__law_due) (defBody s__law_due) (defScope s__law_due) [] [] (He.fAd K ("_law_due", none)) fd
  d__law_tried : mg "_law_tried" = some (.ref (He.fAd K ("_law_tried", none))) ∧ ∃ fd, FunD K "_law_tried" "_law_tried" (defArgs s__law_tried) (defBody s__law_tried) (defScope s__law_tried) [] [] (He.fAd K ("_law_tried", none)) fd
  d__law_same : mg "_law_same" = some (.ref (He.fAd K ("_law_same", none))) ∧ ∃ fd, FunD K "_law_same" "_law_same" (defArgs s__law_same) (defBody s__law_same) (defScope s__law_same) [] [] (He.fAd K ("_law_same", none)) fd
  d_law : mg "law" = some (.ref (He.fAd K ("law", none))) ∧ ∃ fd, FunD K "law" "law" (defArgs s_law) (defBody s_law) (defScope s_law) [] [] (He.fAd K ("law", none)) fd
section
variable {w : World} {K : PySem.W.Frag} {mg : Str → Option Value} {base : Heap}
theorem sc__law_start : FnScope ["_law_script"] ["_law_script"] (defScope s__law_start) := ⟨rfl, rfl, rfl, by decide +kernel, rfl, by decide +kernel, by decide +kernel⟩
theorem fn__law_start (T : Tx K mg) {f : Addr} {fd : FuncData} {dvs : List V} {kws : List (Str × V)} (F : FunD K "_law_start" "_law_start" (defArgs s__law_start) (defBody s__law_start) (defScope s__law_start) dvs kws f fd) : FnD P w K mg base 1 f fd ["_law_script"] F__law_start :=
  fn_ok (k := 0) F sc__law_start (fun cdv A outer s H E hr => (pdss_one (pds_ret (pd_lstM (pda_cons (bf_listM T.f_list (pda_cons (pd_var 0) pda_nil)) (pda_cons pd_int (pda_cons pd_int (pda_cons pd_int pda_nil))))))))
theorem ok__law_start (T : Tx K mg) : Def1 P w K mg base 1 "_law_start" ["_law_script"] [] F__law_start := by
  obtain ⟨hm, fd, F⟩ := T.d__law_start
  exact ⟨⟨_, fd, [], [], hm, F.kp, fn__law_start T F, F.bindsN (fun _ _ _ _ _ _ us hl => match us, hl with | [_], _ => rfl), .nil, fun _ _ => .nil⟩⟩
theorem sc__law_draw : FnScope ["_law_stream", "_law_many", "_law_mixed", "_law_cell", "_law_digit"] ["_law_stream", "_law_many"] (defScope s__law_draw) := ⟨rfl, rfl, rfl, by decide +kernel, rfl, by decide +kernel, by decide +kernel⟩
theorem fn__law_draw (T : Tx K mg) {f : Addr} {fd : FuncData} {dvs : List V} {kws : List (Str × V)} (F : FunD K "_law_draw" "_law_draw" (defArgs s__law_draw) (defBody s__law_draw) (defScope s__law_draw) dvs kws f fd) : FnD P w K mg base 1 f fd ["_law_stream", "_law_many"] F__law_draw :=
  fn_ok (k := 0) F sc__law_draw (fun cdv A outer s H E hr => (pdss_cons (pds_asg (pd_add (pd_ix (pd_var 0) pd_int) pd_int) (pdg_ix (pd_var 0) pd_int))
      (pdss_cons (pds_if (PDW.pdt (pdw_and (ct_eq hr (pd_ix (pd_var 0) pd_int) pd_int) (pdw_and1 (ct_ne hr (pd_ix (pd_var 0) pd_int) (pd_lst pda_nil))))) (pdss_cons (pds_set 3 sc__law_draw.nd (pd_pop (pd_ix (pd_var 0) pd_int) pd_int))
      (pdss_cons (pds_asg (pd_mod (bf_int T.f_int (pda_cons (pd_add (pd_add (pd_mul (pd_ix (pd_var 0) pd_int) pd_int) (pd_var 3)) pd_int) pda_nil)) pd_int) (pdg_ix (pd_var 0) pd_int))
      (pdss_one (pds_asg (pd_if (ct_ge (pd_var 3) (pd_pow pd_int pd_int)) (pd_var 3) pd_int) (pdg_ix (pd_var 0) pd_int))))) pdss_nil)
      (pdss_cons (pds_if (ct_gt (pd_ix (pd_var 0) pd_int) pd_int) (pdss_cons (pds_set 4 sc__law_draw.nd (pd_mod (bf_int T.f_int (pda_cons (pd_ix (pd_var 0) pd_int) pda_nil)) (pd_var 1)))
      (pdss_cons (pds_asg (pd_fdiv (pd_ix (pd_var 0) pd_int) (pd_var 1)) (pdg_ix (pd_var 0) pd_int))
      (pdss_one (pds_ret (pd_var 4))))) pdss_nil)
      (pdss_cons (pds_set 2 sc__law_draw.nd (pd_mod (bf_int T.f_int (pda_cons (pd_pow (pd_add (pd_add (pd_ix (pd_var 0) pd_int) (pd_mul pd_int (pd_ix (pd_var 0) pd_int))) pd_int) pd_int) pda_nil)) pd_int))
      (pdss_one (pds_ret (pd_mod (pd_mod (bf_int T.f_int (pda_cons (pd_pow (pd_add (pd_add (pd_mul (pd_var 2) pd_int) (pd_mul pd_int (pd_ix (pd_var 0) pd_int))) pd_int) pd_int) pda_nil)) pd_int) (pd_var 1)))))))))
theorem ok__law_draw (T : Tx K mg) : Def1 P w K mg base 1 "_law_draw" ["_law_stream", "_law_many"] [] F__law_draw := by
  obtain ⟨hm, fd, F⟩ := T.d__law_draw
  exact ⟨⟨_, fd, [], [], hm, F.kp, fn__law_draw T F, F.bindsN (fun _ _ _ _ _ _ us hl => match us, hl with | [_, _], _ => rfl), .nil, fun _ _ => .nil⟩⟩
theorem sc__law_pick : FnScope ["_law_stream", "_law_some"] ["_law_stream", "_law_some"] (defScope s__law_pick) := ⟨rfl, rfl, rfl, by decide +kernel, rfl, by decide +kernel, by decide +kernel⟩
theorem fn__law_pick (T : Tx K mg) {f : Addr} {fd : FuncData} {dvs : List V} {kws : List (Str × V)} (F : FunD K "_law_pick" "_law_pick" (defArgs s__law_pick) (defBody s__law_pick) (defScope s__law_pick) dvs kws f fd) : FnD P w K mg base 2 f fd ["_law_stream", "_law_some"] F__law_pick :=
  fn_ok (k := 1) F sc__law_pick (fun cdv A outer s H E hr => (pdss_one (pds_ret (pd_ix (pd_var 1) (pc_defN (ok__law_draw T) (hr.mono (by first | decide | omega)) (takes_of rfl rfl rfl rfl) (pda_cons (pd_var 0) (pda_cons (bf_len T.f_len (pda_cons (pd_var 1) pda_nil)) pda_nil)))))))
theorem ok__law_pick (T : Tx K mg) : Def1 P w K mg base 2 "_law_pick" ["_law_stream", "_law_some"] [] F__law_pick := by
  obtain ⟨hm, fd, F⟩ := T.d__law_pick
  exact ⟨⟨_, fd, [], [], hm, F.kp, fn__law_pick T F, F.bindsN (fun _ _ _ _ _ _ us hl => match us, hl with | [_, _], _ => rfl), .nil, fun _ _ => .nil⟩⟩
theorem sc__law_name : FnScope ["_law_stream", "_law_width", "_law_k"] ["_law_stream"] (defScope s__law_name) := ⟨rfl, rfl, rfl, by decide +kernel, rfl, by decide +kernel, by decide +kernel⟩
theorem fn__law_name (T : Tx K mg) {f : Addr} {fd : FuncData} {dvs : List V} {kws : List (Str × V)} (F : FunD K "_law_name" "_law_name" (defArgs s__law_name) (defBody s__law_name) (defScope s__law_name) dvs kws f fd) : FnD P w K mg base 3 f fd ["_law_stream"] F__law_name :=
  fn_ok (k := 2) F sc__law_name (fun cdv A outer s H E hr => (pdss_cons (pds_set 1 sc__law_name.nd (pd_ix (pd_lst (pda_cons pd_int (pda_cons pd_int (pda_cons pd_int (pda_cons pd_int (pda_cons pd_int (pda_cons pd_int pda_nil))))))) (pc_defN (ok__law_draw T) (hr.mono (by first | decide | omega)) (takes_of rfl rfl rfl rfl) (pda_cons (pd_var 0) (pda_cons pd_int pda_nil)))))
      (pdss_one (pds_ret (pd_join pd_str (pd_lc false (own := [("_law_k", 2)]) rfl sc__law_name.nd (blkOk_by (by kernel_rfl)) (pdi_range1 rfl T.f_range (pd_var 1)) (fun _ _ _ _ _ => (pdg_name 2 sc__law_name.nd)) (by decide) (fun _ _ _ _ _ => pdts_nil) (fun _ _ _ _ _ => (pc_defN (ok__law_pick T) (hr.mono (by first | decide | omega)) takes0 (pda_cons (pd_var 0) (pda_cons pd_str pda_nil))))))))))
theorem ok__law_name (T : Tx K mg) : Def1 P w K mg base 3 "_law_name" ["_law_stream"] [] F__law_name := by
  obtain ⟨hm, fd, F⟩ := T.d__law_name
  exact ⟨⟨_, fd, [], [], hm, F.kp, fn__law_name T F, F.bindsN (fun _ _ _ _ _ _ us hl => match us, hl with | [_], _ => rfl), .nil, fun _ _ => .nil⟩⟩
theorem sc__law_names : FnScope ["_law_stream", "_law_many", "_law_found", "_law_k", "_law_spare", "_law_letter", "_law_x"] ["_law_stream", "_law_many"] (defScope s__law_names) := ⟨rfl, rfl, rfl, by decide +kernel, rfl, by decide +kernel, by decide +kernel⟩
theorem fn__law_names (T : Tx K mg) {f : Addr} {fd : FuncData} {dvs : List V} {kws : List (Str × V)} (F : FunD K "_law_names" "_law_names" (defArgs s__law_names) (defBody s__law_names) (defScope s__law_names) dvs kws f fd) : FnD P w K mg base 4 f fd ["_law_stream", "_law_many"] F__law_names :=
  fn_ok (k := 3) F sc__law_names (fun cdv A outer s H E hr => (pdss_cons (pds_set 2 sc__law_names.nd (pd_lstM pda_nil))
      (pdss_cons (pds_for (passes_of rfl) rfl (pdi_range1 rfl T.f_range (pd_var 1)) (pdg_name 3 sc__law_names.nd) (pdss_cons (pds_set 4 sc__law_names.nd (pd_add (pd_lst (pda_cons (pc_defN (ok__law_name T) (hr.mono (by first | decide | omega)) (takes_of rfl rfl rfl rfl) (pda_cons (pd_var 0) pda_nil)) pda_nil)) (pd_lc false (own := [("_law_letter", 5)]) rfl sc__law_names.nd (blkOk_by (by kernel_rfl)) (pdi_seq pd_str) (fun _ _ _ _ _ => (pdg_name 5 sc__law_names.nd)) (by decide) (fun _ _ _ _ _ => pdts_nil) (fun _ _ _ _ _ => (pd_add (pd_var 5) pd_str)))))
      (pdss_one (pds_expr (pd_append (pd_var 2) (pd_ix (pd_lc false (own := [("_law_x", 6)]) rfl sc__law_names.nd (blkOk_by (by kernel_rfl)) (pdi_seq (pd_var 4)) (fun _ _ _ _ _ => (pdg_name 6 sc__law_names.nd)) (by decide) (fun _ _ _ _ _ => (pdts_one (ct_nin (pd_var 6) (pd_var 2)))) (fun _ _ _ _ _ => (pd_var 6))) pd_int))))))
      (pdss_one (pds_ret (pd_frz (pd_var 2)))))))
theorem ok__law_names (T : Tx K mg) : Def1 P w K mg base 4 "_law_names" ["_law_stream", "_law_many"] [] F__law_names := by
  obtain ⟨hm, fd, F⟩ := T.d__law_names
  exact ⟨⟨_, fd, [], [], hm, F.kp, fn__law_names T F, F.bindsN (fun _ _ _ _ _ _ us hl => match us, hl with | [_, _], _ => rfl), .nil, fun _ _ => .nil⟩⟩
theorem sc_is_list : FnScope ["thing"] ["thing"] (defScope s_is_list) := ⟨rfl, rfl, rfl, by decide +kernel, rfl, by decide +kernel, by decide +kernel⟩
theorem fn_is_list (T : Tx K mg) {f : Addr} {fd : FuncData} {dvs : List V} {kws : List (Str × V)} (F : FunD K "is_list" "is_list" (defArgs s_is_list) (defBody s_is_list) (defScope s_is_list) dvs kws f fd) : FnD P w K mg base 1 f fd ["thing"] F_is_list :=
  fn_ok (k := 0) F sc_is_list (fun cdv A outer s H E hr => (pdss_one (pds_ret (bf_isi T.kit T.f_isinstance (pda_cons (pd_var 0) (pda_cons (pd_tup (pda_cons (pd_bltn rfl T.f_list (by decide +kernel)) (pda_cons (pd_bltn rfl T.f_tuple (by decide +kernel)) pda_nil))) pda_nil))))))
theorem ok_is_list (T : Tx K mg) : Def1 P w K mg base 1 "is_list" ["thing"] [] F_is_list := by
  obtain ⟨hm, fd, F⟩ := T.d_is_list
  exact ⟨⟨_, fd, [], [], hm, F.kp, fn_is_list T F, F.bindsN (fun _ _ _ _ _ _ us hl => match us, hl with | [_], _ => rfl), .nil, fun _ _ => .nil⟩⟩
theorem sc_is_name : FnScope ["thing", "sign"] ["thing"] (defScope s_is_name) := ⟨rfl, rfl, rfl, by decide +kernel, rfl, by decide +kernel, by decide +kernel⟩
theorem fn_is_name (T : Tx K mg) {f : Addr} {fd : FuncData} {dvs : List V} {kws : List (Str × V)} (F : FunD K "is_name" "is_name" (defArgs s_is_name) (defBody s_is_name) (defScope s_is_name) dvs kws f fd) : FnD P w K mg base 1 f fd ["thing"] F_is_name :=
  fn_ok (k := 0) F sc_is_name (fun cdv A outer s H E hr => (pdss_one (pds_ret (pd_and (bf_isi T.kit T.f_isinstance (pda_cons (pd_var 0) (pda_cons (pd_bltn rfl T.f_str (by decide +kernel)) pda_nil))) (pd_and (pd_ch op_le op_le (sd_cmp _ _) (sd_cmp _ _) pd_int (bf_len T.f_len (pda_cons (pd_var 0) pda_nil)) (pg_i T.c_LONGEST)) (pd_one (bf_all rfl T.f_all (pda_cons (pd_lc false (own := [("sign", 1)]) rfl sc_is_name.nd (blkOk_by (by kernel_rfl)) (pdi_seq (pd_var 0)) (fun _ _ _ _ _ => (pdg_name 1 sc_is_name.nd)) (by decide) (fun _ _ _ _ _ => pdts_nil) (fun _ _ _ _ _ => (cm_inS (pd_var 1) (pg_s T.c_LETTERS)))) pda_nil))))))))
theorem ok_is_name (T : Tx K mg) : Def1 P w K mg base 1 "is_name" ["thing"] [] F_is_name := by
  obtain ⟨hm, fd, F⟩ := T.d_is_name
  exact ⟨⟨_, fd, [], [], hm, F.kp, fn_is_name T F, F.bindsN (fun _ _ _ _ _ _ us hl => match us, hl with | [_], _ => rfl), .nil, fun _ _ => .nil⟩⟩
theorem sc_Folders___init__ : FnScope ["self", "names", "chain", "kept", "index", "name"] ["self", "names", "chain"] (defScope s_Folders___init__) := ⟨rfl, rfl, rfl, by decide +kernel, rfl, by decide +kernel, by decide +kernel⟩
theorem fn_Folders___init__ (T : Tx K mg) {f : Addr} {fd : FuncData} {dvs : List V} {kws : List (Str × V)} (F : FunD K "__init__" "Folders.__init__" (defArgs s_Folders___init__) (defBody s_Folders___init__) (defScope s_Folders___init__) dvs kws f fd) : FnD P w K mg base 2 f fd ["self", "names", "chain"] F_Folders___init__ :=
  fn_ok (k := 1) F sc_Folders___init__ (fun cdv A outer s H E hr => (pdss_cons (pds_if (PDW.pdt (pdw_or (pdt_not (pdt_val (pc_defN (ok_is_list T) (hr.mono (by first | decide | omega)) (takes_of rfl rfl rfl rfl) (pda_cons (pd_var 1) pda_nil)))) (pdw_or1 (ct_eq hr (bf_len T.f_len (pda_cons (pd_var 1) pda_nil)) pd_int)))) (pdss_one (pds_raise (k := 0) T.sup_BadFolders rfl (takes_of rfl rfl rfl rfl) (hr.mono (by first | decide | omega)) T.g_BadFolders (pda_cons pd_int pda_nil))) pdss_nil)
      (pdss_cons (pds_set 3 sc_Folders___init__.nd (pd_lstM pda_nil))
      (pdss_cons (pds_lkO 1 (pds_for (passes_of rfl) rfl (pdi_enumA rfl T.f_enumerate (pd_var 1)) (pdg_tup rfl (pdgs_cons (pdg_name 4 sc_Folders___init__.nd) (pdgs_cons (pdg_name 5 sc_Folders___init__.nd) pdgs_nil nox_nil) (nox_cons (nox_gN 5) nox_nil))) (pdss_cons (pds_if (PDW.pdt (pdw_or (pdt_not (pdt_val (pc_defN (ok_is_name T) (hr.mono (by first | decide | omega)) (takes_of rfl rfl rfl rfl) (pda_cons (pd_var 5) pda_nil)))) (pdw_or (ct_in (pd_var 5) (pd_var 3)) (pdw_or1 (ct_ge (pd_var 4) (pd_if (pdt_val (pd_var 2)) (pg_i T.c_MOST_IN_CHAIN) (pg_i T.c_MOST))))))) (pdss_one (pds_raise (k := 0) T.sup_BadFolders rfl (takes_of rfl rfl rfl rfl) (hr.mono (by first | decide | omega)) T.g_BadFolders (pda_cons (pd_var 4) pda_nil))) pdss_nil)
      (pdss_one (pds_expr (pd_append (pd_var 3) (pd_var 5)))))))
      (pdss_cons (pds_fld T.at_names (pd_var 0) (bf_tuple T.f_tuple (pda_cons (pd_var 3) pda_nil)))
      (pdss_one (pds_fld T.at_chain (pd_var 0) (pd_var 2))))))))
theorem ok1_Folders (T : Tx K mg) : Mak1 P w K mg base 2 "Folders" ["self", "names", "chain"] [.bl false] F_Folders___init__ := by
  obtain ⟨hg, hk, fd, F⟩ := T.d_Folders___init__
  obtain ⟨ds, hv, hb⟩ := F.binds0 (ps := ["self", "names", "chain"]) 2 (by simp) rfl (fun _ _ _ _ _ _ us ks h1 h2 => match us, h1, ks, h2 with | [_, _], _, [_], _ => ⟨_, _, _, _, _, _, rfl, rfl, rfl⟩)
  exact ⟨⟨_, fd, _, ds, hg, hk, fn_Folders___init__ T F, hb, hv, fun _ _ => .cons (.bl false) (.nil)⟩⟩
theorem okK_Folders (T : Tx K mg) : MakK P w K mg base 2 "Folders" ["self", "names", "chain"] ["chain"] 1 F_Folders___init__ := by
  obtain ⟨hg, hk, fd, F⟩ := T.d_Folders___init__
  obtain ⟨mv, hb⟩ := F.kbinds0 (ps := ["self", "names", "chain"]) 2 ["chain"] [] (fun us mv ws => us ++ ws) (by simp) (fun _ h => by simp at h) (fun r1 _ r3 => r1.append r3) (fun _ _ _ _ _ _ us mv ws h1 h2 h3 => match us, h1, mv, h2, ws, h3 with | [_, _], _, [], _, [_], _ => rfl)
  exact ⟨⟨_, fd, _, _, hg, hk, fn_Folders___init__ T F, hb, fun _ _ _ => rfl⟩⟩
theorem sc__law_due : FnScope ["_law_things", "_law_is_chain", "_law_at", "_law_thing", "_law_letters", "_law_sign"] ["_law_things", "_law_is_chain"] (defScope s__law_due) := ⟨rfl, rfl, rfl, by decide +kernel, rfl, by decide +kernel, by decide +kernel⟩
theorem fn__law_due (T : Tx K mg) {f : Addr} {fd : FuncData} {dvs : List V} {kws : List (Str × V)} (F : FunD K "_law_due" "_law_due" (defArgs s__law_due) (defBody s__law_due) (defScope s__law_due) dvs kws f fd) : FnD P w K mg base 1 f fd ["_law_things", "_law_is_chain"] F__law_due :=
  fn_ok (k := 0) F sc__law_due (fun cdv A outer s H E hr => (pdss_cons (pds_if (PDW.pdt (pdw_or (pdt_not (pdt_val (bf_isi T.kit T.f_isinstance (pda_cons (pd_var 0) (pda_cons (pd_tup (pda_cons (pd_bltn rfl T.f_list (by decide +kernel)) (pda_cons (pd_bltn rfl T.f_tuple (by decide +kernel)) pda_nil))) pda_nil))))) (pdw_or1 (ct_eq hr (bf_len T.f_len (pda_cons (pd_var 0) pda_nil)) pd_int)))) (pdss_one (pds_ret pd_int)) pdss_nil)
      (pdss_cons (pds_lkO 0 (pds_for (passes_of rfl) rfl (pdi_enumA rfl T.f_enumerate (pd_var 0)) (pdg_tup rfl (pdgs_cons (pdg_name 2 sc__law_due.nd) (pdgs_cons (pdg_name 3 sc__law_due.nd) pdgs_nil nox_nil) (nox_cons (nox_gN 3) nox_nil))) (pdss_cons (pds_set 4 sc__law_due.nd (pd_if (pdt_val (bf_isi T.kit T.f_isinstance (pda_cons (pd_var 3) (pda_cons (pd_bltn rfl T.f_str (by decide +kernel)) pda_nil)))) (pd_lc false (own := [("_law_sign", 5)]) rfl sc__law_due.nd (blkOk_by (by kernel_rfl)) (pdi_seq (pd_var 3)) (fun _ _ _ _ _ => (pdg_name 5 sc__law_due.nd)) (by decide) (fun _ _ _ _ _ => (pdts_one (pdt_ch op_le_str op_le_str sd_leS sd_leS pd_str (pd_var 5) pd_str))) (fun _ _ _ _ _ => (pd_var 5))) (pd_lst pda_nil)))
      (pdss_cons (pds_if (PDW.pdt (pdw_or (pdt_not (pdt_val (bf_isi T.kit T.f_isinstance (pda_cons (pd_var 3) (pda_cons (pd_bltn rfl T.f_str (by decide +kernel)) pda_nil))))) (pdw_or (pdt_not (pdt_ch op_lt op_lt (sd_cmp _ _) (sd_cmp _ _) pd_int (bf_len T.f_len (pda_cons (pd_var 4) pda_nil)) pd_int)) (pdw_or1 (ct_ne hr (bf_len T.f_len (pda_cons (pd_var 4) pda_nil)) (bf_len T.f_len (pda_cons (pd_var 3) pda_nil))))))) (pdss_one (pds_ret (pd_var 2))) pdss_nil)
      (pdss_one (pds_if (PDW.pdt (pdw_or (ct_in (pd_var 3) (pd_slice false (bf_list T.f_list (pda_cons (pd_var 0) pda_nil)) pdo_no (pdo_so (pd_var 2)))) (pdw_or1 (ct_eq hr (pd_var 2) (pd_if (pdt_val (pd_var 1)) pd_int pd_int))))) (pdss_one (pds_ret (pd_var 2))) pdss_nil))))))
      (pdss_one (pds_ret pd_non)))))
theorem ok__law_due (T : Tx K mg) : Def1 P w K mg base 1 "_law_due" ["_law_things", "_law_is_chain"] [] F__law_due := by
  obtain ⟨hm, fd, F⟩ := T.d__law_due
  exact ⟨⟨_, fd, [], [], hm, F.kp, fn__law_due T F, F.bindsN (fun _ _ _ _ _ _ us hl => match us, hl with | [_, _], _ => rfl), .nil, fun _ _ => .nil⟩⟩
theorem sc__law_tried : FnScope ["_law_things", "_law_is_chain", "_law_found", "e"] ["_law_things", "_law_is_chain"] (defScope s__law_tried) := ⟨rfl, rfl, rfl, by decide +kernel, rfl, by decide +kernel, by decide +kernel⟩
theorem fn__law_tried (T : Tx K mg) {f : Addr} {fd : FuncData} {dvs : List V} {kws : List (Str × V)} (F : FunD K "_law_tried" "_law_tried" (defArgs s__law_tried) (defBody s__law_tried) (defScope s__law_tried) dvs kws f fd) : FnD P w K mg base 4 f fd ["_law_things", "_law_is_chain"] F__law_tried :=
  fn_ok (k := 3) F sc__law_tried (fun cdv A outer s H E hr => (pdss_cons (pds_set 2 sc__law_tried.nd (pd_tup (pda_cons pd_str pda_nil)))
      (pdss_cons (pds_try rfl rfl sc__law_tried.nd rfl rfl ⟨rfl, by decide, .inl T.g_BadFolders⟩ (takes_of rfl rfl rfl rfl) T.exm_BadFolders (fun W9 pn9 xe9 tk9 => (pdss_one (pds_set 2 sc__law_tried.nd (pd_tup (pda_cons pd_str (pda_cons (pd_at T.at_names (pd_frz (pc_makKA (okK_Folders T) (hr.mono (by first | decide | omega)) tk9 (pda_cons (pd_var 0) pda_nil) (pdk_cons (pd_var 1) pdk_nil)))) pda_nil)))))) (pdx_set sc__law_tried.nd (px_tup (pax_cons (px_pd fun _ _ _ => pd_str) (pax_cons (px_at T.xf_BadFolders T.no_BadFolders rfl (Or.inl rfl)) pax_nil)))))
      (pdss_one (pds_ret (pd_var 2))))))
theorem ok__law_tried (T : Tx K mg) : Def1 P w K mg base 4 "_law_tried" ["_law_things", "_law_is_chain"] [] F__law_tried := by
  obtain ⟨hm, fd, F⟩ := T.d__law_tried
  exact ⟨⟨_, fd, [], [], hm, F.kp, fn__law_tried T F, F.bindsN (fun _ _ _ _ _ _ us hl => match us, hl with | [_, _], _ => rfl), .nil, fun _ _ => .nil⟩⟩
theorem sc__law_same : FnScope ["_law_found", "_law_due_here", "_law_x", "_law_y"] ["_law_found", "_law_due_here"] (defScope s__law_same) := ⟨rfl, rfl, rfl, by decide +kernel, rfl, by decide +kernel, by decide +kernel⟩
theorem fn__law_same (T : Tx K mg) (n : Nat) {f : Addr} {fd : FuncData} {dvs : List V} {kws : List (Str × V)} {self_ : HL} (ih : ∀ {w : World} {base : Heap}, Def1 P w K mg base (0 + n) "_law_same" ["_law_found", "_law_due_here"] [] self_) (F : FunD K "_law_same" "_law_same" (defArgs s__law_same) (defBody s__law_same) (defScope s__law_same) dvs kws f fd) : FnD P w K mg base (0 + n + 1) f fd ["_law_found", "_law_due_here"] (runF 4 (b__law_same self_)) :=
  fn_ok (k := 0 + n) F sc__law_same (fun cdv A outer s H E hr => (pdss_cons (pds_if (pdt_val (bf_isi T.kit T.f_isinstance (pda_cons (pd_var 1) (pda_cons (pd_tup (pda_cons (pd_bltn rfl T.f_list (by decide +kernel)) (pda_cons (pd_bltn rfl T.f_tuple (by decide +kernel)) pda_nil))) pda_nil)))) (pdss_cons (pds_if (PDW.pdt (pdw_or (ct_ne hr (bf_isi T.kit T.f_isinstance (pda_cons (pd_var 0) (pda_cons (pd_bltn rfl T.f_list (by decide +kernel)) pda_nil))) (bf_isi T.kit T.f_isinstance (pda_cons (pd_var 1) (pda_cons (pd_bltn rfl T.f_list (by decide +kernel)) pda_nil)))) (pdw_or1 (ct_ne hr (bf_isi T.kit T.f_isinstance (pda_cons (pd_var 0) (pda_cons (pd_bltn rfl T.f_tuple (by decide +kernel)) pda_nil))) (bf_isi T.kit T.f_isinstance (pda_cons (pd_var 1) (pda_cons (pd_bltn rfl T.f_tuple (by decide +kernel)) pda_nil))))))) (pdss_one (pds_ret pd_bl)) pdss_nil)
      (pdss_one (pds_ret (pd_and (cm_eq hr (bf_len T.f_len (pda_cons (pd_var 0) pda_nil)) (bf_len T.f_len (pda_cons (pd_var 1) pda_nil))) (pd_one (bf_all rfl T.f_all (pda_cons (pd_lkO 0 (pd_lc false (own := [("_law_x", 2), ("_law_y", 3)]) rfl sc__law_same.nd (blkOk_by (by kernel_rfl)) (pdi_zipA rfl T.f_zip (pd_var 0) (pd_var 1)) (fun _ _ _ _ _ => (pdg_tup rfl (pdgs_cons (pdg_name 2 sc__law_same.nd) (pdgs_cons (pdg_name 3 sc__law_same.nd) pdgs_nil nox_nil) (nox_cons (nox_gN 3) nox_nil)))) (by decide) (fun _ _ _ _ _ => pdts_nil) (fun _ _ _ _ _ => (pc_defN ih (hr.mono (by first | decide | omega)) takes0 (pda_cons (pd_var 2) (pda_cons (pd_var 3) pda_nil)))))) pda_nil))))))) pdss_nil)
      (pdss_cons (pds_if (pdt_val (bf_isi T.kit T.f_isinstance (pda_cons (pd_var 1) (pda_cons (pd_bltn rfl T.f_int (by decide +kernel)) pda_nil)))) (pdss_one (pds_ret (pd_and (bf_isi T.kit T.f_isinstance (pda_cons (pd_var 0) (pda_cons (pd_bltn rfl T.f_int (by decide +kernel)) pda_nil))) (pd_and (cm_eq hr (bf_isi T.kit T.f_isinstance (pda_cons (pd_var 0) (pda_cons (pd_bltn rfl T.f_bool (by decide +kernel)) pda_nil))) (bf_isi T.kit T.f_isinstance (pda_cons (pd_var 1) (pda_cons (pd_bltn rfl T.f_bool (by decide +kernel)) pda_nil)))) (pd_one (cm_eq hr (pd_var 0) (pd_var 1))))))) pdss_nil)
      (pdss_one (pds_ret (pd_and (cm_is (bf_isi T.kit T.f_isinstance (pda_cons (pd_var 0) (pda_cons (pd_tup (pda_cons (pd_bltn rfl T.f_int (by decide +kernel)) (pda_cons (pd_bltn rfl T.f_list (by decide +kernel)) (pda_cons (pd_bltn rfl T.f_tuple (by decide +kernel)) pda_nil)))) pda_nil))) pd_bl) (pd_one (cm_eq hr (pd_var 0) (pd_var 1)))))))))
theorem ok__law_same (T : Tx K mg) : ∀ (n : Nat) {w : World} {base : Heap}, Def1 P w K mg base (0 + n) "_law_same" ["_law_found", "_law_due_here"] [] (F__law_same n)
  | 0, w, base => by
    obtain ⟨hm, fd, F⟩ := T.d__law_same
    exact ⟨⟨_, fd, [], [], hm, F.kp, fn_bad, F.bindsN (fun _ _ _ _ _ _ us hl => match us, hl with | [_, _], _ => rfl), .nil, fun _ _ => .nil⟩⟩
  | n + 1, w, base => by
    obtain ⟨hm, fd, F⟩ := T.d__law_same
    have z : FnD P w K mg base (0 + n + 1) _ fd _ _ := fn__law_same T n (ok__law_same T n) F
    exact ⟨⟨_, fd, [], [], hm, F.kp, z, F.bindsN (fun _ _ _ _ _ _ us hl => match us, hl with | [_, _], _ => rfl), .nil, fun _ _ => .nil⟩⟩
theorem sc_law : FnScope ["_law_script", "_law_stream", "_law_odd", "_law_turn", "_law_is_chain", "_law_names_here", "_law_things", "_law_handed", "_law_due_here", "_law_wished"] ["_law_script"] (defScope s_law) := ⟨rfl, rfl, rfl, by decide +kernel, rfl, by decide +kernel, by decide +kernel⟩
theorem fn_law (T : Tx K mg) {f : Addr} {fd : FuncData} {dvs : List V} {kws : List (Str × V)} (F : FunD K "law" "law" (defArgs s_law) (defBody s_law) (defScope s_law) dvs kws f fd) : FnD P w K mg base 5 f fd ["_law_script"] F_law :=
  fn_ok (k := 4) F sc_law (fun cdv A outer s H E hr => (pdss_cons (pds_set 1 sc_law.nd (pc_defN (ok__law_start T) (hr.mono (by first | decide | omega)) (takes_of rfl rfl rfl rfl) (pda_cons (pd_var 0) pda_nil)))
      (pdss_cons (pds_set 2 sc_law.nd (pd_lst (pda_cons pd_non (pda_cons pd_int (pda_cons pd_str (pda_cons pd_str (pda_cons pd_str (pda_cons pd_str (pda_cons pd_str (pda_cons (pd_lst (pda_cons pd_str pda_nil)) (pda_cons (pd_tup (pda_cons pd_str pda_nil)) (pda_cons pd_d0K (pda_cons pd_bl (pda_cons pd_str (pda_cons pd_str (pda_cons pd_str pda_nil))))))))))))))))
      (pdss_cons (pds_for (passes_of rfl) rfl (pdi_range1 rfl T.f_range pd_int) (pdg_name 3 sc_law.nd) (pdss_cons (pds_set 4 sc_law.nd (cm_eq hr (pc_defN (ok__law_draw T) (hr.mono (by first | decide | omega)) (takes_of rfl rfl rfl rfl) (pda_cons (pd_var 1) (pda_cons pd_int pda_nil))) pd_int))
      (pdss_cons (pds_set 5 sc_law.nd (pd_add (pc_defN (ok__law_names T) (hr.mono (by first | decide | omega)) (takes_of rfl rfl rfl rfl) (pda_cons (pd_var 1) (pda_cons pd_int pda_nil))) (pd_lst (pda_cons pd_str pda_nil))))
      (pdss_cons (pds_set 6 sc_law.nd (pd_slice true (pd_var 5) pdo_no (pdo_so (pd_add pd_int (pc_defN (ok__law_draw T) (hr.mono (by first | decide | omega)) (takes_of rfl rfl rfl rfl) (pda_cons (pd_var 1) (pda_cons pd_int pda_nil)))))))
      (pdss_cons (pds_if (ct_gt (pc_defN (ok__law_draw T) (hr.mono (by first | decide | omega)) (takes_of rfl rfl rfl rfl) (pda_cons (pd_var 1) (pda_cons pd_int pda_nil))) pd_int) (pdss_one (pds_asg (pc_defN (ok__law_pick T) (hr.mono (by first | decide | omega)) (takes_of rfl rfl rfl rfl) (pda_cons (pd_var 1) (pda_cons (pd_add (pd_var 2) (pd_var 6)) pda_nil))) (pdg_ix (pd_var 6) (pc_defN (ok__law_draw T) (hr.mono (by first | decide | omega)) (takes_of rfl rfl rfl rfl) (pda_cons (pd_var 1) (pda_cons (bf_len T.f_len (pda_cons (pd_var 6) pda_nil)) pda_nil)))))) pdss_nil)
      (pdss_cons (pds_set 7 sc_law.nd (pc_defN (ok__law_pick T) (hr.mono (by first | decide | omega)) (takes_of rfl rfl rfl rfl) (pda_cons (pd_var 1) (pda_cons (pd_lst (pda_cons (pd_var 6) (pda_cons (bf_tuple T.f_tuple (pda_cons (pd_var 6) pda_nil)) pda_nil))) pda_nil))))
      (pdss_cons (pds_if (ct_eq hr (pc_defN (ok__law_draw T) (hr.mono (by first | decide | omega)) (takes_of rfl rfl rfl rfl) (pda_cons (pd_var 1) (pda_cons pd_int pda_nil))) pd_int) (pdss_one (pds_set 7 sc_law.nd (pc_defN (ok__law_pick T) (hr.mono (by first | decide | omega)) (takes_of rfl rfl rfl rfl) (pda_cons (pd_var 1) (pda_cons (pd_lst (pda_cons (pd_lst pda_nil) (pda_cons (pd_tup pda_nil) (pda_cons pd_non (pda_cons pd_int (pda_cons pd_str (pda_cons pd_d0K (pda_cons (pd_frz (pd_dispK (pdp_cons pd_str pd_int pdp_nil))) (pda_cons pd_bl (pda_cons (pd_frz (pc_makN (ok1_Folders T) (hr.mono (by first | decide | omega)) (takes_of rfl rfl rfl rfl) (flatD0 _) (pda_cons (pd_lst (pda_cons pd_str pda_nil)) pda_nil))) pda_nil)))))))))) pda_nil))))) pdss_nil)
      (pdss_cons (pds_set 8 sc_law.nd (pc_defN (ok__law_due T) (hr.mono (by first | decide | omega)) (takes_of rfl rfl rfl rfl) (pda_cons (pd_var 7) (pda_cons (pd_var 4) pda_nil))))
      (pdss_cons (pds_set 9 sc_law.nd (pd_if (ct_is (pd_var 8) pd_non) (pd_tup (pda_cons pd_str (pda_cons (bf_tuple T.f_tuple (pda_cons (pd_var 7) pda_nil)) pda_nil))) (pd_tup (pda_cons pd_str (pda_cons (pd_var 8) pda_nil)))))
      (pdss_one (pds_if (pdt_not (pdt_val (pc_defN (ok__law_same T 4) (hr.mono (by first | decide | omega)) (takes_of rfl rfl rfl rfl) (pda_cons (pc_defN (ok__law_tried T) (hr.mono (by first | decide | omega)) (takes_of rfl rfl rfl rfl) (pda_cons (pd_var 7) (pda_cons (pd_var 4) pda_nil))) (pda_cons (pd_var 9) pda_nil))))) (pdss_one (pds_ret pd_bl)) pdss_nil)))))))))))
      (pdss_one (pds_ret pd_bl))))))
theorem ok_law (T : Tx K mg) : Def1 P w K mg base 5 "law" ["_law_script"] [] F_law := by
  obtain ⟨hm, fd, F⟩ := T.d_law
  exact ⟨⟨_, fd, [], [], hm, F.kp, fn_law T F, F.bindsN (fun _ _ _ _ _ _ us hl => match us, hl with | [_], _ => rfl), .nil, fun _ _ => .nil⟩⟩
end
def dd__law_start : He.DefD := ⟨("_law_start", none), "_law_start", "_law_start", defArgs s__law_start, defBody s__law_start, defScope s__law_start, [], []⟩
def dd__law_draw : He.DefD := ⟨("_law_draw", none), "_law_draw", "_law_draw", defArgs s__law_draw, defBody s__law_draw, defScope s__law_draw, [], []⟩
def dd__law_pick : He.DefD := ⟨("_law_pick", none), "_law_pick", "_law_pick", defArgs s__law_pick, defBody s__law_pick, defScope s__law_pick, [], []⟩
def dd__law_name : He.DefD := ⟨("_law_name", none), "_law_name", "_law_name", defArgs s__law_name, defBody s__law_name, defScope s__law_name, [], []⟩
def dd__law_names : He.DefD := ⟨("_law_names", none), "_law_names", "_law_names", defArgs s__law_names, defBody s__law_names, defScope s__law_names, [], []⟩
def dd_is_list : He.DefD := ⟨("is_list", none), "is_list", "is_list", defArgs s_is_list, defBody s_is_list, defScope s_is_list, [], []⟩
def dd_is_name : He.DefD := ⟨("is_name", none), "is_name", "is_name", defArgs s_is_name, defBody s_is_name, defScope s_is_name, [], []⟩
def dd_Folders___init__ : He.DefD := ⟨("Folders", some "__init__"), "__init__", "Folders.__init__", defArgs s_Folders___init__, defBody s_Folders___init__, defScope s_Folders___init__, [], [("chain", .bl false)]⟩
def dd__law_due : He.DefD := ⟨("_law_due", none), "_law_due", "_law_due", defArgs s__law_due, defBody s__law_due, defScope s__law_due, [], []⟩
def dd__law_tried : He.DefD := ⟨("_law_tried", none), "_law_tried", "_law_tried", defArgs s__law_tried, defBody s__law_tried, defScope s__law_tried, [], []⟩
def dd__law_same : He.DefD := ⟨("_law_same", none), "_law_same", "_law_same", defArgs s__law_same, defBody s__law_same, defScope s__law_same, [], []⟩
def dd_law : He.DefD := ⟨("law", none), "law", "law", defArgs s_law, defBody s_law, defScope s_law, [], []⟩
def fn : List He.DefD := [dd__law_start, dd__law_draw, dd__law_pick, dd__law_name, dd__law_names, dd_is_list, dd_is_name, dd_Folders___init__, dd__law_due, dd__law_tried, dd__law_same, dd_law]
def fa : List He.Fa := [.free "all", .free "bool", .free "enumerate", .free "int", .free "isinstance", .free "len", .free "list", .free "range", .free "str", .free "super", .free "tuple", .free "zip", .str "LETTERS" "abcdefghijklmnopqrstuvwxyz", .int "LONGEST" 8, .int "MOST" 5, .int "MOST_IN_CHAIN" 12, .glo "BadFolders", .cls "Folders", .noat "Folders" "chain", .noat "Folders" "names", .glo "_law_start", .glo "_law_draw", .glo "_law_pick", .glo "_law_name", .glo "_law_names", .glo "is_list", .glo "is_name", .glo "Folders", .mkr "Folders", .glo "_law_due", .glo "_law_tried", .glo "_law_same", .glo "law"]
def ex (K : PySem.W.Frag) : Bool := exKit own K && (exSup P K "BadFolders" "index" "index" && (xfB K (He.ga K "BadFolders") && (He.eqO (PySem.W.findIn K (.ref (He.ga K "BadFolders")) "index") (some none) && (decide (PySem.W.exmOne K (.ref (He.ga K "BadFolders")) (.ref (He.ga K "BadFolders")) = some true)))))
theorem tx {K : PySem.W.Frag} {h : Heap} {w : World} {mg : Str → Option Value} (X : K.In h) (G : h.Ns mainGlobals mg) (c : He.SaysX fa fn [] [] ex w h K) : Tx K mg := by
  have e0 : ex K = true := c.more
  unfold ex at e0
  obtain ⟨e0, e0'⟩ := band e0
  obtain ⟨e1, e1'⟩ := band e0'
  obtain ⟨e2, e2'⟩ := band e1'
  obtain ⟨e3, e3'⟩ := band e2'
  have e4 := e3'
  have cd : He.SaysD fa fn K := He.SaysT.d c.t
  have fx : ∀ (i : Nat) {f : He.Fa}, fa[i]? = some f → f.ok K = true := fun i f h => cd.fact i h
  exact {
    f_all := He.free_ok X G (fx 0 (by rfl) : (.free "all" : He.Fa).ok K = true)
    f_bool := He.free_ok X G (fx 1 (by rfl) : (.free "bool" : He.Fa).ok K = true)
    f_enumerate := He.free_ok X G (fx 2 (by rfl) : (.free "enumerate" : He.Fa).ok K = true)
    f_int := He.free_ok X G (fx 3 (by rfl) : (.free "int" : He.Fa).ok K = true)
    f_isinstance := He.free_ok X G (fx 4 (by rfl) : (.free "isinstance" : He.Fa).ok K = true)
    f_len := He.free_ok X G (fx 5 (by rfl) : (.free "len" : He.Fa).ok K = true)
    f_list := He.free_ok X G (fx 6 (by rfl) : (.free "list" : He.Fa).ok K = true)
    f_range := He.free_ok X G (fx 7 (by rfl) : (.free "range" : He.Fa).ok K = true)
    f_str := He.free_ok X G (fx 8 (by rfl) : (.free "str" : He.Fa).ok K = true)
    f_super := He.free_ok X G (fx 9 (by rfl) : (.free "super" : He.Fa).ok K = true)
    f_tuple := He.free_ok X G (fx 10 (by rfl) : (.free "tuple" : He.Fa).ok K = true)
    f_zip := He.free_ok X G (fx 11 (by rfl) : (.free "zip" : He.Fa).ok K = true)
    c_LETTERS := He.str_ok X G (fx 12 (by rfl) : (.str "LETTERS" "abcdefghijklmnopqrstuvwxyz" : He.Fa).ok K = true)
    c_LONGEST := He.int_ok X G (fx 13 (by rfl) : (.int "LONGEST" 8 : He.Fa).ok K = true)
    c_MOST := He.int_ok X G (fx 14 (by rfl) : (.int "MOST" 5 : He.Fa).ok K = true)
    c_MOST_IN_CHAIN := He.int_ok X G (fx 15 (by rfl) : (.int "MOST_IN_CHAIN" 12 : He.Fa).ok K = true)
    kit := exKit_ok (e0)
    g_BadFolders := He.glo_ok X G (fx 16 (by rfl) : (.glo "BadFolders" : He.Fa).ok K = true)
    at_chain := fun c hc => by
      simp only [List.mem_cons, List.not_mem_nil, or_false] at hc
      subst hc
      · exact ⟨He.cls_ok (fx 17 (by rfl) : (.cls "Folders" : He.Fa).ok K = true), He.noat_ok (fx 18 (by rfl) : (.noat "Folders" "chain" : He.Fa).ok K = true)⟩
    at_names := fun c hc => by
      simp only [List.mem_cons, List.not_mem_nil, or_false] at hc
      subst hc
      · exact ⟨He.cls_ok (fx 17 (by rfl) : (.cls "Folders" : He.Fa).ok K = true), He.noat_ok (fx 19 (by rfl) : (.noat "Folders" "names" : He.Fa).ok K = true)⟩
    sup_BadFolders := exSup_ok sb_index (He.free_ok X G (fx 9 (by rfl) : (.free "super" : He.Fa).ok K = true)) (e1)
    xf_BadFolders := xfB_ok (e2)
    no_BadFolders := He.eqO_ok (e3)
    exm_BadFolders := of_decide_eq_true (e4)
    d__law_start := ⟨He.glo_ok X G (fx 20 (by rfl) : (.glo "_law_start" : He.Fa).ok K = true), cd.def_ 0 (d := dd__law_start) rfl⟩
    d__law_draw := ⟨He.glo_ok X G (fx 21 (by rfl) : (.glo "_law_draw" : He.Fa).ok K = true), cd.def_ 1 (d := dd__law_draw) rfl⟩
    d__law_pick := ⟨He.glo_ok X G (fx 22 (by rfl) : (.glo "_law_pick" : He.Fa).ok K = true), cd.def_ 2 (d := dd__law_pick) rfl⟩
    d__law_name := ⟨He.glo_ok X G (fx 23 (by rfl) : (.glo "_law_name" : He.Fa).ok K = true), cd.def_ 3 (d := dd__law_name) rfl⟩
    d__law_names := ⟨He.glo_ok X G (fx 24 (by rfl) : (.glo "_law_names" : He.Fa).ok K = true), cd.def_ 4 (d := dd__law_names) rfl⟩
    d_is_list := ⟨He.glo_ok X G (fx 25 (by rfl) : (.glo "is_list" : He.Fa).ok K = true), cd.def_ 5 (d := dd_is_list) rfl⟩
    d_is_name := ⟨He.glo_ok X G (fx 26 (by rfl) : (.glo "is_name" : He.Fa).ok K = true), cd.def_ 6 (d := dd_is_name) rfl⟩
    d_Folders___init__ := ⟨He.glo_ok X G (fx 27 (by rfl) : (.glo "Folders" : He.Fa).ok K = true), He.mkr_ok (fx 28 (by rfl) : (.mkr "Folders" : He.Fa).ok K = true), cd.def_ 7 (d := dd_Folders___init__) rfl⟩
    d__law_due := ⟨He.glo_ok X G (fx 29 (by rfl) : (.glo "_law_due" : He.Fa).ok K = true), cd.def_ 8 (d := dd__law_due) rfl⟩
    d__law_tried := ⟨He.glo_ok X G (fx 30 (by rfl) : (.glo "_law_tried" : He.Fa).ok K = true), cd.def_ 9 (d := dd__law_tried) rfl⟩
    d__law_same := ⟨He.glo_ok X G (fx 31 (by rfl) : (.glo "_law_same" : He.Fa).ok K = true), cd.def_ 10 (d := dd__law_same) rfl⟩
    d_law := ⟨He.glo_ok X G (fx 32 (by rfl) : (.glo "law" : He.Fa).ok K = true), cd.def_ 11 (d := dd_law) rfl⟩
  }
abbrev R : PySem.W.OpenRow := PySem.W.OpenLaw.row PySem.Challenge.rw_blockshares_k02_folders_refused
abbrev hk : PySem.W.Hook := DL.hookY 5 fa fn ex
def ob (s : PySem.W.SharedT) : He.AlX := DL.obsY 5 fa fn ex (HandSHeadRun.getT s)
theorem ob_eq (s : PySem.W.SharedT) : ob s = hk.obs s.abs := DL.obsY_eq (HandSHeadRun.getT_eq s)
def loose : List Str := (["_wall", "ShareError", "BadFolders", "LETTERS", "LONGEST", "is_name", "is_list", "MOST", "MOST_IN_CHAIN", "Folders", "_law_start", "_law_draw", "_law_pick", "_law_same", "_law_name", "_law_names"] : List Str) ++ (["_law_due", "_law_tried"] : List Str)
theorem run (w : World) : HandSHeadRun.RunEq R (PySem.W.view R.prog [22]) hk ob 4000 loose w := by
  intro os
  kernel_rfl
end K02
end
section
set_option maxRecDepth 100000
set_option maxHeartbeats 4000000
/-! Plain mathematics, part 1: how the functions of data reckon, as rewriting rules (what is left to do stands in a frame, so that only the first thing is reckoned). -/
namespace DM
open PySem L2 DL
def kOp2 (h : H2) (x0 : D) (r : Res D) : Res D := r.bind fun x m => h x0 x m
@[simp] theorem kOp2_ok (h : H2) (x0 : D) (x : D) (m : Mem) : kOp2 h x0 (.ok x m) = h x0 x m := Eq.trans rfl rfl
@[simp] theorem kOp2_exc (h : H2) (x0 : D) (x : Exn) (m : Mem) : kOp2 h x0 (.exc x m) = .exc x m := Eq.trans rfl rfl
def kOp1 (h : H2) (b : FE) (ρ : EnvD) (r : Res D) : Res D := r.bind fun x m => kOp2 h x (b ρ m)
@[simp] theorem kOp1_ok (h : H2) (b : FE) (ρ : EnvD) (x : D) (m : Mem) : kOp1 h b ρ (.ok x m) = kOp2 h x (b ρ m) := Eq.trans rfl rfl
@[simp] theorem kOp1_exc (h : H2) (b : FE) (ρ : EnvD) (x : Exn) (m : Mem) : kOp1 h b ρ (.exc x m) = .exc x m := Eq.trans rfl rfl
def kUn (h : H1) (r : Res D) : Res D := r.bind fun x m => h x m
@[simp] theorem kUn_ok (h : H1) (x : D) (m : Mem) : kUn h (.ok x m) = h x m := Eq.trans rfl rfl
@[simp] theorem kUn_exc (h : H1) (x : Exn) (m : Mem) : kUn h (.exc x m) = .exc x m := Eq.trans rfl rfl
def kCB (h : HL) (r : Res (List D)) : Res D := r.bind fun x m => h x m
@[simp] theorem kCB_ok (h : HL) (x : (List D)) (m : Mem) : kCB h (.ok x m) = h x m := Eq.trans rfl rfl
@[simp] theorem kCB_exc (h : HL) (x : Exn) (m : Mem) : kCB h (.exc x m) = .exc x m := Eq.trans rfl rfl
def kC2 (x0 : D) (r : Res (List D)) : Res (List D) := r.bind fun x m => .ok (x0 :: x) m
@[simp] theorem kC2_ok (x0 : D) (x : (List D)) (m : Mem) : kC2 x0 (.ok x m) = .ok (x0 :: x) m := Eq.trans rfl rfl
@[simp] theorem kC2_exc (x0 : D) (x : Exn) (m : Mem) : kC2 x0 (.exc x m) = .exc x m := Eq.trans rfl rfl
def kC1 (ra : FA) (ρ : EnvD) (r : Res D) : Res (List D) := r.bind fun x m => kC2 x (ra ρ m)
@[simp] theorem kC1_ok (ra : FA) (ρ : EnvD) (x : D) (m : Mem) : kC1 ra ρ (.ok x m) = kC2 x (ra ρ m) := Eq.trans rfl rfl
@[simp] theorem kC1_exc (ra : FA) (ρ : EnvD) (x : Exn) (m : Mem) : kC1 ra ρ (.exc x m) = .exc x m := Eq.trans rfl rfl
def kSt2 (ys : List D) (r : Res (List D)) : Res (List D) := r.bind fun x m => .ok (ys ++ x) m
@[simp] theorem kSt2_ok (ys : List D) (x : (List D)) (m : Mem) : kSt2 ys (.ok x m) = .ok (ys ++ x) m := Eq.trans rfl rfl
@[simp] theorem kSt2_exc (ys : List D) (x : Exn) (m : Mem) : kSt2 ys (.exc x m) = .exc x m := Eq.trans rfl rfl
def kNo  (r : Res Bool) : Res Bool := r.bind fun x m => .ok (!x) m
@[simp] theorem kNo_ok  (x : Bool) (m : Mem) : kNo  (.ok x m) = .ok (!x) m := Eq.trans rfl rfl
@[simp] theorem kNo_exc  (x : Exn) (m : Mem) : kNo  (.exc x m) = .exc x m := Eq.trans rfl rfl
def kTup  (r : Res (List D)) : Res D := r.bind fun x m => if x.length ≤ sizeLine then .ok (.tup x) m else .bad
@[simp] theorem kTup_ok  (x : (List D)) (m : Mem) : kTup  (.ok x m) = if x.length ≤ sizeLine then .ok (.tup x) m else .bad := Eq.trans rfl rfl
@[simp] theorem kTup_exc  (x : Exn) (m : Mem) : kTup  (.exc x m) = .exc x m := Eq.trans rfl rfl
def kLst  (r : Res (List D)) : Res D := r.bind fun x m => if x.length ≤ sizeLine then .ok (.lst x) m else .bad
@[simp] theorem kLst_ok  (x : (List D)) (m : Mem) : kLst  (.ok x m) = if x.length ≤ sizeLine then .ok (.lst x) m else .bad := Eq.trans rfl rfl
@[simp] theorem kLst_exc  (x : Exn) (m : Mem) : kLst  (.exc x m) = .exc x m := Eq.trans rfl rfl
def kLsM  (r : Res (List D)) : Res D := r.bind fun x m => if x.length ≤ sizeLine then .ok (.mref m.length) (m ++ [.lst x]) else .bad
@[simp] theorem kLsM_ok  (x : (List D)) (m : Mem) : kLsM  (.ok x m) = if x.length ≤ sizeLine then .ok (.mref m.length) (m ++ [.lst x]) else .bad := Eq.trans rfl rfl
@[simp] theorem kLsM_exc  (x : Exn) (m : Mem) : kLsM  (.exc x m) = .exc x m := Eq.trans rfl rfl
def kCall (n : Nat) (F : HL) (dds : List D) (r : Res (List D)) : Res D := r.bind fun x m => if (x ++ dds).length = n then F (x ++ dds) m else .bad
@[simp] theorem kCall_ok (n : Nat) (F : HL) (dds : List D) (x : (List D)) (m : Mem) : kCall n F dds (.ok x m) = if (x ++ dds).length = n then F (x ++ dds) m else .bad := Eq.trans rfl rfl
@[simp] theorem kCall_exc (n : Nat) (F : HL) (dds : List D) (x : Exn) (m : Mem) : kCall n F dds (.exc x m) = .exc x m := Eq.trans rfl rfl
def kM2 (h : D → D → Mem → Res D) (x0 : D) (r : Res D) : Res D := r.bind fun x m => h x0 x m
@[simp] theorem kM2_ok (h : D → D → Mem → Res D) (x0 : D) (x : D) (m : Mem) : kM2 h x0 (.ok x m) = h x0 x m := Eq.trans rfl rfl
@[simp] theorem kM2_exc (h : D → D → Mem → Res D) (x0 : D) (x : Exn) (m : Mem) : kM2 h x0 (.exc x m) = .exc x m := Eq.trans rfl rfl
def kM1 (T : D → Mem → Bool) (h : D → D → Mem → Res D) (e : FE) (ρ : EnvD) (r : Res D) : Res D := r.bind fun x m => if T x m = true then kM2 h x (e ρ m) else .bad
@[simp] theorem kM1_ok (T : D → Mem → Bool) (h : D → D → Mem → Res D) (e : FE) (ρ : EnvD) (x : D) (m : Mem) : kM1 T h e ρ (.ok x m) = if T x m = true then kM2 h x (e ρ m) else .bad := Eq.trans rfl rfl
@[simp] theorem kM1_exc (T : D → Mem → Bool) (h : D → D → Mem → Res D) (e : FE) (ρ : EnvD) (x : Exn) (m : Mem) : kM1 T h e ρ (.exc x m) = .exc x m := Eq.trans rfl rfl
def kTr (r : Res D) : Res Bool := r.bind fun x m => match x with
  | .bl b => .ok b m
  | _ => .bad
@[simp] theorem kTr_ok (b : Bool) (m : Mem) : kTr (.ok (.bl b) m) = .ok b m := Eq.trans rfl rfl
@[simp] theorem kTr_exc (x : Exn) (m : Mem) : kTr (.exc x m) = .exc x m := Eq.trans rfl rfl
def kAn (b : FT) (ρ : EnvD) (r : Res Bool) : Res Bool := r.bind fun x m1 => if x = true then b ρ m1 else .ok false m1
@[simp] theorem kAn_t (b : FT) (ρ : EnvD) (m : Mem) : kAn b ρ (.ok true m) = b ρ m := Eq.trans rfl rfl
@[simp] theorem kAn_f (b : FT) (ρ : EnvD) (m : Mem) : kAn b ρ (.ok false m) = .ok false m := Eq.trans rfl rfl
def kOr (b : FT) (ρ : EnvD) (r : Res Bool) : Res Bool := r.bind fun x m1 => if x = true then .ok true m1 else b ρ m1
@[simp] theorem kOr_t (b : FT) (ρ : EnvD) (m : Mem) : kOr b ρ (.ok true m) = .ok true m := Eq.trans rfl rfl
@[simp] theorem kOr_f (b : FT) (ρ : EnvD) (m : Mem) : kOr b ρ (.ok false m) = b ρ m := Eq.trans rfl rfl
def kEAn (b : FE) (ρ : EnvD) (r : Res D) : Res D := r.bind fun x m1 => match x with
  | .bl c => if c = true then b ρ m1 else .ok (.bl false) m1
  | _ => .bad
@[simp] theorem kEAn_t (b : FE) (ρ : EnvD) (m : Mem) : kEAn b ρ (.ok (.bl true) m) = b ρ m := Eq.trans rfl rfl
@[simp] theorem kEAn_f (b : FE) (ρ : EnvD) (m : Mem) : kEAn b ρ (.ok (.bl false) m) = .ok (.bl false) m := Eq.trans rfl rfl
def kEOr (b : FE) (ρ : EnvD) (r : Res D) : Res D := r.bind fun x m1 => match x with
  | .bl c => if c = true then .ok (.bl true) m1 else b ρ m1
  | _ => .bad
@[simp] theorem kEOr_t (b : FE) (ρ : EnvD) (m : Mem) : kEOr b ρ (.ok (.bl true) m) = .ok (.bl true) m := Eq.trans rfl rfl
@[simp] theorem kEOr_f (b : FE) (ρ : EnvD) (m : Mem) : kEOr b ρ (.ok (.bl false) m) = b ρ m := Eq.trans rfl rfl
def kENo (r : Res D) : Res D := r.bind fun x m1 => match x with
  | .bl c => .ok (.bl (!c)) m1
  | _ => .bad
@[simp] theorem kENo_ok (c : Bool) (m : Mem) : kENo (.ok (.bl c) m) = .ok (.bl (!c)) m := Eq.trans rfl rfl
def kEIf (a b : FE) (ρ : EnvD) (r : Res Bool) : Res D := r.bind fun x m1 => if x = true then a ρ m1 else b ρ m1
@[simp] theorem kEIf_t (a b : FE) (ρ : EnvD) (m : Mem) : kEIf a b ρ (.ok true m) = a ρ m := Eq.trans rfl rfl
@[simp] theorem kEIf_f (a b : FE) (ρ : EnvD) (m : Mem) : kEIf a b ρ (.ok false m) = b ρ m := Eq.trans rfl rfl
def kCh4 (h' : H2) (y : D) (r : Res D) : Res D := r.bind fun w m4 => h' y w m4
@[simp] theorem kCh4_ok (h' : H2) (y w : D) (m : Mem) : kCh4 h' y (.ok w m) = h' y w m := Eq.trans rfl rfl
def kCh3 (h' : H2) (y : D) (c : FE) (ρ : EnvD) (r : Res D) : Res D := r.bind fun z m3 => match z with
  | .bl k => if k = true then (c ρ m3).bind fun w m4 => h' y w m4 else .ok (.bl false) m3
  | _ => .bad
@[simp] theorem kCh3_t (h' : H2) (y : D) (c : FE) (ρ : EnvD) (m : Mem) : kCh3 h' y c ρ (.ok (.bl true) m) = kCh4 h' y (c ρ m) := Eq.trans rfl rfl
@[simp] theorem kCh3_f (h' : H2) (y : D) (c : FE) (ρ : EnvD) (m : Mem) : kCh3 h' y c ρ (.ok (.bl false) m) = .ok (.bl false) m := Eq.trans rfl rfl
def kCh2 (h h' : H2) (x : D) (c : FE) (ρ : EnvD) (r : Res D) : Res D := r.bind fun y m2 => kCh3 h' y c ρ (h x y m2)
@[simp] theorem kCh2_ok (h h' : H2) (x : D) (c : FE) (ρ : EnvD) (y : D) (m : Mem) : kCh2 h h' x c ρ (.ok y m) = kCh3 h' y c ρ (h x y m) := Eq.trans rfl rfl
def kCh1 (h h' : H2) (b c : FE) (ρ : EnvD) (r : Res D) : Res D := r.bind fun x m1 => kCh2 h h' x c ρ (b ρ m1)
@[simp] theorem kCh1_ok (h h' : H2) (b c : FE) (ρ : EnvD) (x : D) (m : Mem) : kCh1 h h' b c ρ (.ok x m) = kCh2 h h' x c ρ (b ρ m) := Eq.trans rfl rfl
def kSt1 (r : FA) (ρ : EnvD) (q : Res D) : Res (List D) := q.bind fun x m1 => match seqV m1 x with
  | some ys => kSt2 ys (r ρ m1)
  | none => .bad
theorem kSt1_ok (r : FA) (ρ : EnvD) (x : D) (m : Mem) {ys : List D} (h : seqV m x = some ys) : kSt1 r ρ (.ok x m) = kSt2 ys (r ρ m) := by unfold kSt1; simp only [bind_ok, h]
@[simp] theorem kSt1_tup (r : FA) (ρ : EnvD) (xs : List D) (m : Mem) : kSt1 r ρ (.ok (.tup xs) m) = kSt2 xs (r ρ m) := Eq.trans rfl rfl
@[simp] theorem kSt1_lst (r : FA) (ρ : EnvD) (xs : List D) (m : Mem) : kSt1 r ρ (.ok (.lst xs) m) = kSt2 xs (r ρ m) := Eq.trans rfl rfl
def varR (o : Option (Option D)) (m : Mem) : Res D := match o with
  | some (some d) => .ok d m
  | _ => .bad
@[simp] theorem varR_ok (d : D) (m : Mem) : varR (some (some d)) m = .ok d m := Eq.trans rfl rfl
/-! statements -/
def kSeq (b : FS) (r : RS) : RS := match r with
  | .nx ρ m => b ρ m
  | r => r
@[simp] theorem kSeq_nx (b : FS) (ρ : EnvD) (m : Mem) : kSeq b (.nx ρ m) = b ρ m := Eq.trans rfl rfl
@[simp] theorem kSeq_rt (b : FS) (d : D) (m : Mem) : kSeq b (.rt d m) = .rt d m := Eq.trans rfl rfl
@[simp] theorem kSeq_exc (b : FS) (x : Exn) (ρ : EnvD) (m : Mem) : kSeq b (.exc x ρ m) = .exc x ρ m := Eq.trans rfl rfl
@[simp] theorem kSeq_bk (b : FS) (ρ : EnvD) (m : Mem) : kSeq b (.bk ρ m) = .bk ρ m := Eq.trans rfl rfl
@[simp] theorem kSeq_ct (b : FS) (ρ : EnvD) (m : Mem) : kSeq b (.ct ρ m) = .ct ρ m := Eq.trans rfl rfl
def kEx (ρ : EnvD) (r : Res D) : RS := onE r ρ fun _ m1 => .nx ρ m1
@[simp] theorem kEx_ok (ρ : EnvD) (d : D) (m : Mem) : kEx ρ (.ok d m) = .nx ρ m := Eq.trans rfl rfl
@[simp] theorem kEx_exc (ρ : EnvD) (x : Exn) (m : Mem) : kEx ρ (.exc x m) = .exc x ρ m := Eq.trans rfl rfl
def kRt (ρ : EnvD) (r : Res D) : RS := onE r ρ fun d m1 => .rt d m1
@[simp] theorem kRt_ok (ρ : EnvD) (d : D) (m : Mem) : kRt ρ (.ok d m) = .rt d m := Eq.trans rfl rfl
@[simp] theorem kRt_exc (ρ : EnvD) (x : Exn) (m : Mem) : kRt ρ (.exc x m) = .exc x ρ m := Eq.trans rfl rfl
def kIf (a b : FS) (ρ : EnvD) (r : Res Bool) : RS := onE r ρ fun x m1 => if x = true then a ρ m1 else b ρ m1
@[simp] theorem kIf_t (a b : FS) (ρ : EnvD) (m : Mem) : kIf a b ρ (.ok true m) = a ρ m := Eq.trans rfl rfl
@[simp] theorem kIf_f (a b : FS) (ρ : EnvD) (m : Mem) : kIf a b ρ (.ok false m) = b ρ m := Eq.trans rfl rfl
def kSet (i : Nat) (ρ : EnvD) (r : Res D) : RS := onE r ρ fun d m1 => .nx (ρ.set i (some d)) m1
@[simp] theorem kSet_ok (i : Nat) (ρ : EnvD) (d : D) (m : Mem) : kSet i ρ (.ok d m) = .nx (ρ.set i (some d)) m := Eq.trans rfl rfl
@[simp] theorem kSet_exc (i : Nat) (ρ : EnvD) (x : Exn) (m : Mem) : kSet i ρ (.exc x m) = .exc x ρ m := Eq.trans rfl rfl
def kPar (i j : Nat) (ρ : EnvD) (r : Res (List D)) : RS := onE r ρ fun ds m1 => match ds with
  | [x, y] => .nx ((ρ.set i (some x)).set j (some y)) m1
  | _ => .bad
@[simp] theorem kPar_ok (i j : Nat) (ρ : EnvD) (x y : D) (m : Mem) : kPar i j ρ (.ok [x, y] m) = .nx ((ρ.set i (some x)).set j (some y)) m := Eq.trans rfl rfl
def kAsg2 (ρ : EnvD) (r : Res EnvD) : RS := onE r ρ fun ρ1 m2 => .nx ρ1 m2
@[simp] theorem kAsg2_ok (ρ ρ1 : EnvD) (m : Mem) : kAsg2 ρ (.ok ρ1 m) = .nx ρ1 m := Eq.trans rfl rfl
def kAsg (g : FG) (ρ : EnvD) (r : Res D) : RS := onE r ρ fun d m1 => kAsg2 ρ (g d ρ m1)
@[simp] theorem kAsg_ok (g : FG) (ρ : EnvD) (d : D) (m : Mem) : kAsg g ρ (.ok d m) = kAsg2 ρ (g d ρ m) := Eq.trans rfl rfl
def kFor (g : FG) (b : FS) (ρ : EnvD) (r : Res (List D)) : RS := onE r ρ fun ds m1 => forGo g b ds ρ m1
@[simp] theorem kFor_ok (g : FG) (b : FS) (ρ : EnvD) (ds : List D) (m : Mem) : kFor g b ρ (.ok ds m) = forGo g b ds ρ m := Eq.trans rfl rfl
/-! o[i] = v -/
def setR (x y : D) (d : D) (ρ : EnvD) (m2 : Mem) : Res EnvD := match x, y with
  | .mref i, .int k => (match m2[i]? with
    | some (.lst xs) => (match ixN xs.length k with
      | some j => .ok ρ (m2.set i (.lst (xs.set j d)))
      | none => .bad)
    | _ => .bad)
  | _, _ => .bad
def kIx2 (x d : D) (ρ : EnvD) (r : Res D) : Res EnvD := r.bind fun y m => setR x y d ρ m
@[simp] theorem kIx2_ok (x d : D) (ρ : EnvD) (y : D) (m : Mem) : kIx2 x d ρ (.ok y m) = setR x y d ρ m := Eq.trans rfl rfl
def kIx1 (fi : FE) (d : D) (ρ : EnvD) (r : Res D) : Res EnvD := r.bind fun x m => kIx2 x d ρ (fi ρ m)
@[simp] theorem kIx1_ok (fi : FE) (d : D) (ρ : EnvD) (x : D) (m : Mem) : kIx1 fi d ρ (.ok x m) = kIx2 x d ρ (fi ρ m) := Eq.trans rfl rfl
/-! comprehensions -/
def kFin (mu : Bool) (r : Res (List D)) : Res D := bindN r fun ys m2 => finL mu ys m2
@[simp] theorem kFin_ok (mu : Bool) (ys : List D) (m : Mem) : kFin mu (.ok ys m) = finL mu ys m := Eq.trans rfl rfl
def kLc (mu : Bool) (fg : FG) (ft : FT) (fe : FE) (ρ : EnvD) (r : Res (List D)) : Res D := r.bind fun ds m1 => kFin mu (lcGo fg ft fe ρ ds [] m1)
@[simp] theorem kLc_ok (mu : Bool) (fg : FG) (ft : FT) (fe : FE) (ρ : EnvD) (ds : List D) (m : Mem) : kLc mu fg ft fe ρ (.ok ds m) = kFin mu (lcGo fg ft fe ρ ds [] m) := Eq.trans rfl rfl
noncomputable def kLc2 (mu : Bool) (fg : FG) (ft : FT) (fi1 : FI) (fg1 : FG) (ft1 : FT) (fe : FE) (vs1 : List Nat) (ρ : EnvD) (r : Res (List D)) : Res D := r.bind fun ds m1 => kFin mu (lc2Go fg ft fi1 fg1 ft1 fe vs1 ρ ds [] m1)
@[simp] theorem kLc2_ok (mu : Bool) (fg : FG) (ft : FT) (fi1 : FI) (fg1 : FG) (ft1 : FT) (fe : FE) (vs1 : List Nat) (ρ : EnvD) (ds : List D) (m : Mem) : kLc2 mu fg ft fi1 fg1 ft1 fe vs1 ρ (.ok ds m) = kFin mu (lc2Go fg ft fi1 fg1 ft1 fe vs1 ρ ds [] m) := Eq.trans rfl rfl
@[simp] theorem finL_f (ys : List D) (m : Mem) : finL false ys m = .ok (.lst ys) m := Eq.trans rfl rfl
@[simp] theorem finL_t (ys : List D) (m : Mem) : finL true ys m = .ok (.mref m.length) (m ++ [.lst ys]) := Eq.trans rfl rfl
/-! what is walked -/
def seqI (x : D) (m1 : Mem) : Res (List D) := match x with
  | .tup xs => .ok xs m1
  | .str z => if z.length ≤ sizeLine then .ok (z.cps.toList.map fun c => .str ⟨#[c]⟩) m1 else .bad
  | x => match lstK m1 x with
    | some xs => .ok xs m1
    | none => .bad
@[simp] theorem seqI_tup (xs : List D) (m : Mem) : seqI (.tup xs) m = .ok xs m := Eq.trans rfl rfl
@[simp] theorem seqI_lst (xs : List D) (m : Mem) : seqI (.lst xs) m = .ok xs m := Eq.trans rfl rfl
@[simp] theorem seqI_slst (xs : List D) (m : Mem) : seqI (.slst xs) m = .ok xs m := Eq.trans rfl rfl
@[simp] theorem seqI_str (z : Str) (m : Mem) : seqI (.str z) m = if z.length ≤ sizeLine then .ok (z.cps.toList.map fun c => .str ⟨#[c]⟩) m else .bad := Eq.trans rfl rfl
def kSq (r : Res D) : Res (List D) := r.bind fun x m => seqI x m
@[simp] theorem kSq_ok (x : D) (m : Mem) : kSq (.ok x m) = seqI x m := Eq.trans rfl rfl
/-- lo, lo + 1, .. -/
def rgD (lo : Int) (n : Nat) : List D := (List.range n).map fun i => D.int (lo + (i : Nat))
@[simp] theorem rgD_length (lo : Int) (n : Nat) : (rgD lo n).length = n := by simp [rgD]
theorem rgD_get {lo : Int} {n i : Nat} {x : D} (h : (rgD lo n)[i]? = some x) : x = .int (lo + (i : Nat)) ∧ i < n := by
  unfold rgD at h
  rw [List.getElem?_map] at h
  obtain ⟨j, h1, h2⟩ := Option.map_eq_some_iff.mp h
  obtain ⟨h3, h4⟩ := List.getElem?_eq_some_iff.mp h1
  simp at h3 h4
  subst h4
  exact ⟨h2.symm, h3⟩
theorem rgD_mem {lo : Int} {n : Nat} {x : D} (h : x ∈ rgD lo n) : ∃ i : Nat, i < n ∧ x = .int (lo + (i : Nat)) := by
  unfold rgD at h
  obtain ⟨i, h1, h2⟩ := List.mem_map.mp h
  exact ⟨i, List.mem_range.mp h1, h2.symm⟩
def kR1 (r : Res D) : Res (List D) := r.bind fun x m1 => match x with
  | .int j => if -(2 ^ 62) ≤ j ∧ j < 2 ^ 62 ∧ j.toNat ≤ sizeLine then .ok ((List.range j.toNat).map fun i => D.int (0 + (i : Nat))) m1 else .bad
  | _ => .bad
theorem kR1_ok (j : Int) (m : Mem) : kR1 (.ok (.int j) m) = if -(2 ^ 62) ≤ j ∧ j < 2 ^ 62 ∧ j.toNat ≤ sizeLine then .ok (rgD 0 j.toNat) m else .bad := rfl
theorem rg1_small {b : Nat} (hb : b ≤ 100) (m : Mem) : kR1 (.ok (.int b) m) = .ok (rgD 0 b) m := by
  have z : ((b : Int)).toNat = b := by omega
  have c1 : -(2 ^ 62) ≤ (b : Int) ∧ (b : Int) < 2 ^ 62 ∧ (b : Int).toNat ≤ sizeLine := by
    rw [z]
    exact ⟨by omega, by omega, Nat.le_trans hb (by decide)⟩
  rw [kR1_ok, if_pos c1, z]
theorem rg1_int {j : Int} (h0 : 0 ≤ j) (hb : j ≤ 100) (m : Mem) : kR1 (.ok (.int j) m) = .ok (rgD 0 j.toNat) m := by
  have e := rg1_small (b := j.toNat) (by omega) m
  rw [Int.toNat_of_nonneg h0] at e
  exact e
def kR2b (x : D) (r : Res D) : Res (List D) := r.bind fun y m2 => match x, y with
  | .int i, .int j => if (-(2 ^ 62) ≤ i ∧ i < 2 ^ 62 ∧ -(2 ^ 62) ≤ j ∧ j < 2 ^ 62) ∧ (j - i).toNat ≤ sizeLine then .ok ((List.range (j - i).toNat).map fun k => D.int (i + (k : Nat))) m2 else .bad
  | _, _ => .bad
theorem kR2b_ok (i j : Int) (m : Mem) : kR2b (.int i) (.ok (.int j) m) = if (-(2 ^ 62) ≤ i ∧ i < 2 ^ 62 ∧ -(2 ^ 62) ≤ j ∧ j < 2 ^ 62) ∧ (j - i).toNat ≤ sizeLine then .ok (rgD i (j - i).toNat) m else .bad := rfl
theorem rg_small {a b : Nat} (ha : a ≤ 100) (hb : b ≤ 100) (m : Mem) : kR2b (.int a) (.ok (.int b) m) = .ok (rgD a (b - a)) m := by
  have z : ((b : Int) - (a : Int)).toNat = b - a := by omega
  have c1 : (-(2 ^ 62) ≤ (a : Int) ∧ (a : Int) < 2 ^ 62 ∧ -(2 ^ 62) ≤ (b : Int) ∧ (b : Int) < 2 ^ 62) ∧ ((b : Int) - (a : Int)).toNat ≤ sizeLine := by
    rw [z]
    exact ⟨⟨by omega, by omega, by omega, by omega⟩, Nat.le_trans (by omega : b - a ≤ 100) (by decide)⟩
  rw [kR2b_ok, if_pos c1, z]
def kR2 (b : FE) (ρ : EnvD) (r : Res D) : Res (List D) := r.bind fun x m => kR2b x (b ρ m)
@[simp] theorem kR2_ok (b : FE) (ρ : EnvD) (x : D) (m : Mem) : kR2 b ρ (.ok x m) = kR2b x (b ρ m) := Eq.trans rfl rfl
def kZ2 (x : D) (r : Res D) : Res (List D) := r.bind fun y m => zipR x y m
@[simp] theorem kZ2_ok (x y : D) (m : Mem) : kZ2 x (.ok y m) = zipR x y m := Eq.trans rfl rfl
def kZ1 (b : FE) (ρ : EnvD) (r : Res D) : Res (List D) := r.bind fun x m => kZ2 x (b ρ m)
@[simp] theorem kZ1_ok (b : FE) (ρ : EnvD) (x : D) (m : Mem) : kZ1 b ρ (.ok x m) = kZ2 x (b ρ m) := Eq.trans rfl rfl
@[simp] theorem zipR_tup (xs ys : List D) (m : Mem) : zipR (.tup xs) (.tup ys) m = .ok (pairsD xs ys) m := Eq.trans rfl rfl
@[simp] theorem zipR_lst (xs ys : List D) (m : Mem) : zipR (.lst xs) (.lst ys) m = .ok (pairsD xs ys) m := Eq.trans rfl rfl
def enumI (x : D) (m1 : Mem) : Res (List D) := match x with
  | .tup xs => .ok (enumD 0 xs) m1
  | x => match lstK m1 x with
    | some xs => .ok (enumD 0 xs) m1
    | none => .bad
@[simp] theorem enumI_tup (xs : List D) (m : Mem) : enumI (.tup xs) m = .ok (enumD 0 xs) m := Eq.trans rfl rfl
@[simp] theorem enumI_lst (xs : List D) (m : Mem) : enumI (.lst xs) m = .ok (enumD 0 xs) m := Eq.trans rfl rfl
def kEn (r : Res D) : Res (List D) := r.bind fun x m => enumI x m
@[simp] theorem kEn_ok (x : D) (m : Mem) : kEn (.ok x m) = enumI x m := Eq.trans rfl rfl
/-! slices -/
def kSo (r : Res D) : Res (Option Int) := r.bind fun x m1 => match x with
  | .int i => .ok (some i) m1
  | _ => .bad
@[simp] theorem kSo_ok (i : Int) (m : Mem) : kSo (.ok (.int i) m) = .ok (some i) m := Eq.trans rfl rfl
def kSl3 (mu : Bool) (x : D) (lo : Option Int) (r : Res (Option Int)) : Res D := r.bind fun hi m => hSl mu x lo hi m
@[simp] theorem kSl3_ok (mu : Bool) (x : D) (lo hi : Option Int) (m : Mem) : kSl3 mu x lo (.ok hi m) = hSl mu x lo hi m := Eq.trans rfl rfl
def kSl2 (mu : Bool) (x : D) (h : FO) (ρ : EnvD) (r : Res (Option Int)) : Res D := r.bind fun lo m => kSl3 mu x lo (h ρ m)
@[simp] theorem kSl2_ok (mu : Bool) (x : D) (h : FO) (ρ : EnvD) (lo : Option Int) (m : Mem) : kSl2 mu x h ρ (.ok lo m) = kSl3 mu x lo (h ρ m) := Eq.trans rfl rfl
def kSl1 (mu : Bool) (l h : FO) (ρ : EnvD) (r : Res D) : Res D := r.bind fun x m => kSl2 mu x h ρ (l ρ m)
@[simp] theorem kSl1_ok (mu : Bool) (l h : FO) (ρ : EnvD) (x : D) (m : Mem) : kSl1 mu l h ρ (.ok x m) = kSl2 mu x h ρ (l ρ m) := Eq.trans rfl rfl
/-! attributes, methods, making -/
def atR (cs : List Str) (f : Str) (x : D) (m1 : Mem) : Res D := match insV m1 x with
  | some (c, fs) => if c ∈ cs then (match fs.lookup f with
    | some d => .ok d m1
    | none => .bad) else .bad
  | none => .bad
def kAt (cs : List Str) (f : Str) (r : Res D) : Res D := r.bind fun x m => atR cs f x m
@[simp] theorem kAt_ok (cs : List Str) (f : Str) (x : D) (m : Mem) : kAt cs f (.ok x m) = atR cs f x m := Eq.trans rfl rfl
def kMt2 (x : D) (n : Nat) (F : HL) (dds : List D) (r : Res (List D)) : Res D := r.bind fun ds m2 => if (x :: (ds ++ dds)).length = n then F (x :: (ds ++ dds)) m2 else .bad
@[simp] theorem kMt2_ok (x : D) (n : Nat) (F : HL) (dds ds : List D) (m : Mem) : kMt2 x n F dds (.ok ds m) = if (x :: (ds ++ dds)).length = n then F (x :: (ds ++ dds)) m else .bad := Eq.trans rfl rfl
def kMt1 (c mn : Str) (n : Nat) (F : HL) (dds : List D) (a : FA) (ρ : EnvD) (r : Res D) : Res D := r.bind fun x m1 => match insV m1 x with
  | some (c', fs) => if c' = c ∧ fs.lookup mn = none then kMt2 x n F dds (a ρ m1) else .bad
  | none => .bad
theorem kMt1_ok (c mn : Str) (n : Nat) (F : HL) (dds : List D) (a : FA) (ρ : EnvD) (x : D) (m : Mem) {fs : List (Str × D)} (h : insV m x = some (c, fs)) (h2 : fs.lookup mn = none) : kMt1 c mn n F dds a ρ (.ok x m) = kMt2 x n F dds (a ρ m) := by
  unfold kMt1
  simp [h, h2]
def kMk (c : Str) (n : Nat) (F : HL) (dds : List D) (r : Res (List D)) : Res D := r.bind fun ds m1 => mkR c n F (ds ++ dds) m1
@[simp] theorem kMk_ok (c : Str) (n : Nat) (F : HL) (dds ds : List D) (m : Mem) : kMk c n F dds (.ok ds m) = mkR c n F (ds ++ dds) m := Eq.trans rfl rfl
def kMkK2 (c : Str) (n np nk : Nat) (F : HL) (ds : List D) (r : Res (List D)) : Res D := r.bind fun es m2 => if ds.length = np ∧ es.length = nk then mkR c n F (ds ++ es) m2 else .bad
@[simp] theorem kMkK2_ok (c : Str) (n np nk : Nat) (F : HL) (ds es : List D) (m : Mem) : kMkK2 c n np nk F ds (.ok es m) = if ds.length = np ∧ es.length = nk then mkR c n F (ds ++ es) m else .bad := Eq.trans rfl rfl
def kMkK1 (c : Str) (n np nk : Nat) (F : HL) (b : FA) (ρ : EnvD) (r : Res (List D)) : Res D := r.bind fun ds m1 => kMkK2 c n np nk F ds (b ρ m1)
@[simp] theorem kMkK1_ok (c : Str) (n np nk : Nat) (F : HL) (b : FA) (ρ : EnvD) (ds : List D) (m : Mem) : kMkK1 c n np nk F b ρ (.ok ds m) = kMkK2 c n np nk F ds (b ρ m) := Eq.trans rfl rfl
noncomputable def kFrz (m0 : Mem) (r : Res D) : Res D := r.bind fun d m1 => frzR m0 d m1
@[simp] theorem kFrz_ok (m0 : Mem) (d : D) (m : Mem) : kFrz m0 (.ok d m) = frzR m0 d m := Eq.trans rfl rfl
def appR (x d : D) (m2 : Mem) : Res D := match x with
  | .mref i => (match m2[i]? with
    | some (.lst xs) => if xs.length < sizeLine then .ok .non (m2.set i (.lst (xs ++ [d]))) else .bad
    | _ => .bad)
  | _ => .bad
def kAp2 (x : D) (r : Res D) : Res D := r.bind fun d m2 => appR x d m2
@[simp] theorem kAp2_ok (x d : D) (m : Mem) : kAp2 x (.ok d m) = appR x d m := Eq.trans rfl rfl
def kAp1 (e : FE) (ρ : EnvD) (r : Res D) : Res D := r.bind fun x m1 => match lstE m1 x with
  | some _ => kAp2 x (e ρ m1)
  | none => .bad
theorem kAp1_ok (e : FE) (ρ : EnvD) (x : D) (m : Mem) {xs : List D} (h : lstE m x = some xs) : kAp1 e ρ (.ok x m) = kAp2 x (e ρ m) := by
  unfold kAp1
  simp [h]
def flR (cs : List Str) (f : Str) (ρ : EnvD) (d x : D) (m2 : Mem) : RS := match x with
  | .mref i => (match m2[i]? with
    | some (.ins c fs) => if c ∈ cs ∧ fs.length < 1000 then .nx ρ (m2.set i (.ins c (putD f d fs))) else .bad
    | _ => .bad)
  | _ => .bad
def kFl2 (cs : List Str) (f : Str) (ρ : EnvD) (d : D) (r : Res D) : RS := onE r ρ fun x m2 => flR cs f ρ d x m2
@[simp] theorem kFl2_ok (cs : List Str) (f : Str) (ρ : EnvD) (d x : D) (m : Mem) : kFl2 cs f ρ d (.ok x m) = flR cs f ρ d x m := Eq.trans rfl rfl
def kFl1 (cs : List Str) (f : Str) (o : FE) (ρ : EnvD) (r : Res D) : RS := onE r ρ fun d m1 => kFl2 cs f ρ d (o ρ m1)
@[simp] theorem kFl1_ok (cs : List Str) (f : Str) (o : FE) (ρ : EnvD) (d : D) (m : Mem) : kFl1 cs f o ρ (.ok d m) = kFl2 cs f ρ d (o ρ m) := Eq.trans rfl rfl
noncomputable def kRun (m : Mem) (r : RS) : Res D := match r with
  | .rt d m' => .ok d (cut m m' [d])
  | .nx _ m' => .ok .non (cut m m' [])
  | .exc x _ m' => .exc x (cut m m' (x.att.map (·.2)))
  | _ => .bad
@[simp] theorem kRun_rt (m m' : Mem) (d : D) : kRun m (.rt d m') = .ok d (cut m m' [d]) := Eq.trans rfl rfl
@[simp] theorem kRun_nx (m m' : Mem) (ρ : EnvD) : kRun m (.nx ρ m') = .ok .non (cut m m' []) := Eq.trans rfl rfl
@[simp] theorem kRun_exc (m m' : Mem) (x : Exn) (ρ : EnvD) : kRun m (.exc x ρ m') = .exc x (cut m m' (x.att.map (·.2))) := Eq.trans rfl rfl
theorem x_runF (n : Nat) (b : FS) (ds : List D) (m : Mem) : runF n b ds m = kRun m (b (startD n ds) m) := rfl
/-! lists of targets -/
def kGs (r : FGs) (ds : List D) (q : Res EnvD) : Res EnvD := q.bind fun ρ1 m1 => r ds ρ1 m1
@[simp] theorem kGs_ok (r : FGs) (ds : List D) (ρ : EnvD) (m : Mem) : kGs r ds (.ok ρ m) = r ds ρ m := Eq.trans rfl rfl
section
variable (ρ : EnvD) (m : Mem)
@[simp] theorem x_eVar (i : Nat) : eVar i ρ m = varR ρ[i]? m := Eq.trans rfl rfl
@[simp] theorem x_eC (d : D) : eC d ρ m = .ok d m := Eq.trans rfl rfl
@[simp] theorem x_eOp (h : H2) (a b : FE) : eOp h a b ρ m = kOp1 h b ρ (a ρ m) := Eq.trans rfl rfl
@[simp] theorem x_eUn (h : H1) (a : FE) : eUn h a ρ m = kUn h (a ρ m) := Eq.trans rfl rfl
@[simp] theorem x_eCB (h : HL) (a : FA) : eCB h a ρ m = kCB h (a ρ m) := Eq.trans rfl rfl
@[simp] theorem x_aNil : aNil ρ m = .ok [] m := Eq.trans rfl rfl
@[simp] theorem x_aCons (a : FE) (r : FA) : aCons a r ρ m = kC1 r ρ (a ρ m) := Eq.trans rfl rfl
@[simp] theorem x_aStar (a : FE) (r : FA) : aStar a r ρ m = kSt1 r ρ (a ρ m) := Eq.trans rfl rfl
@[simp] theorem x_tTr (a : FE) : tTr a ρ m = kTr (a ρ m) := Eq.trans rfl rfl
@[simp] theorem x_tAn (a b : FT) : tAn a b ρ m = kAn b ρ (a ρ m) := Eq.trans rfl rfl
@[simp] theorem x_tOr (a b : FT) : tOr' a b ρ m = kOr b ρ (a ρ m) := Eq.trans rfl rfl
@[simp] theorem x_tNo (a : FT) : tNo a ρ m = kNo (a ρ m) := Eq.trans rfl rfl
@[simp] theorem x_eAn (a b : FE) : eAn a b ρ m = kEAn b ρ (a ρ m) := Eq.trans rfl rfl
@[simp] theorem x_eOr (a b : FE) : eOr a b ρ m = kEOr b ρ (a ρ m) := Eq.trans rfl rfl
@[simp] theorem x_eNo (a : FE) : eNo a ρ m = kENo (a ρ m) := Eq.trans rfl rfl
@[simp] theorem x_eIf (c : FT) (a b : FE) : eIf c a b ρ m = kEIf a b ρ (c ρ m) := Eq.trans rfl rfl
@[simp] theorem x_eCh (h h' : H2) (a b c : FE) : eCh h h' a b c ρ m = kCh1 h h' b c ρ (a ρ m) := Eq.trans rfl rfl
@[simp] theorem x_sSeq (a b : FS) : sSeq a b ρ m = kSeq b (a ρ m) := Eq.trans rfl rfl
@[simp] theorem x_sNx : sNx ρ m = .nx ρ m := Eq.trans rfl rfl
@[simp] theorem x_sEx (a : FE) : sEx a ρ m = kEx ρ (a ρ m) := Eq.trans rfl rfl
@[simp] theorem x_sRt (a : FE) : sRt a ρ m = kRt ρ (a ρ m) := Eq.trans rfl rfl
@[simp] theorem x_sRtN : sRtN ρ m = .rt .non m := Eq.trans rfl rfl
@[simp] theorem x_sIf (c : FT) (a b : FS) : sIf c a b ρ m = kIf a b ρ (c ρ m) := Eq.trans rfl rfl
@[simp] theorem x_sSet (i : Nat) (a : FE) : sSet i a ρ m = kSet i ρ (a ρ m) := Eq.trans rfl rfl
@[simp] theorem x_sPar (i j : Nat) (a : FA) : sPar i j a ρ m = kPar i j ρ (a ρ m) := Eq.trans rfl rfl
@[simp] theorem x_sAsg (a : FE) (g : FG) : sAsg a g ρ m = kAsg g ρ (a ρ m) := Eq.trans rfl rfl
@[simp] theorem x_sFor (fi : FI) (fg : FG) (fb : FS) : sFor fi fg fb ρ m = kFor fg fb ρ (fi ρ m) := Eq.trans rfl rfl
@[simp] theorem x_sFl (cs : List Str) (f : Str) (o e : FE) : sFl cs f o e ρ m = kFl1 cs f o ρ (e ρ m) := Eq.trans rfl rfl
@[simp] theorem x_eTup (a : FA) : eTup a ρ m = kTup (a ρ m) := Eq.trans rfl rfl
@[simp] theorem x_eLst (a : FA) : eLst a ρ m = kLst (a ρ m) := Eq.trans rfl rfl
@[simp] theorem x_eLstM (a : FA) : eLstM a ρ m = kLsM (a ρ m) := Eq.trans rfl rfl
@[simp] theorem x_eCall (n : Nat) (F : HL) (dds : List D) (a : FA) : eCall n F dds a ρ m = kCall n F dds (a ρ m) := Eq.trans rfl rfl
@[simp] theorem x_eMeth (c mn : Str) (n : Nat) (F : HL) (dds : List D) (o : FE) (a : FA) : eMeth c mn n F dds o a ρ m = kMt1 c mn n F dds a ρ (o ρ m) := Eq.trans rfl rfl
@[simp] theorem x_eMake (c : Str) (n : Nat) (F : HL) (dds : List D) (a : FA) : eMake c n F dds a ρ m = kMk c n F dds (a ρ m) := Eq.trans rfl rfl
@[simp] theorem x_eMakeK (c : Str) (n np nk : Nat) (F : HL) (a b : FA) : eMakeK c n np nk F a b ρ m = kMkK1 c n np nk F b ρ (a ρ m) := Eq.trans rfl rfl
@[simp] theorem x_eFrz (a : FE) : eFrz a ρ m = kFrz m (a ρ m) := Eq.trans rfl rfl
@[simp] theorem x_eAt (cs : List Str) (f : Str) (o : FE) : eAt cs f o ρ m = kAt cs f (o ρ m) := Eq.trans rfl rfl
@[simp] theorem x_eApp (o e : FE) : eApp o e ρ m = kAp1 e ρ (o ρ m) := Eq.trans rfl rfl
@[simp] theorem x_eM1 (T : D → Mem → Bool) (h : D → D → Mem → Res D) (o e : FE) : eM1 T h o e ρ m = kM1 T h e ρ (o ρ m) := Eq.trans rfl rfl
@[simp] theorem x_eLc (mu : Bool) (vs : List Nat) (fi : FI) (fg : FG) (ft : FT) (fe : FE) : eLc mu vs fi fg ft fe ρ m = kLc mu fg ft fe (wipeD ρ vs) (fi ρ m) := Eq.trans rfl rfl
@[simp] theorem x_eLc2 (mu : Bool) (vs vs1 : List Nat) (fi : FI) (fg : FG) (ft : FT) (fi1 : FI) (fg1 : FG) (ft1 : FT) (fe : FE) : eLc2 mu vs vs1 fi fg ft fi1 fg1 ft1 fe ρ m = kLc2 mu fg ft fi1 fg1 ft1 fe vs1 (wipeD ρ vs) (fi ρ m) := Eq.trans rfl rfl
@[simp] theorem x_eSl (mu : Bool) (a : FE) (l h : FO) : eSl mu a l h ρ m = kSl1 mu l h ρ (a ρ m) := Eq.trans rfl rfl
@[simp] theorem x_oNo : oNo ρ m = .ok none m := Eq.trans rfl rfl
@[simp] theorem x_oSo (a : FE) : oSo a ρ m = kSo (a ρ m) := Eq.trans rfl rfl
@[simp] theorem x_iSeq (a : FE) : iSeq a ρ m = kSq (a ρ m) := Eq.trans rfl rfl
@[simp] theorem x_iRg1 (a : FE) : iRg1 a ρ m = kR1 (a ρ m) := Eq.trans rfl rfl
@[simp] theorem x_iRg2 (a b : FE) : iRg2 a b ρ m = kR2 b ρ (a ρ m) := Eq.trans rfl rfl
@[simp] theorem x_iZpA (a b : FE) : iZpA a b ρ m = kZ1 b ρ (a ρ m) := Eq.trans rfl rfl
@[simp] theorem x_iEnA (a : FE) : iEnA a ρ m = kEn (a ρ m) := Eq.trans rfl rfl
@[simp] theorem x_eD0K : eD0K ρ m = .ok (.mref m.length) (m ++ [.dK []]) := Eq.trans rfl rfl
@[simp] theorem x_gN (i : Nat) (d : D) : gN i d ρ m = .ok (ρ.set i (some d)) m := Eq.trans rfl rfl
@[simp] theorem x_gIx (fo fi : FE) (d : D) : gIx fo fi d ρ m = kIx1 fi d ρ (fo ρ m) := Eq.trans rfl rfl
@[simp] theorem x_gsNil : gsNil [] ρ m = .ok ρ m := Eq.trans rfl rfl
@[simp] theorem x_gsCons (f : FG) (r : FGs) (d : D) (ds : List D) : gsCons f r (d :: ds) ρ m = kGs r ds (f d ρ m) := Eq.trans rfl rfl
@[simp] theorem x_gT (n : Nat) (f : FGs) (xs : List D) : gT n f (.tup xs) ρ m = if xs.length = n then f xs ρ m else .bad := Eq.trans rfl rfl
@[simp] theorem x_tY : tY ρ m = .ok true m := Eq.trans rfl rfl
@[simp] theorem x_wipe0 : wipeD ρ [] = ρ := Eq.trans rfl rfl
@[simp] theorem x_wipe (v : Nat) (vs : List Nat) : wipeD ρ (v :: vs) = (wipeD ρ vs).set v none := Eq.trans rfl rfl
end
/-! ### operators -/
section
variable (m : Mem)
@[simp] theorem h_add (i j : Int) : hAdd (.int i) (.int j) m = .ok (.int (i + j)) m := Eq.trans rfl rfl
@[simp] theorem h_addS (a b : Str) : hAdd (.str a) (.str b) m = if a.length + b.length ≤ sizeLine then .ok (.str (a ++ b)) m else .bad := Eq.trans rfl rfl
@[simp] theorem h_addT (a b : List D) : hAdd (.tup a) (.tup b) m = if a.length + b.length ≤ sizeLine then .ok (.tup (a ++ b)) m else .bad := Eq.trans rfl rfl
@[simp] theorem h_addL (a b : List D) : hAdd (.lst a) (.lst b) m = if a.length + b.length ≤ sizeLine then .ok (.lst (a ++ b)) m else .bad := Eq.trans rfl rfl
@[simp] theorem h_sub (i j : Int) : hI (fun _ _ => True) (fun i j => .int (i - j)) (.int i) (.int j) m = .ok (.int (i - j)) m := by simp [hI]
theorem h_fdiv {i j : Int} (h : 0 < j ∧ j.natAbs.log2 < 9000) : hI CDivW (fun i j => .int (i / j)) (.int i) (.int j) m = .ok (.int (i / j)) m := if_pos h
theorem h_mod {i j : Int} (h : 0 < j) : hI (fun _ j => 0 < j) (fun i j => .int (i % j)) (.int i) (.int j) m = .ok (.int (i % j)) m := if_pos h
theorem h_pow {i j : Int} (h : 0 ≤ j ∧ j ≤ 1000000 ∧ i.natAbs < 2 ^ 64) : hI CPow (fun i j => .int (i ^ j.toNat)) (.int i) (.int j) m = .ok (.int (i ^ j.toNat)) m := if_pos h
theorem h_mul {i j : Int} (h : CMul i j) : hMul (.int i) (.int j) m = .ok (.int (i * j)) m := if_pos (.inl h)
@[simp] theorem h_neg (i : Int) : hNeg (.int i) m = .ok (.int (-i)) m := Eq.trans rfl rfl
@[simp] theorem h_cmp (p : Int → Int → Bool) (i j : Int) : hCmp p (.int i) (.int j) m = .ok (.bl (p i j)) m := Eq.trans rfl rfl
@[simp] theorem h_int (i : Int) : hInt [.int i] m = .ok (.int i) m := Eq.trans rfl rfl
@[simp] theorem h_eqI (n : Bool) (i j : Int) : hEqP n (.int i) (.int j) m = .ok (.bl (if n then !decide (i = j) else decide (i = j))) m := by
  have h1 : ∀ z : Int, SeqAt.shaped (.int z) = true := fun z => rfl
  simp only [hEqP, toPyM, toPy, h1, PyData.eqv, and_self, if_true]
  cases n <;> rfl
@[simp] theorem h_eqB (n : Bool) (i j : Bool) : hEqP n (.bl i) (.bl j) m = .ok (.bl (if n then !decide (i = j) else decide (i = j))) m := by
  have h1 : ∀ z : Bool, SeqAt.shaped (.bool z) = true := fun z => rfl
  cases i <;> cases j <;> simp [hEqP, toPyM, toPy, h1, PyData.eqv]
end
end DM
end
section
set_option maxRecDepth 100000
set_option maxHeartbeats 4000000
/-! What is wanted of a result, part 1: the rules, head by head (what is to be shown of the rest stands in the wish). -/
namespace DM
open PySem L2 DL
/-- what is wanted: Q of a value, E of an error -/
def W {α : Type} (Q : α → Mem → Prop) (E : Exn → Mem → Prop) : Res α → Prop
  | .ok a m => Q a m
  | .exc x m => E x m
  | .bad => False
def NoX : Exn → Mem → Prop := fun _ _ => False
section
variable {α β : Type} {Q Q' : α → Mem → Prop} {E E' : Exn → Mem → Prop}
theorem w_bind {P : β → Mem → Prop} {r : Res α} {f : α → Mem → Res β} (h : W (fun a m => W P E (f a m)) E r) : W P E (r.bind f) := by cases r <;> exact h
theorem W.mono {r : Res α} (h : W Q E r) (hq : ∀ a m, Q a m → Q' a m) (he : ∀ x m, E x m → E' x m) : W Q' E' r := by
  cases r with
  | ok a m => exact hq a m h
  | exc x m => exact he x m h
  | bad => exact h
theorem W.imp {r : Res α} (h : W Q E r) (hq : ∀ a m, Q a m → Q' a m) : W Q' E r := h.mono hq fun _ _ h => h
theorem W.any {r : Res α} (h : W Q NoX r) : W Q E r := h.mono (fun _ _ h => h) fun _ _ h => h.elim
theorem w_eq {r : Res α} {a : α} {m : Mem} (e : r = .ok a m) (h : Q a m) : W Q E r := by rw [e]; exact h
theorem w_exc {r : Res α} {x : Exn} {m : Mem} (e : r = .exc x m) (h : E x m) : W Q E r := by rw [e]; exact h
theorem w_ok {a : α} {m : Mem} (h : Q a m) : W Q E (.ok a m) := h
theorem W.out {r : Res α} (h : W Q NoX r) : ∃ a m, r = .ok a m ∧ Q a m := by
  cases r with
  | ok a m => exact ⟨a, m, rfl, h⟩
  | exc x m => exact h.elim
  | bad => exact h.elim
theorem W.eq {r : Res α} {x : α} {m : Mem} (h : W (fun a m' => a = x ∧ m' = m) NoX r) : r = .ok x m := by
  obtain ⟨a, m', e, h1, h2⟩ := h.out
  rw [e, h1, h2]
theorem w_of {r : Res α} (h : ∃ a m, r = .ok a m ∧ Q a m) : W Q E r := by
  obtain ⟨a, m, e, q⟩ := h
  rw [e]
  exact q
end
/-! ### tests -/
section
variable {A B : Prop} {p : Prop} [Decidable p]
theorem d_case {b : Bool} (ht : b = true → A) (hf : b = false → B) : if b = true then A else B := by
  cases b with
  | true => exact ht rfl
  | false => exact hf rfl
theorem d_dec (ht : p → A) (hf : ¬ p → B) : if decide p = true then A else B := by
  by_cases h : p
  · simpa [h] using ht h
  · simpa [h] using hf h
theorem d_T {b : Bool} (h : b = true) (a : A) : if b = true then A else B := by rw [if_pos h]; exact a
theorem d_F {b : Bool} (h : b = false) (a : B) : if b = true then A else B := by rw [if_neg (by rw [h]; decide)]; exact a
theorem d_pos (h : p) (a : A) : if p then A else B := by rw [if_pos h]; exact a
theorem d_neg (h : ¬ p) (a : B) : if p then A else B := by rw [if_neg h]; exact a
theorem d_true (a : A) : if true = true then A else B := a
theorem d_false (a : B) : if false = true then A else B := a
theorem d_nT (a : A) : if (!false) = true then A else B := a
theorem d_nF (a : B) : if (!true) = true then A else B := a
theorem d_ndec (hf : ¬ p → A) (ht : p → B) : if (!decide p) = true then A else B := by
  by_cases h : p
  · simpa [h] using ht h
  · simpa [h] using hf h
theorem d_ncase {b : Bool} (hf : b = false → A) (ht : b = true → B) : if (!b) = true then A else B := by
  cases b with
  | true => exact ht rfl
  | false => exact hf rfl
end
/-! ### expressions -/
section
variable {Q : D → Mem → Prop} {E : Exn → Mem → Prop} {ρ : EnvD} {m : Mem} {a b c : FE} {fa r : FA} {d : D} {i : Nat}
theorem w_var (e : ρ[i]? = some (some d)) (h : Q d m) : W Q E (eVar i ρ m) := by unfold eVar; rw [e]; exact h
theorem w_c (h : Q d m) : W Q E (eC d ρ m) := h
theorem w_op {h2 : H2} (h : W (fun x m1 => W (fun y m2 => W Q E (h2 x y m2)) E (b ρ m1)) E (a ρ m)) : W Q E (eOp h2 a b ρ m) := w_bind (h.imp fun _ _ h => w_bind h)
theorem w_un {h1 : H1} (h : W (fun x m1 => W Q E (h1 x m1)) E (a ρ m)) : W Q E (eUn h1 a ρ m) := w_bind h
theorem w_cb {hl : HL} (h : W (fun xs m1 => W Q E (hl xs m1)) E (fa ρ m)) : W Q E (eCB hl fa ρ m) := w_bind h
theorem w_nil {Q : List D → Mem → Prop} (h : Q [] m) : W Q E (aNil ρ m) := h
theorem w_cons {Q : List D → Mem → Prop} (h : W (fun x m1 => W (fun xs m2 => Q (x :: xs) m2) E (r ρ m1)) E (a ρ m)) : W Q E (aCons a r ρ m) := w_bind (h.imp fun _ _ h => w_bind h)
theorem w_star {Q : List D → Mem → Prop} (h : W (fun x m1 => ∃ ys, seqV m1 x = some ys ∧ W (fun xs m2 => Q (ys ++ xs) m2) E (r ρ m1)) E (a ρ m)) : W Q E (aStar a r ρ m) := w_bind (h.imp fun x m1 ⟨ys, e, h⟩ => by simp only [e]; exact w_bind h)
theorem w_tup (h : W (fun xs m1 => xs.length ≤ sizeLine ∧ Q (.tup xs) m1) E (fa ρ m)) : W Q E (eTup fa ρ m) := w_bind (h.imp fun xs m1 ⟨e, h⟩ => by rw [if_pos e]; exact h)
theorem w_lst (h : W (fun xs m1 => xs.length ≤ sizeLine ∧ Q (.lst xs) m1) E (fa ρ m)) : W Q E (eLst fa ρ m) := w_bind (h.imp fun xs m1 ⟨e, h⟩ => by rw [if_pos e]; exact h)
theorem w_lstM (h : W (fun xs m1 => xs.length ≤ sizeLine ∧ Q (.mref m1.length) (m1 ++ [.lst xs])) E (fa ρ m)) : W Q E (eLstM fa ρ m) := w_bind (h.imp fun xs m1 ⟨e, h⟩ => by rw [if_pos e]; exact h)
theorem w_tr {Q : Bool → Mem → Prop} (h : W (fun x m1 => ∃ b, x = .bl b ∧ Q b m1) E (a ρ m)) : W Q E (tTr a ρ m) := w_bind (h.imp fun x m1 ⟨b, e, h⟩ => by subst e; exact h)
theorem w_tan {Q : Bool → Mem → Prop} {s t : FT} (h : W (fun x m1 => if x = true then W Q E (t ρ m1) else Q false m1) E (s ρ m)) : W Q E (tAn s t ρ m) := w_bind (h.imp fun x m1 h => by cases x <;> exact h)
theorem w_tor {Q : Bool → Mem → Prop} {s t : FT} (h : W (fun x m1 => if x = true then Q true m1 else W Q E (t ρ m1)) E (s ρ m)) : W Q E (tOr' s t ρ m) := w_bind (h.imp fun x m1 h => by cases x <;> exact h)
theorem w_tno {Q : Bool → Mem → Prop} {s : FT} (h : W (fun x m1 => Q (!x) m1) E (s ρ m)) : W Q E (tNo s ρ m) := w_bind h
theorem w_tY {Q : Bool → Mem → Prop} (h : Q true m) : W Q E (tY ρ m) := h
theorem w_an (h : W (fun x m1 => ∃ c, x = .bl c ∧ if c = true then W Q E (b ρ m1) else Q (.bl false) m1) E (a ρ m)) : W Q E (eAn a b ρ m) := w_bind (h.imp fun x m1 ⟨c, e, h⟩ => by subst e; cases c <;> exact h)
theorem w_or (h : W (fun x m1 => ∃ c, x = .bl c ∧ if c = true then Q (.bl true) m1 else W Q E (b ρ m1)) E (a ρ m)) : W Q E (eOr a b ρ m) := w_bind (h.imp fun x m1 ⟨c, e, h⟩ => by subst e; cases c <;> exact h)
theorem w_no (h : W (fun x m1 => ∃ c, x = .bl c ∧ Q (.bl (!c)) m1) E (a ρ m)) : W Q E (eNo a ρ m) := w_bind (h.imp fun x m1 ⟨c, e, h⟩ => by subst e; exact h)
theorem w_if {t : FT} (h : W (fun x m1 => if x = true then W Q E (a ρ m1) else W Q E (b ρ m1)) E (t ρ m)) : W Q E (eIf t a b ρ m) := w_bind (h.imp fun x m1 h => by cases x <;> exact h)
theorem w_ch {h2 h3 : H2} (h : W (fun x m1 => W (fun y m2 => W (fun z m3 => ∃ k, z = .bl k ∧ if k = true then W (fun w m4 => W Q E (h3 y w m4)) E (c ρ m3) else Q (.bl false) m3) E (h2 x y m2)) E (b ρ m1)) E (a ρ m)) : W Q E (eCh h2 h3 a b c ρ m) :=
  w_bind (h.imp fun x m1 h => w_bind (h.imp fun y m2 h => w_bind (h.imp fun z m3 ⟨k, e, h⟩ => by
    subst e
    cases k with
    | true => exact w_bind h
    | false => exact h)))
theorem w_call {n : Nat} {F : HL} {dds : List D} (h : W (fun xs m1 => (xs ++ dds).length = n ∧ W Q E (F (xs ++ dds) m1)) E (fa ρ m)) : W Q E (eCall n F dds fa ρ m) := w_bind (h.imp fun xs m1 ⟨e, h⟩ => by rw [if_pos e]; exact h)
theorem w_meth {cl mn : Str} {n : Nat} {F : HL} {dds : List D} (h : W (fun x m1 => ∃ fs, insV m1 x = some (cl, fs) ∧ fs.lookup mn = none ∧ W (fun xs m2 => (x :: (xs ++ dds)).length = n ∧ W Q E (F (x :: (xs ++ dds)) m2)) E (fa ρ m1)) E (a ρ m)) : W Q E (eMeth cl mn n F dds a fa ρ m) :=
  w_bind (h.imp fun x m1 ⟨fs, e, e2, h⟩ => by
    simp only [e]
    simp only [e2, and_self, if_true]
    exact w_bind (h.imp fun xs m2 ⟨e3, h⟩ => by rw [if_pos e3]; exact h))
theorem w_make {cl : Str} {n : Nat} {F : HL} {dds : List D} (h : W (fun xs m1 => W Q E (mkR cl n F (xs ++ dds) m1)) E (fa ρ m)) : W Q E (eMake cl n F dds fa ρ m) := w_bind h
theorem w_makeK {cl : Str} {n np nk : Nat} {F : HL} (h : W (fun xs m1 => W (fun ys m2 => (xs.length = np ∧ ys.length = nk) ∧ W Q E (mkR cl n F (xs ++ ys) m2)) E (r ρ m1)) E (fa ρ m)) : W Q E (eMakeK cl n np nk F fa r ρ m) := w_bind (h.imp fun _ _ h => w_bind (h.imp fun _ _ ⟨e, h⟩ => by rw [if_pos e]; exact h))
theorem w_mkR {cl : Str} {n : Nat} {F : HL} {ds : List D} (hl : ds.length + 1 = n) (h : W (fun d m2 => d = .non ∧ Q (.mref m.length) m2) E (F (.mref m.length :: ds) (m ++ [.ins cl []]))) : W Q E (mkR cl n F ds m) := by
  unfold mkR
  rw [if_pos hl]
  exact w_bind (h.imp fun d m2 ⟨e, h⟩ => by subst e; exact h)
theorem w_frz (h : W (fun d m1 => W Q E (frzR m d m1)) E (a ρ m)) : W Q E (eFrz a ρ m) := w_bind h
theorem w_at {cs : List Str} {f : Str} (h : W (fun x m1 => ∃ c fs d, insV m1 x = some (c, fs) ∧ c ∈ cs ∧ fs.lookup f = some d ∧ Q d m1) E (a ρ m)) : W Q E (eAt cs f a ρ m) := w_bind (h.imp fun x m1 ⟨c, fs, d, e1, e2, e3, h⟩ => by simp only [e1, if_pos e2, e3]; exact h)
theorem w_sl {mu : Bool} {l h' : FO} (h : W (fun x m1 => W (fun lo m2 => W (fun hi m3 => W Q E (hSl mu x lo hi m3)) E (h' ρ m2)) E (l ρ m1)) E (a ρ m)) : W Q E (eSl mu a l h' ρ m) := w_bind (h.imp fun _ _ h => w_bind (h.imp fun _ _ h => w_bind h))
theorem w_oNo {Q : Option Int → Mem → Prop} (h : Q none m) : W Q E (oNo ρ m) := h
theorem w_oSo {Q : Option Int → Mem → Prop} (h : W (fun x m1 => ∃ i, x = .int i ∧ Q (some i) m1) E (a ρ m)) : W Q E (oSo a ρ m) := w_bind (h.imp fun x m1 ⟨i, e, h⟩ => by subst e; exact h)
theorem w_app (h : W (fun x m1 => ∃ xs, lstE m1 x = some xs ∧ W (fun d m2 => ∃ i xs, x = .mref i ∧ m2[i]? = some (.lst xs) ∧ xs.length < sizeLine ∧ Q .non (m2.set i (.lst (xs ++ [d])))) E (b ρ m1)) E (a ρ m)) : W Q E (eApp a b ρ m) :=
  w_bind (h.imp fun x m1 ⟨xs, e, h⟩ => by
    simp only [e]
    exact w_bind (h.imp fun d m2 ⟨i, xs, e1, e2, e3, h3⟩ => by subst e1; simp only [e2, if_pos e3]; exact h3))
theorem w_m1 {T : D → Mem → Bool} {h2 : D → D → Mem → Res D} (h : W (fun x m1 => T x m1 = true ∧ W (fun y m2 => W Q E (h2 x y m2)) E (b ρ m1)) E (a ρ m)) : W Q E (eM1 T h2 a b ρ m) := w_bind (h.imp fun x m1 ⟨e, h⟩ => by rw [if_pos e]; exact w_bind h)
theorem w_m0 {T : D → Mem → Bool} {h1 : D → Mem → Res D} (h : W (fun x m1 => T x m1 = true ∧ W Q E (h1 x m1)) E (a ρ m)) : W Q E (eM0 T h1 a ρ m) := w_bind (h.imp fun x m1 ⟨e, h⟩ => by rw [if_pos e]; exact h)
theorem w_get2 (h : W (fun x m1 => isDc m1 x = true ∧ W (fun y m2 => W (fun z m3 => W Q E (dGet2 x y z m3)) E (c ρ m2)) E (b ρ m1)) E (a ρ m)) : W Q E (eDGet2 a b c ρ m) := w_bind (h.imp fun x m1 ⟨e, h⟩ => by rw [if_pos e]; exact w_bind (h.imp fun _ _ h => w_bind h))
theorem w_d0K (h : Q (.mref m.length) (m ++ [.dK []])) : W Q E (eD0K ρ m) := h
theorem w_d0T (h : Q (.mref m.length) (m ++ [.dT []])) : W Q E (eD0T ρ m) := h
end
/-! ### targets -/
section
variable {Q : EnvD → Mem → Prop} {E : Exn → Mem → Prop} {ρ : EnvD} {m : Mem} {d : D} {i n : Nat} {fg : FG} {fgs : FGs} {a b : FE} {ds : List D}
theorem w_gN (h : Q (ρ.set i (some d)) m) : W Q E (gN i d ρ m) := h
theorem w_gsNil (h : Q ρ m) : W Q E (gsNil [] ρ m) := h
theorem w_gsCons (h : W (fun ρ1 m1 => W Q E (fgs ds ρ1 m1)) E (fg d ρ m)) : W Q E (gsCons fg fgs (d :: ds) ρ m) := w_bind h
theorem w_gT (hl : ds.length = n) (h : W Q E (fgs ds ρ m)) : W Q E (gT n fgs (.tup ds) ρ m) := by unfold gT; simp only [if_pos hl]; exact h
theorem w_gL (e : lstV m d = some ds) (hl : ds.length = n) (h : W Q E (fgs ds ρ m)) : W Q E (gL n fgs d ρ m) := by unfold gL; simp only [e, if_pos hl]; exact h
theorem w_gIx (h : W (fun x m1 => W (fun y m2 => ∃ i k xs j, x = .mref i ∧ y = .int k ∧ m2[i]? = some (.lst xs) ∧ ixN xs.length k = some j ∧ Q ρ (m2.set i (.lst (xs.set j d)))) E (b ρ m1)) E (a ρ m)) : W Q E (gIx a b d ρ m) :=
  w_bind (h.imp fun x m1 h => w_bind (h.imp fun y m2 ⟨i, k, xs, j, e1, e2, e3, e4, h3⟩ => by subst e1; subst e2; simp only [e3, e4]; exact h3))
theorem w_gDx (h : W (fun x m1 => W (fun y m2 => ∃ m3, dPut x y d m2 = some m3 ∧ Q ρ m3) E (b ρ m1)) E (a ρ m)) : W Q E (gDx a b d ρ m) := w_bind (h.imp fun x m1 h => w_bind (h.imp fun y m2 ⟨m3, e, h⟩ => by simp only [e]; exact h))
end
/-! ### statements -/
def WS (n : EnvD → Mem → Prop) (r : D → Mem → Prop) (b c : EnvD → Mem → Prop) (e : Exn → EnvD → Mem → Prop) : RS → Prop
  | .nx ρ m => n ρ m
  | .rt d m => r d m
  | .bk ρ m => b ρ m
  | .ct ρ m => c ρ m
  | .exc x ρ m => e x ρ m
  | .bad => False
def No2 : EnvD → Mem → Prop := fun _ _ => False
def NoR : D → Mem → Prop := fun _ _ => False
def NoE : Exn → EnvD → Mem → Prop := fun _ _ _ => False
section
variable {n n' : EnvD → Mem → Prop} {r r' : D → Mem → Prop} {b c b' c' : EnvD → Mem → Prop} {e e' : Exn → EnvD → Mem → Prop} {ρ : EnvD} {m : Mem} {A B : FS} {a o : FE} {fa : FA} {i j k : Nat}
theorem WS.mono {s : RS} (h : WS n r b c e s) (hn : ∀ ρ m, n ρ m → n' ρ m) (hr : ∀ d m, r d m → r' d m) (hb : ∀ ρ m, b ρ m → b' ρ m) (hc : ∀ ρ m, c ρ m → c' ρ m) (he : ∀ x ρ m, e x ρ m → e' x ρ m) : WS n' r' b' c' e' s := by
  cases s with
  | nx ρ m => exact hn _ _ h
  | rt d m => exact hr _ _ h
  | bk ρ m => exact hb _ _ h
  | ct ρ m => exact hc _ _ h
  | exc x ρ m => exact he _ _ _ h
  | bad => exact h
theorem WS.imp {s : RS} (h : WS n r b c e s) (hn : ∀ ρ m, n ρ m → n' ρ m) : WS n' r b c e s := h.mono hn (fun _ _ h => h) (fun _ _ h => h) (fun _ _ h => h) fun _ _ _ h => h
theorem ws_eq {s : RS} {ρ' : EnvD} {m' : Mem} (q : s = .nx ρ' m') (h : n ρ' m') : WS n r b c e s := by rw [q]; exact h
theorem ws_on {α : Type} {x : Res α} {f : α → Mem → RS} (h : W (fun d m1 => WS n r b c e (f d m1)) (fun x m1 => e x ρ m1) x) : WS n r b c e (onE x ρ f) := by cases x <;> exact h
theorem ws_seq (h : WS (fun ρ1 m1 => WS n r b c e (B ρ1 m1)) r b c e (A ρ m)) : WS n r b c e (sSeq A B ρ m) := by
  unfold sSeq
  revert h
  cases A ρ m <;> exact fun h => h
theorem ws_nx (h : n ρ m) : WS n r b c e (sNx ρ m) := h
theorem ws_bk (h : b ρ m) : WS n r b c e (sBk ρ m) := h
theorem ws_ct (h : c ρ m) : WS n r b c e (sCt ρ m) := h
theorem ws_ex (h : W (fun _ m1 => n ρ m1) (fun x m1 => e x ρ m1) (a ρ m)) : WS n r b c e (sEx a ρ m) := ws_on h
theorem ws_rt (h : W (fun d m1 => r d m1) (fun x m1 => e x ρ m1) (a ρ m)) : WS n r b c e (sRt a ρ m) := ws_on h
theorem ws_rtN (h : r .non m) : WS n r b c e (sRtN ρ m) := h
theorem ws_if {t : FT} (h : W (fun x m1 => if x = true then WS n r b c e (A ρ m1) else WS n r b c e (B ρ m1)) (fun x m1 => e x ρ m1) (t ρ m)) : WS n r b c e (sIf t A B ρ m) := ws_on (h.imp fun x m1 h => by cases x <;> exact h)
theorem ws_set (h : W (fun d m1 => n (ρ.set i (some d)) m1) (fun x m1 => e x ρ m1) (a ρ m)) : WS n r b c e (sSet i a ρ m) := ws_on h
theorem ws_asg {g : FG} (h : W (fun d m1 => W (fun ρ1 m2 => n ρ1 m2) (fun x m1 => e x ρ m1) (g d ρ m1)) (fun x m1 => e x ρ m1) (a ρ m)) : WS n r b c e (sAsg a g ρ m) := ws_on (h.imp fun d m1 h => ws_on h)
theorem ws_par (h : W (fun ds m1 => ∃ x y, ds = [x, y] ∧ n ((ρ.set i (some x)).set j (some y)) m1) (fun x m1 => e x ρ m1) (fa ρ m)) : WS n r b c e (sPar i j fa ρ m) := ws_on (h.imp fun ds m1 ⟨x, y, q, h⟩ => by subst q; exact h)
theorem ws_par3 (h : W (fun ds m1 => ∃ x y z, ds = [x, y, z] ∧ n (((ρ.set i (some x)).set j (some y)).set k (some z)) m1) (fun x m1 => e x ρ m1) (fa ρ m)) : WS n r b c e (sPar3 i j k fa ρ m) := ws_on (h.imp fun ds m1 ⟨x, y, z, q, h⟩ => by subst q; exact h)
theorem ws_fl {cs : List Str} {f : Str} (h : W (fun d m1 => W (fun x m2 => ∃ i cl fs, x = .mref i ∧ m2[i]? = some (.ins cl fs) ∧ (cl ∈ cs ∧ fs.length < 1000) ∧ n ρ (m2.set i (.ins cl (putD f d fs)))) (fun x m1 => e x ρ m1) (o ρ m1)) (fun x m1 => e x ρ m1) (a ρ m)) : WS n r b c e (sFl cs f o a ρ m) :=
  ws_on (h.imp fun d m1 h => ws_on (h.imp fun x m2 ⟨i, cl, fs, e1, e2, e3, h3⟩ => by subst e1; simp only [e2, if_pos e3]; exact h3))
theorem ws_raise {cl f : Str} (h : W (fun ds m1 => ∃ d, ds = [d] ∧ e ⟨cl, [(f, d)]⟩ ρ m1) (fun x m1 => e x ρ m1) (fa ρ m)) : WS n r b c e (sRaise cl f fa ρ m) := ws_on (h.imp fun ds m1 ⟨d, q, h⟩ => by subst q; exact h)
theorem ws_un {s : RS} (h : WS (fun ρ m => n (ρ.set i none) m) r (fun ρ m => b (ρ.set i none) m) (fun ρ m => c (ρ.set i none) m) NoE s) : WS n r b c e (unN i s) := by
  cases s with
  | nx ρ m => exact h
  | rt d m => exact h
  | bk ρ m => exact h
  | ct ρ m => exact h
  | exc x ρ m => exact h.elim
  | bad => exact h
theorem ws_try {cl : Str} {fs : Exn → FS} (h : WS n r b c (fun x ρ1 m1 => (x.c = cl ∧ i < ρ1.length) ∧ WS (fun ρ m => n (ρ.set i none) m) r (fun ρ m => b (ρ.set i none) m) (fun ρ m => c (ρ.set i none) m) NoE (fs x (ρ1.set i none) m1)) (A ρ m)) : WS n r b c e (sTry cl i A fs ρ m) := by
  unfold sTry
  revert h
  cases A ρ m with
  | nx ρ m => exact fun h => h
  | rt d m => exact fun h => h
  | bk ρ m => exact fun h => h
  | ct ρ m => exact fun h => h
  | bad => exact fun h => h
  | exc x ρ1 m1 =>
    rintro ⟨h1, h2⟩
    show WS n r b c e (if x.c = cl ∧ i < ρ1.length then _ else _)
    rw [if_pos h1]
    exact ws_un h2
theorem ws_forI {fi : FI} {fg : FG} (h : W (fun ds m1 => WS n r b c e (forGo fg A ds ρ m1)) (fun x m1 => e x ρ m1) (fi ρ m)) : WS n r b c e (sFor fi fg A ρ m) := ws_on h
/-- a loop over a list of things, by what holds behind the first ones -/
theorem ws_for {T : Type} {fg : FG} {inj : T → D} (I : List T → EnvD → Mem → Prop) (hst : ∀ (pre : List T) (x : T) (post : List T) ρ m, I pre ρ m → W (fun ρ1 m1 => WS (I (pre ++ [x])) r n (I (pre ++ [x])) e (A ρ1 m1)) NoX (fg (inj x) ρ m)) (hn : ∀ xs ρ m, I xs ρ m → n ρ m) :
    ∀ (xs pre : List T) ρ m, I pre ρ m → WS n r b c e (forGo fg A (xs.map inj) ρ m)
  | [], pre, ρ, m, hI => hn pre ρ m hI
  | x :: xs, pre, ρ, m, hI => by
    have h := hst pre x xs ρ m hI
    show WS n r b c e (forGo fg A (inj x :: xs.map inj) ρ m)
    unfold forGo
    cases hg : fg (inj x) ρ m with
    | bad => rw [hg] at h; exact h.elim
    | exc _ _ => rw [hg] at h; exact h.elim
    | ok ρ1 m1 =>
      rw [hg] at h
      replace h : WS (I (pre ++ [x])) r n (I (pre ++ [x])) e (A ρ1 m1) := h
      dsimp only
      revert h
      cases A ρ1 m1 with
      | nx ρ2 m2 => exact fun h => ws_for I hst hn xs _ ρ2 m2 h
      | ct ρ2 m2 => exact fun h => ws_for I hst hn xs _ ρ2 m2 h
      | bk ρ2 m2 => exact fun h => h
      | rt d m2 => exact fun h => h
      | exc x ρ2 m2 => exact fun h => h
      | bad => exact fun h => h
/-- the same, where a step may know what it stands at -/
theorem ws_forP {T : Type} {fg : FG} {inj : T → D} {all : List T} (I : List T → EnvD → Mem → Prop) (hst : ∀ (pre : List T) (x : T) (post : List T) ρ m, all = pre ++ x :: post → I pre ρ m → W (fun ρ1 m1 => WS (I (pre ++ [x])) r n (I (pre ++ [x])) e (A ρ1 m1)) NoX (fg (inj x) ρ m)) (hn : ∀ ρ m, I all ρ m → n ρ m) :
    ∀ (xs pre : List T) ρ m, all = pre ++ xs → I pre ρ m → WS n r b c e (forGo fg A (xs.map inj) ρ m)
  | [], pre, ρ, m, ha, hI => hn ρ m (by rw [ha, List.append_nil]; exact hI)
  | x :: xs, pre, ρ, m, ha, hI => by
    have h := hst pre x xs ρ m ha hI
    show WS n r b c e (forGo fg A (inj x :: xs.map inj) ρ m)
    unfold forGo
    cases hg : fg (inj x) ρ m with
    | bad => rw [hg] at h; exact h.elim
    | exc _ _ => rw [hg] at h; exact h.elim
    | ok ρ1 m1 =>
      rw [hg] at h
      replace h : WS (I (pre ++ [x])) r n (I (pre ++ [x])) e (A ρ1 m1) := h
      have ha2 : all = (pre ++ [x]) ++ xs := by rw [ha]; simp
      dsimp only
      revert h
      cases A ρ1 m1 with
      | nx ρ2 m2 => exact fun h => ws_forP I hst hn xs _ ρ2 m2 ha2 h
      | ct ρ2 m2 => exact fun h => ws_forP I hst hn xs _ ρ2 m2 ha2 h
      | bk ρ2 m2 => exact fun h => h
      | rt d m2 => exact fun h => h
      | exc x ρ2 m2 => exact fun h => h
      | bad => exact fun h => h
end
/-! ### defs -/
section
variable {Q : D → Mem → Prop} {E : Exn → Mem → Prop} {m : Mem} {ds : List D} {n : Nat} {body : FS}
theorem w_run (h : WS (fun _ m' => Q .non (cut m m' [])) (fun d m' => Q d (cut m m' [d])) No2 No2 (fun x _ m' => E x (cut m m' (x.att.map (·.2)))) (body (startD n ds) m)) : W Q E (runF n body ds m) := by
  unfold runF
  revert h
  cases body (startD n ds) m with
  | nx ρ m => exact fun h => h
  | rt d m => exact fun h => h
  | bk ρ m => exact fun h => h.elim
  | ct ρ m => exact fun h => h.elim
  | exc x ρ m => exact fun h => h
  | bad => exact fun h => h
theorem cut_le {m m' : Mem} {ds : List D} (h : m'.length ≤ m.length) : cut m m' ds = m' := by unfold cut; rw [if_pos h]
/-- no new things are left -/
theorem w_runS (h : WS (fun _ m' => m'.length = m.length ∧ Q .non m') (fun d m' => m'.length = m.length ∧ Q d m') No2 No2 (fun x _ m' => m'.length = m.length ∧ E x m') (body (startD n ds) m)) : W Q E (runF n body ds m) :=
  w_run (h.mono (fun _ _ ⟨e, h⟩ => by rw [cut_le (Nat.le_of_eq e)]; exact h) (fun _ _ ⟨e, h⟩ => by rw [cut_le (Nat.le_of_eq e)]; exact h) (fun _ _ h => h) (fun _ _ h => h) fun _ _ _ ⟨e, h⟩ => by rw [cut_le (Nat.le_of_eq e)]; exact h)
theorem cut_tl {m m1 tl : Mem} {ds : List D} (hl : m1.length = m.length) (hd : ∀ x ∈ ds, Bel m.length x) (hm : ∀ i, i < m.length → m1[i]? = m[i]? ∨ ∃ o, m1[i]? = some o ∧ BelM m.length o) : cut m (m1 ++ tl) ds = m1 := by
  unfold cut
  split
  · rename_i h
    have : tl = [] := by
      rw [List.length_append] at h
      exact List.length_eq_zero_iff.mp (by omega)
    rw [this, List.append_nil]
  · rw [if_pos ⟨hd, fun i hi => by rw [List.getElem?_append_left (by omega)]; exact hm i hi⟩]
    rw [← hl]
    simp
/-- what is new at the end goes -/
theorem w_runT (h : WS (fun _ m' => ∃ tl, m' = m ++ tl ∧ Q .non m) (fun d m' => ∃ tl, m' = m ++ tl ∧ Bel m.length d ∧ Q d m) No2 No2 (fun x _ m' => ∃ tl, m' = m ++ tl ∧ (∀ p ∈ x.att, Bel m.length p.2) ∧ E x m) (body (startD n ds) m)) : W Q E (runF n body ds m) :=
  w_run (h.mono (fun _ _ ⟨tl, e, h⟩ => by rw [e, cut_tl rfl (by simp) (fun i _ => .inl rfl)]; exact h) (fun d _ ⟨tl, e, hb, h⟩ => by rw [e, cut_tl rfl (by simpa using hb) (fun i _ => .inl rfl)]; exact h) (fun _ _ h => h) (fun _ _ h => h)
    fun x _ _ ⟨tl, e, hb, h⟩ => by
      rw [e, cut_tl rfl (by
        intro y hy
        obtain ⟨p, hp, rfl⟩ := List.mem_map.mp hy
        exact hb p hp) (fun i _ => .inl rfl)]
      exact h)
end
/-! ### sources -/
section
variable {Q : List D → Mem → Prop} {E : Exn → Mem → Prop} {ρ : EnvD} {m : Mem} {a b : FE}
theorem w_iSeq (h : W (fun x m1 => (∃ xs, x = .tup xs ∧ Q xs m1) ∨ (∃ z, x = .str z ∧ z.length ≤ sizeLine ∧ Q (z.cps.toList.map fun c => .str ⟨#[c]⟩) m1) ∨ ∃ xs, lstK m1 x = some xs ∧ Q xs m1) E (a ρ m)) : W Q E (iSeq a ρ m) := w_bind (h.imp fun x m1 h => by
  rcases h with ⟨xs, e, h⟩ | ⟨z, e, e2, h⟩ | ⟨xs, e, h⟩
  · subst e; exact h
  · subst e; simp only [if_pos e2]; exact h
  · cases x <;> simp only [lstK] at e <;> first | (cases e; done) | (simp only [lstK]; first | (cases e; exact h) | (rw [e]; exact h)))
theorem w_iKy (h : W (fun x m1 => W Q E (keysI x m1)) E (a ρ m)) : W Q E (iKy a ρ m) := w_bind h
theorem w_iIt (h : W (fun x m1 => W Q E (itemsI x m1)) E (a ρ m)) : W Q E (iIt a ρ m) := w_bind h
theorem w_iVl (h : W (fun x m1 => W Q E (valsI x m1)) E (a ρ m)) : W Q E (iVl a ρ m) := w_bind h
theorem w_iZpA (h : W (fun x m1 => W (fun y m2 => W Q E (zipR x y m2)) E (b ρ m1)) E (a ρ m)) : W Q E (iZpA a b ρ m) := w_bind (h.imp fun _ _ h => w_bind h)
theorem w_iEnA (h : W (fun x m1 => (∃ xs, x = .tup xs ∧ Q (enumD 0 xs) m1) ∨ ∃ xs, lstK m1 x = some xs ∧ Q (enumD 0 xs) m1) E (a ρ m)) : W Q E (iEnA a ρ m) := w_bind (h.imp fun x m1 h => by
  rcases h with ⟨xs, e, h⟩ | ⟨xs, e, h⟩
  · subst e; exact h
  · cases x <;> simp only [lstK] at e <;> first | (cases e; done) | (simp only [lstK]; first | (cases e; exact h) | (rw [e]; exact h)))
theorem w_iEnV {i : Nat} {x : D} {xs : List D} (hρ : ρ[i]? = some (some x)) (h : x = .tup xs ∨ lstK m x = some xs) (q : Q (enumD 0 xs) m) : W Q E (iEnA (eVar i) ρ m) := w_iEnA (w_var hρ (h.elim (fun h => .inl ⟨xs, h, q⟩) fun h => .inr ⟨xs, h, q⟩))
theorem w_iRg1 (h : W (fun x m1 => ∃ j : Int, x = .int j ∧ (-(2 ^ 62) ≤ j ∧ j < 2 ^ 62 ∧ j.toNat ≤ sizeLine) ∧ Q ((List.range j.toNat).map fun i => D.int (0 + (i : Nat))) m1) E (a ρ m)) : W Q E (iRg1 a ρ m) := w_bind (h.imp fun x m1 ⟨j, e, e2, h⟩ => by subst e; simp only [if_pos e2]; exact h)
theorem w_iRg2 (h : W (fun x m1 => W (fun y m2 => ∃ i j : Int, x = .int i ∧ y = .int j ∧ ((-(2 ^ 62) ≤ i ∧ i < 2 ^ 62 ∧ -(2 ^ 62) ≤ j ∧ j < 2 ^ 62) ∧ (j - i).toNat ≤ sizeLine) ∧ Q ((List.range (j - i).toNat).map fun k => D.int (i + (k : Nat))) m2) E (b ρ m1)) E (a ρ m)) : W Q E (iRg2 a b ρ m) := w_bind (h.imp fun x m1 h => w_bind (h.imp fun y m2 ⟨i, j, e, e1, e2, h3⟩ => by subst e; subst e1; simp only [if_pos e2]; exact h3))
end
/-! ### comprehensions -/
section
variable {Q : D → Mem → Prop} {E : Exn → Mem → Prop} {ρ : EnvD} {m : Mem} {fi : FI} {fg : FG} {ft : FT} {fe : FE} {vs : List Nat} {mu : Bool}
theorem w_lcI (h : W (fun ds m1 => W (fun ys m2 => W Q E (finL mu ys m2)) NoX (lcGo fg ft fe (wipeD ρ vs) ds [] m1)) E (fi ρ m)) : W Q E (eLc mu vs fi fg ft fe ρ m) := w_bind (h.imp fun ds m1 h => by
  revert h
  cases lcGo fg ft fe (wipeD ρ vs) ds [] m1 with
  | ok ys m2 => exact fun h => h
  | exc x m2 => exact fun h => h.elim
  | bad => exact fun h => h)
theorem w_finF {ys : List D} (h : Q (.lst ys) m) : W Q E (finL false ys m) := h
theorem w_finM {ys : List D} (h : Q (.mref m.length) (m ++ [.lst ys])) : W Q E (finL true ys m) := h
/-- element by element, by what holds behind the first ones -/
theorem w_lcGo {T : Type} {inj : T → D} {Q : List D → Mem → Prop} {all : List T} (I : List T → List D → Mem → Prop) (hn : ∀ ys m, I all ys m → Q ys m)
    (hst : ∀ (pre : List T) (x : T) (post : List T) ys m, all = pre ++ x :: post → I pre ys m → W (fun ρ1 m1 => W (fun t m2 => if t = true then W (fun y m3 => I (pre ++ [x]) (ys ++ [y]) m3) NoX (fe ρ1 m2) else I (pre ++ [x]) ys m2) NoX (ft ρ1 m1)) NoX (fg (inj x) ρ m)) :
    ∀ (xs pre : List T) (ys : List D) (m : Mem), all = pre ++ xs → I pre ys m → W Q NoX (lcGo fg ft fe ρ (xs.map inj) ys m)
  | [], pre, ys, m, ha, hI => hn _ _ (by rw [ha, List.append_nil]; exact hI)
  | x :: xs, pre, ys, m, ha, hI => by
    have ha2 : all = (pre ++ [x]) ++ xs := by rw [ha]; simp
    obtain ⟨ρ1, m1, e1, h1⟩ := (hst pre x xs ys m ha hI).out
    obtain ⟨t, m2, e2, h2⟩ := h1.out
    show W Q NoX (lcGo fg ft fe ρ (inj x :: xs.map inj) ys m)
    unfold lcGo
    rw [e1]
    show W Q NoX (bindN (ft ρ1 m1) _)
    rw [e2]
    cases t with
    | true =>
      obtain ⟨y, m3, e3, h3⟩ := W.out (show W _ NoX (fe ρ1 m2) from h2)
      show W Q NoX (bindN (fe ρ1 m2) _)
      rw [e3]
      exact w_lcGo I hn hst xs _ _ _ ha2 h3
    | false => exact w_lcGo I hn hst xs _ _ _ ha2 h2
/-- nothing changes: a list of the values of those that pass -/
theorem w_lc {T : Type} {inj : T → D} {Q : List D → Mem → Prop} (xs : List T) (p : T → Bool) (f : T → D) (hst : ∀ x ∈ xs, W (fun ρ1 m1 => W (fun t m2 => t = p x ∧ if t = true then W (fun y m3 => y = f x ∧ m3 = m) NoX (fe ρ1 m2) else m2 = m) NoX (ft ρ1 m1)) NoX (fg (inj x) ρ m))
    (h : Q ((xs.filter p).map f) m) : W Q NoX (lcGo fg ft fe ρ (xs.map inj) [] m) := by
  refine w_lcGo (all := xs) (fun pre ys m' => m' = m ∧ ys = (pre.filter p).map f) (fun ys m' ⟨e1, e2⟩ => by rw [e1, e2]; exact h) (fun pre x post ys m' ha ⟨e1, e2⟩ => ?_) xs [] [] m rfl ⟨rfl, rfl⟩
  subst e1
  refine (hst x (by rw [ha]; simp)).imp fun ρ1 m1 h1 => h1.imp fun t m2 ⟨ht, h2⟩ => ?_
  cases t with
  | true =>
    refine W.imp (show W _ NoX (fe ρ1 m2) from h2) fun y m3 ⟨h3, h4⟩ => ⟨h4, ?_⟩
    rw [e2, h3, List.filter_append]
    simp [← ht]
  | false =>
    refine ⟨h2, ?_⟩
    rw [e2, List.filter_append]
    simp [← ht]
theorem w_lcM {T : Type} {inj : T → D} {Q : List D → Mem → Prop} (xs : List T) (f : T → D) (hst : ∀ x ∈ xs, W (fun ρ1 m1 => W (fun y m3 => y = f x ∧ m3 = m) NoX (fe ρ1 m1)) NoX (fg (inj x) ρ m)) (h : Q (xs.map f) m) : W Q NoX (lcGo fg tY fe ρ (xs.map inj) [] m) := by
  refine w_lc xs (fun _ => true) f (fun x hx => (hst x hx).imp fun ρ1 m1 h1 => ?_) ?_
  · show true = true ∧ W _ NoX (fe ρ1 m1)
    exact ⟨rfl, h1⟩
  · have e2 : xs.filter (fun _ => true) = xs := List.filter_eq_self.mpr fun _ _ => rfl
    rw [e2]
    exact h
end
end DM
end
section
set_option maxRecDepth 100000
set_option maxHeartbeats 2000000
/-! The data layer, part 42: raise of an error without arguments. -/
namespace DL
open PySem L2
def sRaise0 (c : Str) : FS := fun ρ m => .exc ⟨c, []⟩ ρ m
end DL
end
section
set_option maxRecDepth 100000
set_option maxHeartbeats 4000000
namespace Cm
open PySem L2 DL
noncomputable def b__law_start : FS :=
  sRt (eLstM (aCons (eCB hListM (aCons (eVar 0) (aNil))) (aCons (eC (.int 0)) (aCons (eC (.int 0)) (aCons (eC (.int 11)) (aNil))))))
noncomputable def F__law_start : HL := runF 1 (b__law_start)
noncomputable def b__law_draw : FS :=
  sSeq (sAsg (eOp hAdd (eOp hIx (eVar 0) (eC (.int 2))) (eC (.int 1))) (gIx (eVar 0) (eC (.int 2))))
  (sSeq (sIf (tAn (tTr (eOp (hEqP false) (eOp hIx (eVar 0) (eC (.int 1))) (eC (.int 0)))) (tTr (eOp (hEqP true) (eOp hIx (eVar 0) (eC (.int 0))) (eLst (aNil))))) (sSeq (sSet 3 (eM1 isLst hPop (eOp hIx (eVar 0) (eC (.int 0))) (eC (.int 0))))
  (sSeq (sAsg (eOp hMod (eCB hInt (aCons (eOp hAdd (eOp hAdd (eOp hMul (eOp hIx (eVar 0) (eC (.int 3))) (eC (.int 8191))) (eVar 3)) (eC (.int 3))) (aNil))) (eC (.int 2147483647))) (gIx (eVar 0) (eC (.int 3))))
  (sAsg (eIf (tTr (eOp hGe (eVar 3) (eOp hPow (eC (.int 10)) (eC (.int 18))))) (eVar 3) (eC (.int 0))) (gIx (eVar 0) (eC (.int 1)))))) (sNx))
  (sSeq (sIf (tTr (eOp hGt (eOp hIx (eVar 0) (eC (.int 1))) (eC (.int 0)))) (sSeq (sSet 4 (eOp hMod (eCB hInt (aCons (eOp hIx (eVar 0) (eC (.int 1))) (aNil))) (eVar 1)))
  (sSeq (sAsg (eOp hFdiv (eOp hIx (eVar 0) (eC (.int 1))) (eVar 1)) (gIx (eVar 0) (eC (.int 1))))
  (sRt (eVar 4)))) (sNx))
  (sSeq (sSet 2 (eOp hMod (eCB hInt (aCons (eOp hPow (eOp hAdd (eOp hAdd (eOp hIx (eVar 0) (eC (.int 3))) (eOp hMul (eC (.int 7919)) (eOp hIx (eVar 0) (eC (.int 2))))) (eC (.int 104729))) (eC (.int 5))) (aNil))) (eC (.int 2147483629))))
  (sRt (eOp hMod (eOp hMod (eCB hInt (aCons (eOp hPow (eOp hAdd (eOp hAdd (eOp hMul (eVar 2) (eC (.int 48271))) (eOp hMul (eC (.int 30011)) (eOp hIx (eVar 0) (eC (.int 2))))) (eC (.int 29))) (eC (.int 3))) (aNil))) (eC (.int 1000000007))) (eVar 1))))))
noncomputable def F__law_draw : HL := runF 5 (b__law_draw)
noncomputable def b__law_pick : FS :=
  sRt (eOp hIx (eVar 1) (eCall 2 F__law_draw [] (aCons (eVar 0) (aCons (eCB hLen (aCons (eVar 1) (aNil))) (aNil)))))
noncomputable def F__law_pick : HL := runF 2 (b__law_pick)
noncomputable def b__law_name : FS :=
  sSeq (sSet 1 (eOp hIx (eLst (aCons (eC (.int 1)) (aCons (eC (.int 1)) (aCons (eC (.int 2)) (aCons (eC (.int 3)) (aCons (eC (.int 5)) (aCons (eC (.int 8)) (aNil)))))))) (eCall 2 F__law_draw [] (aCons (eVar 0) (aCons (eC (.int 6)) (aNil))))))
  (sRt (eM1 isStr hJoin (eC (.str "")) (eLc false [2] (iRg1 (eVar 1)) (gN 2) (tY) (eCall 2 F__law_pick [] (aCons (eVar 0) (aCons (eC (.str "abcdefghijklmnopqrstuvwxyz")) (aNil)))))))
noncomputable def F__law_name : HL := runF 3 (b__law_name)
noncomputable def b__law_names : FS :=
  sSeq (sSet 2 (eLstM (aNil)))
  (sSeq (sFor (iRg1 (eVar 1)) (gN 3) (sSeq (sSet 4 (eOp hAdd (eLst (aCons (eCall 1 F__law_name [] (aCons (eVar 0) (aNil))) (aNil))) (eLc false [5] (iSeq (eC (.str "abcdefghijklmnop"))) (gN 5) (tY) (eOp hAdd (eVar 5) (eC (.str "jq"))))))
  (sEx (eApp (eVar 2) (eOp hIx (eLc false [6] (iSeq (eVar 4)) (gN 6) (tTr (eOp (hIn true) (eVar 6) (eVar 2))) (eVar 6)) (eC (.int 0)))))))
  (sRt (eFrz (eVar 2))))
noncomputable def F__law_names : HL := runF 7 (b__law_names)
noncomputable def b__law_spare : FS :=
  sRt (eOp hIx (eLc false [1] (iSeq (eLc false [2] (iSeq (eC (.str "zyxwvutsrqponmlkjihg"))) (gN 2) (tY) (eOp hAdd (eC (.str "z")) (eVar 2)))) (gN 1) (tTr (eOp (hIn true) (eVar 1) (eVar 0))) (eVar 1)) (eC (.int 0)))
noncomputable def F__law_spare : HL := runF 3 (b__law_spare)
noncomputable def b__law_same (own : List Str) (self_ : HL) : FS :=
  sSeq (sIf (tTr (eCB (hIsi own) (aCons (eVar 1) (aCons (eTup (aCons (eC (.ty "list")) (aCons (eC (.ty "tuple")) (aNil)))) (aNil))))) (sSeq (sIf (tOr' (tTr (eOp (hEqP true) (eCB (hIsi own) (aCons (eVar 0) (aCons (eC (.ty "list")) (aNil)))) (eCB (hIsi own) (aCons (eVar 1) (aCons (eC (.ty "list")) (aNil)))))) (tTr (eOp (hEqP true) (eCB (hIsi own) (aCons (eVar 0) (aCons (eC (.ty "tuple")) (aNil)))) (eCB (hIsi own) (aCons (eVar 1) (aCons (eC (.ty "tuple")) (aNil))))))) (sRt (eC (.bl false))) (sNx))
  (sRt (eAn (eOp (hEqP false) (eCB hLen (aCons (eVar 0) (aNil))) (eCB hLen (aCons (eVar 1) (aNil)))) (eCB (hBls (·.all id)) (aCons (eLkO 0 (eLc false [2, 3] (iZpA (eVar 0) (eVar 1)) (gT 2 (gsCons (gN 2) (gsCons (gN 3) (gsNil)))) (tY) (eCall 2 self_ [] (aCons (eVar 2) (aCons (eVar 3) (aNil)))))) (aNil)))))) (sNx))
  (sSeq (sIf (tTr (eCB (hIsi own) (aCons (eVar 1) (aCons (eC (.ty "int")) (aNil))))) (sRt (eAn (eCB (hIsi own) (aCons (eVar 0) (aCons (eC (.ty "int")) (aNil)))) (eAn (eOp (hEqP false) (eCB (hIsi own) (aCons (eVar 0) (aCons (eC (.ty "bool")) (aNil)))) (eCB (hIsi own) (aCons (eVar 1) (aCons (eC (.ty "bool")) (aNil))))) (eOp (hEqP false) (eVar 0) (eVar 1))))) (sNx))
  (sRt (eAn (eOp (hIsN false) (eCB (hIsi own) (aCons (eVar 0) (aCons (eTup (aCons (eC (.ty "int")) (aCons (eC (.ty "list")) (aCons (eC (.ty "tuple")) (aNil))))) (aNil)))) (eC (.bl false))) (eOp (hEqP false) (eVar 0) (eVar 1)))))
noncomputable def F__law_same (own : List Str) : Nat → HL
  | 0 => fun _ _ => .bad
  | n + 1 => runF 4 (b__law_same own (F__law_same own n))
noncomputable def b__law_b_rows (self_ : HL) : FS :=
  sSeq (sSet 2 (eLstM (aNil)))
  (sSeq (sFor (iSeq (eIf (tTr (eOp hGt (eVar 0) (eC (.int 0)))) (eCall 2 self_ [] (aCons (eOp hSub (eVar 0) (eC (.int 1))) (aCons (eVar 1) (aNil)))) (eLst (aNil)))) (gN 3) (sEx (eM1 isLst hExt (eVar 2) (eLc false [4] (iRg2 (eIf (tTr (eOp (hEqP true) (eVar 3) (eTup (aNil)))) (eOp hAdd (eOp hIx (eVar 3) (eUn hNeg (eC (.int 1)))) (eC (.int 1))) (eC (.int 0))) (eVar 1)) (gN 4) (tY) (eOp hAdd (eVar 3) (eTup (aCons (eVar 4) (aNil))))))))
  (sRt (eFrz (eIf (tTr (eOp hGt (eVar 0) (eC (.int 0)))) (eVar 2) (eLst (aCons (eTup (aNil)) (aNil)))))))
noncomputable def F__law_b_rows : Nat → HL
  | 0 => fun _ _ => .bad
  | n + 1 => runF 5 (b__law_b_rows (F__law_b_rows n))
noncomputable def b__law_b_lots : FS :=
  sSeq (sSet 2 (eLstM (aNil)))
  (sSeq (sFor (iRg2 (eC (.int 1)) (eOp hAdd (eCB hLen (aCons (eVar 0) (aNil))) (eC (.int 1)))) (gN 3) (sIf (tTr (eVar 1)) (sEx (eM1 isLst hExt (eVar 2) (eLc false [4] (iRg1 (eOp hAdd (eOp hSub (eCB hLen (aCons (eVar 0) (aNil))) (eVar 3)) (eC (.int 1)))) (gN 4) (tY) (eCB hTuple (aCons (eSl false (eVar 0) (oSo (eVar 4)) (oSo (eOp hAdd (eVar 4) (eVar 3)))) (aNil)))))) (sEx (eM1 isLst hExt (eVar 2) (eLc false [5] (iSeq (eCall 2 (F__law_b_rows 6) [] (aCons (eVar 3) (aCons (eCB hLen (aCons (eVar 0) (aNil))) (aNil))))) (gN 5) (tY) (eCB hTuple (aCons (eLc false [4] (iSeq (eVar 5)) (gN 4) (tY) (eOp hIx (eVar 0) (eVar 4))) (aNil))))))))
  (sRt (eFrz (eVar 2))))
noncomputable def F__law_b_lots : HL := runF 6 (b__law_b_lots)
noncomputable def b_is_list (own : List Str) : FS :=
  sRt (eCB (hIsi own) (aCons (eVar 0) (aCons (eTup (aCons (eC (.ty "list")) (aCons (eC (.ty "tuple")) (aNil)))) (aNil))))
noncomputable def F_is_list (own : List Str) : HL := runF 1 (b_is_list own)
noncomputable def b_is_name (own : List Str) : FS :=
  sRt (eAn (eCB (hIsi own) (aCons (eVar 0) (aCons (eC (.ty "str")) (aNil)))) (eAn (eCh hLe hLe (eC (.int 1)) (eCB hLen (aCons (eVar 0) (aNil))) (eC (.int 8))) (eCB (hBls (·.all id)) (aCons (eLc false [1] (iSeq (eVar 0)) (gN 1) (tY) (eOp (hInS false) (eVar 1) (eC (.str "abcdefghijklmnopqrstuvwxyz")))) (aNil)))))
noncomputable def F_is_name (own : List Str) : HL := runF 2 (b_is_name own)
noncomputable def b_Folders___init__ (own : List Str) : FS :=
  sSeq (sIf (tOr' (tNo (tTr (eCall 1 (F_is_list own) [] (aCons (eVar 1) (aNil))))) (tTr (eOp (hEqP false) (eCB hLen (aCons (eVar 1) (aNil))) (eC (.int 0))))) (sRaise "BadFolders" "index" (aCons (eC (.int 0)) (aNil))) (sNx))
  (sSeq (sSet 3 (eLstM (aNil)))
  (sSeq (sLkO 1 (sFor (iEnA (eVar 1)) (gT 2 (gsCons (gN 4) (gsCons (gN 5) (gsNil)))) (sSeq (sIf (tOr' (tNo (tTr (eCall 1 (F_is_name own) [] (aCons (eVar 5) (aNil))))) (tOr' (tTr (eOp (hIn false) (eVar 5) (eVar 3))) (tTr (eOp hGe (eVar 4) (eIf (tTr (eVar 2)) (eC (.int 12)) (eC (.int 5))))))) (sRaise "BadFolders" "index" (aCons (eVar 4) (aNil))) (sNx))
  (sEx (eApp (eVar 3) (eVar 5))))))
  (sSeq (sFl ["Folders"] "names" (eVar 0) (eCB hTuple (aCons (eVar 3) (aNil))))
  (sFl ["Folders"] "chain" (eVar 0) (eVar 2)))))
noncomputable def F_Folders___init__ (own : List Str) : HL := runF 6 (b_Folders___init__ own)
noncomputable def b_Folders___len__ : FS :=
  sRt (eCB hLen (aCons (eAt ["Folders"] "names" (eVar 0)) (aNil)))
noncomputable def F_Folders___len__ : HL := runF 1 (b_Folders___len__)
noncomputable def b_Folders___contains__ (own : List Str) : FS :=
  sRt (eAn (eCB (hIsi own) (aCons (eVar 1) (aCons (eC (.ty "str")) (aNil)))) (eOp (hIn false) (eVar 1) (eAt ["Folders"] "names" (eVar 0))))
noncomputable def F_Folders___contains__ (own : List Str) : HL := runF 2 (b_Folders___contains__ own)
noncomputable def b_Folders___eq__ (own : List Str) : FS :=
  sRt (eAn (eCB (hIsi own) (aCons (eVar 1) (aCons (eC (.glo "Folders")) (aNil)))) (eAn (eOp (hEqP false) (eAt ["Folders"] "names" (eVar 0)) (eAt ["Folders"] "names" (eVar 1))) (eOp (hEqP false) (eAt ["Folders"] "chain" (eVar 0)) (eAt ["Folders"] "chain" (eVar 1)))))
noncomputable def F_Folders___eq__ (own : List Str) : HL := runF 2 (b_Folders___eq__ own)
noncomputable def b_chosen_places : FS :=
  sSeq (sSet 2 (eLst (aCons (eTup (aNil)) (aNil))))
  (sSeq (sFor (iRg1 (eVar 0)) (gN 3) (sSet 2 (eLc2 false [4, 5] [5] (iSeq (eVar 2)) (gN 4) (tY) (iRg2 (eIf (tTr (eOp (hEqP true) (eVar 4) (eTup (aNil)))) (eOp hAdd (eOp hIx (eVar 4) (eUn hNeg (eC (.int 1)))) (eC (.int 1))) (eC (.int 0))) (eVar 1)) (gN 5) (tY) (eTup (aStar (eVar 4) (aCons (eVar 5) (aNil)))))))
  (sRt (eVar 2)))
noncomputable def F_chosen_places : HL := runF 6 (b_chosen_places)
noncomputable def b_Folders_lots : FS :=
  sSeq (sSet 1 (eCB hLen (aCons (eAt ["Folders"] "names" (eVar 0)) (aNil))))
  (sSeq (sIf (tTr (eAt ["Folders"] "chain" (eVar 0))) (sRt (eLc2 true [3, 5] [5] (iRg2 (eC (.int 1)) (eOp hAdd (eVar 1) (eC (.int 1)))) (gN 3) (tY) (iRg1 (eOp hAdd (eOp hSub (eVar 1) (eVar 3)) (eC (.int 1)))) (gN 5) (tY) (eSl false (eAt ["Folders"] "names" (eVar 0)) (oSo (eVar 5)) (oSo (eOp hAdd (eVar 5) (eVar 3)))))) (sNx))
  (sSeq (sSet 2 (eLc2 false [3, 4] [4] (iRg2 (eC (.int 1)) (eOp hAdd (eVar 1) (eC (.int 1)))) (gN 3) (tY) (iSeq (eCall 2 F_chosen_places [] (aCons (eVar 3) (aCons (eVar 1) (aNil))))) (gN 4) (tY) (eVar 4)))
  (sRt (eLc true [4] (iSeq (eVar 2)) (gN 4) (tY) (eCB hTuple (aCons (eLc false [5] (iSeq (eVar 4)) (gN 5) (tY) (eOp hIx (eAt ["Folders"] "names" (eVar 0)) (eVar 5))) (aNil)))))))
noncomputable def F_Folders_lots : HL := runF 6 (b_Folders_lots)
end Cm
end
section
set_option maxRecDepth 100000
set_option maxHeartbeats 4000000
namespace Cm
open PySem L2 DL
noncomputable def b__law_mixed : FS :=
  sSeq (sSet 2 (eCB hListM (aCons (eVar 1) (aNil))))
  (sRt (eLc false [3] (iRg1 (eCB hLen (aCons (eVar 2) (aNil)))) (gN 3) (tY) (eM1 isLst hPop (eVar 2) (eCall 2 F__law_draw [] (aCons (eVar 0) (aCons (eCB hLen (aCons (eVar 2) (aNil))) (aNil)))))))
noncomputable def F__law_mixed : HL := runF 4 (b__law_mixed)
noncomputable def b__law_q_counted : FS :=
  sSeq (sIf (tTr (eOp (hEqP false) (eVar 0) (eC (.str "refers")))) (sRt (eLc false [3] (iSeq (eVar 2)) (gN 3) (tY) (eCB hInt (aCons (eCB (hBls (·.any id)) (aCons (eLc false [4] (iSeq (eVar 3)) (gN 4) (tY) (eOp (hIn false) (eVar 4) (eVar 1))) (aNil))) (aNil))))) (sNx))
  (sSeq (sIf (tTr (eOp (hEqP false) (eVar 0) (eC (.str "freed")))) (sRt (eLc false [3] (iSeq (eVar 2)) (gN 3) (tY) (eCB hInt (aCons (eCB (hBls (·.all id)) (aCons (eLc false [4] (iSeq (eVar 3)) (gN 4) (tY) (eOp (hIn false) (eVar 4) (eVar 1))) (aNil))) (aNil))))) (sNx))
  (sSeq (sIf (tTr (eOp (hEqP false) (eVar 0) (eC (.str "shared")))) (sRt (eLc false [3] (iSeq (eVar 2)) (gN 3) (tY) (eCB hInt (aCons (eCB (hBls (·.all id)) (aCons (eLc false [4] (iSeq (eVar 1)) (gN 4) (tY) (eOp (hIn false) (eVar 4) (eVar 3))) (aNil))) (aNil))))) (sNx))
  (sSeq (sIf (tTr (eOp (hEqP false) (eVar 0) (eC (.str "just")))) (sRt (eLc false [3] (iSeq (eVar 2)) (gN 3) (tY) (eCB hInt (aCons (eAn (eOp (hEqP false) (eCB hLen (aCons (eVar 3) (aNil))) (eCB hLen (aCons (eVar 1) (aNil)))) (eCB (hBls (·.all id)) (aCons (eLc false [4] (iSeq (eVar 1)) (gN 4) (tY) (eOp (hIn false) (eVar 4) (eVar 3))) (aNil)))) (aNil))))) (sNx))
  (sSeq (sIf (tTr (eOp (hEqP false) (eVar 0) (eC (.str "sent")))) (sRt (eLc false [3] (iSeq (eVar 2)) (gN 3) (tY) (eCB hInt (aCons (eAn (eOp (hIn false) (eOp hIx (eVar 1) (eC (.int 1))) (eVar 3)) (eOp (hIn true) (eOp hIx (eVar 1) (eC (.int 0))) (eVar 3))) (aNil))))) (sNx))
  (sRt (eLc false [3] (iSeq (eVar 2)) (gN 3) (tY) (eC (.int 1))))))))
noncomputable def F__law_q_counted : HL := runF 5 (b__law_q_counted)
noncomputable def b_Folders_chosen (own : List Str) : FS :=
  sSeq (sFor (iSeq (eVar 1)) (gN 2) (sIf (tTr (eOp (hInO true "Folders" (F_Folders___contains__ own)) (eVar 2) (eVar 0))) (sRaise "NoFolder" "name" (aCons (eVar 2) (aNil))) (sNx)))
  (sRt (eCB hTuple (aCons (eLc false [2] (iSeq (eAt ["Folders"] "names" (eVar 0))) (gN 2) (tTr (eOp (hIn false) (eVar 2) (eVar 1))) (eVar 2)) (aNil))))
noncomputable def F_Folders_chosen (own : List Str) : HL := runF 3 (b_Folders_chosen own)
noncomputable def b_Folders_lot_of (own : List Str) : FS :=
  sSeq (sIf (tOr' (tNo (tTr (eCall 1 (F_is_list own) [] (aCons (eVar 1) (aNil))))) (tTr (eOp (hEqP false) (eCB hLen (aCons (eVar 1) (aNil))) (eC (.int 0))))) (sRt (eC .non)) (sNx))
  (sSeq (sSet 2 (eCB hTuple (aCons (eLc false [3] (iSeq (eAt ["Folders"] "names" (eVar 0))) (gN 3) (tTr (eOp (hIn false) (eVar 3) (eVar 1))) (eVar 3)) (aNil))))
  (sSeq (sIf (tTr (eOp (hEqP true) (eCB hLen (aCons (eVar 2) (aNil))) (eCB hLen (aCons (eVar 1) (aNil))))) (sRt (eC .non)) (sNx))
  (sSeq (sIf (tAn (tTr (eAt ["Folders"] "chain" (eVar 0))) (tNo (tTr (eCB (hBls (·.any id)) (aCons (eLc false [4] (iRg1 (eCB hLen (aCons (eAt ["Folders"] "names" (eVar 0)) (aNil)))) (gN 4) (tY) (eOp (hEqP false) (eSl false (eAt ["Folders"] "names" (eVar 0)) (oSo (eVar 4)) (oSo (eOp hAdd (eVar 4) (eCB hLen (aCons (eVar 2) (aNil)))))) (eVar 2))) (aNil)))))) (sRt (eC .non)) (sNx))
  (sRt (eVar 2)))))
noncomputable def F_Folders_lot_of (own : List Str) : HL := runF 5 (b_Folders_lot_of own)
noncomputable def b_is_whole (own : List Str) : FS :=
  sRt (eAn (eCB (hIsi own) (aCons (eVar 0) (aCons (eC (.ty "int")) (aNil)))) (eNo (eCB (hIsi own) (aCons (eVar 0) (aCons (eC (.ty "bool")) (aNil))))))
noncomputable def F_is_whole (own : List Str) : HL := runF 1 (b_is_whole own)
noncomputable def b_row_of (own : List Str) : FS :=
  sSeq (sLkD 1 (sSet 2 (eLc false [6, 7] (iIt (eVar 1)) (gT 2 (gsCons (gN 6) (gsCons (gN 7) (gsNil)))) (tY) (eTup (aCons (eMeth "Folders" "lot_of" 2 (F_Folders_lot_of own) [] (eVar 0) (aCons (eVar 6) (aNil))) (aCons (eVar 6) (aCons (eVar 7) (aNil))))))))
  (sSeq (sFor (iEnA (eVar 2)) (gT 2 (gsCons (gN 4) (gsCons (gT 3 (gsCons (gN 5) (gsCons (gN 6) (gsCons (gN 7) (gsNil))))) (gsNil)))) (sSeq (sIf (tOr' (tTr (eOp (hIsN false) (eVar 5) (eC .non))) (tTr (eOp (hInD false) (eVar 5) (eLc false [8] (iSeq (eSl false (eVar 2) (oNo) (oSo (eVar 4)))) (gN 8) (tY) (eOp hIx (eVar 8) (eC (.int 0))))))) (sRaise "BadLot" "lot" (aCons (eVar 6) (aNil))) (sNx))
  (sIf (tNo (tTr (eCall 1 (F_is_whole own) [] (aCons (eVar 7) (aNil))))) (sRaise "BadNumber" "number" (aCons (eVar 7) (aNil))) (sNx))))
  (sSeq (sSet 3 (eCB (hDict false) (aCons (eLc false [5, 6, 7] (iSeq (eVar 2)) (gT 3 (gsCons (gN 5) (gsCons (gN 6) (gsCons (gN 7) (gsNil))))) (tY) (eTup (aCons (eVar 5) (aCons (eVar 7) (aNil))))) (aNil))))
  (sRt (eCB (hDict false) (aCons (eLc false [5] (iSeq (eFrz (eMeth "Folders" "lots" 1 F_Folders_lots [] (eVar 0) (aNil)))) (gN 5) (tY) (eTup (aCons (eVar 5) (aCons (eDGet2 (eVar 3) (eVar 5) (eC (.int 0))) (aNil))))) (aNil))))))
noncomputable def F_row_of (own : List Str) : HL := runF 9 (b_row_of own)
noncomputable def b_Question___init__ (own : List Str) : FS :=
  sSeq (sFl ["Question"] "folders" (eVar 0) (eVar 1))
  (sFl ["Question"] "row" (eVar 0) (eCall 2 (F_row_of own) [] (aCons (eVar 1) (aCons (eIf (tTr (eOp (hIsN false) (eVar 2) (eC .non))) (eD0T) (eVar 2)) (aNil)))))
noncomputable def F_Question___init__ (own : List Str) : HL := runF 3 (b_Question___init__ own)
noncomputable def b_counted (own : List Str) : FS :=
  sRt (eFrz (eMake "Question" 3 (F_Question___init__ own) [] (aCons (eVar 0) (aCons (eCB (hDict false) (aCons (eLc false [2] (iSeq (eVar 1)) (gN 2) (tY) (eTup (aCons (eVar 2) (aCons (eC (.int 1)) (aNil))))) (aNil))) (aNil)))))
noncomputable def F_counted (own : List Str) : HL := runF 3 (b_counted own)
noncomputable def b_refers (own : List Str) : FS :=
  sSeq (sSet 2 (eMeth "Folders" "chosen" 2 (F_Folders_chosen own) [] (eVar 0) (aCons (eVar 1) (aNil))))
  (sRt (eCall 2 (F_counted own) [] (aCons (eVar 0) (aCons (eLc false [3] (iSeq (eFrz (eMeth "Folders" "lots" 1 F_Folders_lots [] (eVar 0) (aNil)))) (gN 3) (tTr (eCB (hBls (·.any id)) (aCons (eLc false [4] (iSeq (eVar 3)) (gN 4) (tY) (eOp (hIn false) (eVar 4) (eVar 2))) (aNil)))) (eVar 3)) (aNil)))))
noncomputable def F_refers (own : List Str) : HL := runF 5 (b_refers own)
noncomputable def b_freed (own : List Str) : FS :=
  sSeq (sSet 2 (eMeth "Folders" "chosen" 2 (F_Folders_chosen own) [] (eVar 0) (aCons (eVar 1) (aNil))))
  (sRt (eCall 2 (F_counted own) [] (aCons (eVar 0) (aCons (eLc false [3] (iSeq (eFrz (eMeth "Folders" "lots" 1 F_Folders_lots [] (eVar 0) (aNil)))) (gN 3) (tTr (eCB (hBls (·.all id)) (aCons (eLc false [4] (iSeq (eVar 3)) (gN 4) (tY) (eOp (hIn false) (eVar 4) (eVar 2))) (aNil)))) (eVar 3)) (aNil)))))
noncomputable def F_freed (own : List Str) : HL := runF 5 (b_freed own)
noncomputable def b_shared (own : List Str) : FS :=
  sSeq (sSet 2 (eMeth "Folders" "chosen" 2 (F_Folders_chosen own) [] (eVar 0) (aCons (eVar 1) (aNil))))
  (sRt (eCall 2 (F_counted own) [] (aCons (eVar 0) (aCons (eLc false [3] (iSeq (eFrz (eMeth "Folders" "lots" 1 F_Folders_lots [] (eVar 0) (aNil)))) (gN 3) (tTr (eCB (hBls (·.all id)) (aCons (eLc false [4] (iSeq (eVar 2)) (gN 4) (tY) (eOp (hIn false) (eVar 4) (eVar 3))) (aNil)))) (eVar 3)) (aNil)))))
noncomputable def F_shared (own : List Str) : HL := runF 5 (b_shared own)
noncomputable def b_just (own : List Str) : FS :=
  sSeq (sSet 2 (eMeth "Folders" "chosen" 2 (F_Folders_chosen own) [] (eVar 0) (aCons (eVar 1) (aNil))))
  (sRt (eCall 2 (F_counted own) [] (aCons (eVar 0) (aCons (eLc false [3] (iSeq (eFrz (eMeth "Folders" "lots" 1 F_Folders_lots [] (eVar 0) (aNil)))) (gN 3) (tTr (eOp (hEqP false) (eVar 3) (eVar 2))) (eVar 3)) (aNil)))))
noncomputable def F_just (own : List Str) : HL := runF 4 (b_just own)
noncomputable def b_sent (own : List Str) : FS :=
  sSeq (sEx (eMeth "Folders" "chosen" 2 (F_Folders_chosen own) [] (eVar 0) (aCons (eLst (aCons (eVar 1) (aCons (eVar 2) (aNil)))) (aNil))))
  (sRt (eCall 2 (F_counted own) [] (aCons (eVar 0) (aCons (eLc false [3] (iSeq (eFrz (eMeth "Folders" "lots" 1 F_Folders_lots [] (eVar 0) (aNil)))) (gN 3) (tAn (tTr (eOp (hIn false) (eVar 2) (eVar 3))) (tTr (eOp (hIn true) (eVar 1) (eVar 3)))) (eVar 3)) (aNil)))))
noncomputable def F_sent (own : List Str) : HL := runF 4 (b_sent own)
noncomputable def b_whole (own : List Str) : FS :=
  sRt (eCall 2 (F_counted own) [] (aCons (eVar 0) (aCons (eFrz (eMeth "Folders" "lots" 1 F_Folders_lots [] (eVar 0) (aNil))) (aNil))))
noncomputable def F_whole (own : List Str) : HL := runF 1 (b_whole own)
noncomputable def b__law_q_made (own : List Str) : FS :=
  sSeq (sIf (tTr (eOp (hEqP false) (eVar 0) (eC (.str "refers")))) (sRt (eCall 2 (F_refers own) [] (aCons (eVar 1) (aCons (eVar 2) (aNil))))) (sNx))
  (sSeq (sIf (tTr (eOp (hEqP false) (eVar 0) (eC (.str "freed")))) (sRt (eCall 2 (F_freed own) [] (aCons (eVar 1) (aCons (eVar 2) (aNil))))) (sNx))
  (sSeq (sIf (tTr (eOp (hEqP false) (eVar 0) (eC (.str "shared")))) (sRt (eCall 2 (F_shared own) [] (aCons (eVar 1) (aCons (eVar 2) (aNil))))) (sNx))
  (sSeq (sIf (tTr (eOp (hEqP false) (eVar 0) (eC (.str "just")))) (sRt (eCall 2 (F_just own) [] (aCons (eVar 1) (aCons (eVar 2) (aNil))))) (sNx))
  (sRt (eIf (tTr (eOp (hEqP false) (eVar 0) (eC (.str "sent")))) (eCall 3 (F_sent own) [] (aCons (eVar 1) (aCons (eOp hIx (eVar 2) (eC (.int 0))) (aCons (eOp hIx (eVar 2) (eC (.int 1))) (aNil))))) (eCall 1 (F_whole own) [] (aCons (eVar 1) (aNil))))))))
noncomputable def F__law_q_made (own : List Str) : HL := runF 3 (b__law_q_made own)
noncomputable def b__law_q_named (own : List Str) : FS :=
  sSeq (sSet 4 (eCall 2 F__law_pick [] (aCons (eVar 0) (aCons (eLst (aCons (eC (.str "refers")) (aCons (eC (.str "refers")) (aCons (eC (.str "freed")) (aCons (eC (.str "freed")) (aCons (eC (.str "shared")) (aCons (eC (.str "just")) (aCons (eC (.str "sent")) (aCons (eC (.str "whole")) (aNil)))))))))) (aNil)))))
  (sSeq (sSet 5 (eLc false [7] (iSeq (eVar 2)) (gN 7) (tTr (eOp (hEqP false) (eCall 2 F__law_draw [] (aCons (eVar 0) (aCons (eC (.int 2)) (aNil)))) (eC (.int 0)))) (eVar 7)))
  (sSeq (sIf (tAn (tTr (eOp (hIn false) (eVar 4) (eTup (aCons (eC (.str "refers")) (aCons (eC (.str "freed")) (aNil)))))) (tTr (eOp (hEqP false) (eVar 5) (eLst (aNil))))) (sSet 5 (eLst (aCons (eCall 2 F__law_pick [] (aCons (eVar 0) (aCons (eVar 2) (aNil)))) (aNil)))) (sNx))
  (sSeq (sIf (tTr (eOp (hEqP false) (eVar 4) (eC (.str "sent")))) (sSet 5 (eLst (aCons (eCall 2 F__law_pick [] (aCons (eVar 0) (aCons (eVar 2) (aNil)))) (aCons (eCall 2 F__law_pick [] (aCons (eVar 0) (aCons (eVar 2) (aNil)))) (aNil))))) (sNx))
  (sSeq (sSet 6 (eIf (tTr (eOp (hEqP false) (eVar 4) (eC (.str "sent")))) (eVar 5) (eCall 2 F__law_mixed [] (aCons (eVar 0) (aCons (eVar 5) (aNil))))))
  (sRt (eTup (aCons (eCall 3 (F__law_q_made own) [] (aCons (eVar 4) (aCons (eVar 1) (aCons (eVar 6) (aNil))))) (aCons (eCall 3 F__law_q_counted [] (aCons (eVar 4) (aCons (eVar 5) (aCons (eVar 3) (aNil))))) (aNil)))))))))
noncomputable def F__law_q_named (own : List Str) : HL := runF 8 (b__law_q_named own)
noncomputable def b_Question_check (own : List Str) : FS :=
  sIf (tTr (eOp (hNeO own "Folders" (F_Folders___eq__ own)) (eAt ["Question"] "folders" (eVar 0)) (eAt ["Question"] "folders" (eVar 1)))) (sRaise0 "UnlikeFolders") (sNx)
noncomputable def F_Question_check (own : List Str) : HL := runF 2 (b_Question_check own)
noncomputable def b_Question___add__ (own : List Str) : FS :=
  sSeq (sEx (eMeth "Question" "check" 2 (F_Question_check own) [] (eVar 0) (aCons (eVar 1) (aNil))))
  (sRt (eFrz (eMake "Question" 3 (F_Question___init__ own) [] (aCons (eAt ["Question"] "folders" (eVar 0)) (aCons (eCB (hDict false) (aCons (eLc false [2] (iKy (eAt ["Question"] "row" (eVar 0))) (gN 2) (tY) (eTup (aCons (eVar 2) (aCons (eOp hAdd (eOp hDGet (eAt ["Question"] "row" (eVar 0)) (eVar 2)) (eOp hDGet (eAt ["Question"] "row" (eVar 1)) (eVar 2))) (aNil))))) (aNil))) (aNil))))))
noncomputable def F_Question___add__ (own : List Str) : HL := runF 3 (b_Question___add__ own)
noncomputable def b_Question___sub__ (own : List Str) : FS :=
  sSeq (sEx (eMeth "Question" "check" 2 (F_Question_check own) [] (eVar 0) (aCons (eVar 1) (aNil))))
  (sRt (eFrz (eMake "Question" 3 (F_Question___init__ own) [] (aCons (eAt ["Question"] "folders" (eVar 0)) (aCons (eCB (hDict false) (aCons (eLc false [2] (iKy (eAt ["Question"] "row" (eVar 0))) (gN 2) (tY) (eTup (aCons (eVar 2) (aCons (eOp hSub (eOp hDGet (eAt ["Question"] "row" (eVar 0)) (eVar 2)) (eOp hDGet (eAt ["Question"] "row" (eVar 1)) (eVar 2))) (aNil))))) (aNil))) (aNil))))))
noncomputable def F_Question___sub__ (own : List Str) : HL := runF 3 (b_Question___sub__ own)
noncomputable def b__law_q_drawn (own : List Str) : FS :=
  sSeq (sSet 4 (eCall 2 F__law_draw [] (aCons (eVar 0) (aCons (eC (.int 6)) (aNil)))))
  (sSeq (sAsg (eCall 4 (F__law_q_named own) [] (aCons (eVar 0) (aCons (eVar 1) (aCons (eVar 2) (aCons (eVar 3) (aNil)))))) (gT 2 (gsCons (gN 6) (gsCons (gN 5) (gsNil)))))
  (sSeq (sIf (tTr (eOp hLt (eVar 4) (eC (.int 3)))) (sRt (eTup (aCons (eVar 6) (aCons (eVar 5) (aNil))))) (sNx))
  (sSeq (sIf (tTr (eOp hLt (eVar 4) (eC (.int 5)))) (sSeq (sAsg (eCall 4 (F__law_q_named own) [] (aCons (eVar 0) (aCons (eVar 1) (aCons (eVar 2) (aCons (eVar 3) (aNil)))))) (gT 2 (gsCons (gN 7) (gsCons (gN 8) (gsNil)))))
  (sSeq (sIf (tTr (eOp (hEqP false) (eVar 4) (eC (.int 3)))) (sRt (eTup (aCons (eOp (hBin "Question" (F_Question___add__ own)) (eVar 6) (eVar 7)) (aCons (eLc false [10, 11] (iZpA (eVar 5) (eVar 8)) (gT 2 (gsCons (gN 10) (gsCons (gN 11) (gsNil)))) (tY) (eOp hAdd (eVar 10) (eVar 11))) (aNil))))) (sNx))
  (sRt (eTup (aCons (eOp (hBin "Question" (F_Question___sub__ own)) (eVar 6) (eVar 7)) (aCons (eLc false [10, 11] (iZpA (eVar 5) (eVar 8)) (gT 2 (gsCons (gN 10) (gsCons (gN 11) (gsNil)))) (tY) (eOp hSub (eVar 10) (eVar 11))) (aNil))))))) (sNx))
  (sSeq (sSet 5 (eLc false [9] (iSeq (eVar 3)) (gN 9) (tY) (eOp hSub (eCall 2 F__law_draw [] (aCons (eVar 0) (aCons (eC (.int 7)) (aNil)))) (eC (.int 3)))))
  (sRt (eTup (aCons (eFrz (eMake "Question" 3 (F_Question___init__ own) [] (aCons (eVar 1) (aCons (eCB (hDict false) (aCons (eLc false [9, 10] (iZpA (eVar 3) (eVar 5)) (gT 2 (gsCons (gN 9) (gsCons (gN 10) (gsNil)))) (tY) (eTup (aCons (eVar 9) (aCons (eVar 10) (aNil))))) (aNil))) (aNil))))) (aCons (eVar 5) (aNil)))))))))
noncomputable def F__law_q_drawn (own : List Str) : HL := runF 12 (b__law_q_drawn own)
noncomputable def b_Question_in_freed : FS :=
  sSeq (sSet 1 (eD0T))
  (sSeq (sFor (iSeq (eUn hRev (eCB (hListD false) (aCons (eAt ["Question"] "row" (eVar 0)) (aNil))))) (gN 2) (sSeq (sLkD 1 (sSet 3 (eLc false [4] (iKy (eVar 1)) (gN 4) (tTr (eCB (hBls (·.all id)) (aCons (eLc false [5] (iSeq (eVar 2)) (gN 5) (tY) (eOp (hIn false) (eVar 5) (eVar 4))) (aNil)))) (eOp hDGet (eVar 1) (eVar 4)))))
  (sAsg (eOp hSub (eOp hDGet (eAt ["Question"] "row" (eVar 0)) (eVar 2)) (eCB hSum (aCons (eVar 3) (aNil)))) (gDx (eVar 1) (eVar 2)))))
  (sRt (eCB (hDict true) (aCons (eLc false [2] (iKy (eAt ["Question"] "row" (eVar 0))) (gN 2) (tTr (eOp (hEqP true) (eOp hDGet (eVar 1) (eVar 2)) (eC (.int 0)))) (eTup (aCons (eVar 2) (aCons (eOp hDGet (eVar 1) (eVar 2)) (aNil))))) (aNil)))))
noncomputable def F_Question_in_freed : HL := runF 6 (b_Question_in_freed)
noncomputable def b_Question___mul__ (own : List Str) : FS :=
  sSeq (sIf (tNo (tTr (eCall 1 (F_is_whole own) [] (aCons (eVar 1) (aNil))))) (sRaise "BadNumber" "number" (aCons (eVar 1) (aNil))) (sNx))
  (sRt (eFrz (eMake "Question" 3 (F_Question___init__ own) [] (aCons (eAt ["Question"] "folders" (eVar 0)) (aCons (eCB (hDict false) (aCons (eLc false [2] (iKy (eAt ["Question"] "row" (eVar 0))) (gN 2) (tY) (eTup (aCons (eVar 2) (aCons (eOp hMul (eOp hDGet (eAt ["Question"] "row" (eVar 0)) (eVar 2)) (eVar 1)) (aNil))))) (aNil))) (aNil))))))
noncomputable def F_Question___mul__ (own : List Str) : HL := runF 3 (b_Question___mul__ own)
noncomputable def b_Question___rmul__ (own : List Str) : FS :=
  sRt (eOp (hBinI "Question" (F_Question___mul__ own)) (eVar 0) (eVar 1))
noncomputable def F_Question___rmul__ (own : List Str) : HL := runF 2 (b_Question___rmul__ own)
noncomputable def b__law_summed (own : List Str) : FS :=
  sSeq (sSet 3 (eFrz (eMake "Question" 3 (F_Question___init__ own) [.non] (aCons (eVar 0) (aNil)))))
  (sSeq (sFor (iSeq (eVar 1)) (gN 4) (sIf (tTr (eOp (hDIn false) (eVar 4) (eVar 2))) (sSet 3 (eOp (hBin "Question" (F_Question___add__ own)) (eVar 3) (eOp (hRBin "Question" (F_Question___rmul__ own)) (eOp hDGet (eVar 2) (eVar 4)) (eCall 2 (F_freed own) [] (aCons (eVar 0) (aCons (eVar 4) (aNil))))))) (sNx)))
  (sRt (eVar 3)))
noncomputable def F__law_summed (own : List Str) : HL := runF 5 (b__law_summed own)
noncomputable def b_Question___eq__ (own : List Str) : FS :=
  sRt (eAn (eCB (hIsi own) (aCons (eVar 1) (aCons (eC (.glo "Question")) (aNil)))) (eAn (eOp (hOwn own "Folders" (F_Folders___eq__ own)) (eAt ["Question"] "folders" (eVar 0)) (eAt ["Question"] "folders" (eVar 1))) (eOp (hEqT false) (eAt ["Question"] "row" (eVar 0)) (eAt ["Question"] "row" (eVar 1)))))
noncomputable def F_Question___eq__ (own : List Str) : HL := runF 2 (b_Question___eq__ own)
end Cm
end
section
set_option maxRecDepth 100000
set_option maxHeartbeats 4000000
/-! Plain mathematics, part 2: the law's stream of draws. -/
namespace DM
open PySem L2 DL
/-- the draws' memory: the cells that are left, the number that is used up, how many draws, the mixed number -/
abbrev strm (cs : List Int) (r c x : Int) (tl : Mem) : Mem := .lst (cs.map .int) :: .lst [.mref 0, .int r, .int c, .int x] :: tl
/-- after at most C draws -/
def St (C : Nat) (tl : Mem) (m : Mem) : Prop := ∃ cs r c x, m = strm cs r c x tl ∧ 0 ≤ r ∧ 0 ≤ c ∧ c ≤ C ∧ 0 ≤ x ∧ x < 2147483647
theorem St.mono {C C' : Nat} {tl m : Mem} (h : St C tl m) (hc : C ≤ C') : St C' tl m := by
  obtain ⟨cs, r, c, x, e, h1, h2, h3, h4⟩ := h
  exact ⟨cs, r, c, x, e, h1, h2, by omega, h4⟩
theorem cmulR {i j : Int} (h1 : -(2 ^ 64) < j) (h2 : j < 2 ^ 64) : CMul i j := .inr ⟨h1, h2⟩
theorem cmulL {i j : Int} (h1 : -(2 ^ 64) < i) (h2 : i < 2 ^ 64) : CMul i j := .inl ⟨h1, h2⟩
theorem log2_small {k : Int} (h : 0 < k) (h2 : k < 2 ^ 62) : k.natAbs.log2 < 9000 := by
  have h3 : k.natAbs < 2 ^ 62 := by omega
  have h4 : k.natAbs.log2 < 62 := (Nat.log2_lt (by omega)).mpr h3
  omega
/-- behind the choice of a cell -/
noncomputable def drawTl : FS := sSeq (sIf (tTr (eOp hGt (eOp hIx (eVar 0) (eC (.int 1))) (eC (.int 0)))) (sSeq (sSet 4 (eOp hMod (eCB hInt (aCons (eOp hIx (eVar 0) (eC (.int 1))) (aNil))) (eVar 1)))
  (sSeq (sAsg (eOp hFdiv (eOp hIx (eVar 0) (eC (.int 1))) (eVar 1)) (gIx (eVar 0) (eC (.int 1))))
  (sRt (eVar 4)))) (sNx))
  (sSeq (sSet 2 (eOp hMod (eCB hInt (aCons (eOp hPow (eOp hAdd (eOp hAdd (eOp hIx (eVar 0) (eC (.int 3))) (eOp hMul (eC (.int 7919)) (eOp hIx (eVar 0) (eC (.int 2))))) (eC (.int 104729))) (eC (.int 5))) (aNil))) (eC (.int 2147483629))))
  (sRt (eOp hMod (eOp hMod (eCB hInt (aCons (eOp hPow (eOp hAdd (eOp hAdd (eOp hMul (eVar 2) (eC (.int 48271))) (eOp hMul (eC (.int 30011)) (eOp hIx (eVar 0) (eC (.int 2))))) (eC (.int 29))) (eC (.int 3))) (aNil))) (eC (.int 1000000007))) (eVar 1))))
def drawA : FS := sAsg (eOp hAdd (eOp hIx (eVar 0) (eC (.int 2))) (eC (.int 1))) (gIx (eVar 0) (eC (.int 2)))
noncomputable def drawB : FS := sIf (tAn (tTr (eOp (hEqP false) (eOp hIx (eVar 0) (eC (.int 1))) (eC (.int 0)))) (tTr (eOp (hEqP true) (eOp hIx (eVar 0) (eC (.int 0))) (eLst (aNil))))) (sSeq (sSet 3 (eM1 isLst hPop (eOp hIx (eVar 0) (eC (.int 0))) (eC (.int 0))))
  (sSeq (sAsg (eOp hMod (eCB hInt (aCons (eOp hAdd (eOp hAdd (eOp hMul (eOp hIx (eVar 0) (eC (.int 3))) (eC (.int 8191))) (eVar 3)) (eC (.int 3))) (aNil))) (eC (.int 2147483647))) (gIx (eVar 0) (eC (.int 3))))
  (sAsg (eIf (tTr (eOp hGe (eVar 3) (eOp hPow (eC (.int 10)) (eC (.int 18))))) (eVar 3) (eC (.int 0))) (gIx (eVar 0) (eC (.int 1)))))) (sNx)
theorem draw_parts : Cm.b__law_draw = sSeq drawA (sSeq drawB drawTl) := rfl
theorem draw_tl (cs : List Int) (r c x k : Int) (tl : Mem) (o : Option D) (hr : 0 ≤ r) (hc : 0 ≤ c) (hc2 : c < 2 ^ 41) (hx : 0 ≤ x) (hx2 : x < 2147483647) (hk : 0 < k) (hk2 : k < 2 ^ 62) :
    ∃ d r', drawTl [some (.mref 1), some (.int k), none, o, none] (strm cs r c x tl) = .rt (.int d) (strm cs r' c x tl) ∧ 0 ≤ d ∧ d < k ∧ 0 ≤ r' := by
  unfold drawTl
  by_cases h : 0 < r
  · have e1 := log2_small hk hk2
    refine ⟨r % k, r / k, ?_, Int.emod_nonneg _ (by omega), Int.emod_lt_of_pos _ hk, Int.ediv_nonneg hr (by omega)⟩
    simp [hIx, atI, ixN, seqV, lstV, setR, h, h_mod, h_fdiv, hk, e1]
  · have p1 : CMul 7919 c := cmulL (by decide) (by decide)
    have q0 : 0 ≤ (x + 7919 * c + 104729) ^ 5 % 2147483629 := Int.emod_nonneg _ (by omega)
    have q1 : (x + 7919 * c + 104729) ^ 5 % 2147483629 < 2147483629 := Int.emod_lt_of_pos _ (by omega)
    generalize hq : (x + 7919 * c + 104729) ^ 5 % 2147483629 = y at q0 q1
    have p2 : CMul y 48271 := cmulR (by decide) (by decide)
    have p3 : CMul 30011 c := cmulL (by decide) (by decide)
    have w1 : (x + 7919 * c + 104729).natAbs < 18446744073709551616 := by omega
    have w2 : (y * 48271 + 30011 * c + 29).natAbs < 18446744073709551616 := by omega
    refine ⟨(y * 48271 + 30011 * c + 29) ^ 3 % 1000000007 % k, r, ?_, Int.emod_nonneg _ (by omega), Int.emod_lt_of_pos _ hk, hr⟩
    simp [hIx, atI, ixN, seqV, lstV, setR, h, h_mod, h_pow, h_mul, hk, p1, p2, p3, w1, w2, hq]
/-! ### == of plain data -/
theorem py_ints (m : Mem) : ∀ cs : List Int, toPyL m (cs.map .int) = some (cs.map .int)
  | [] => rfl
  | c :: cs => by simp [toPyL, toPy, py_ints m cs]
theorem lay_ints : ∀ cs : List Int, PyData.canLayAll0 (cs.map .int) = true ∧ PyData.depthAll (cs.map .int) = 0
  | [] => ⟨rfl, rfl⟩
  | c :: cs => by
    obtain ⟨h1, h2⟩ := lay_ints cs
    exact ⟨by simp [PyData.canLayAll0, PyData.canLay0, h1], by simp [PyData.depthAll, PyData.depth, h2]⟩
theorem shaped_ints (cs : List Int) : SeqAt.shaped (.list (cs.map .int)) = true := by
  obtain ⟨h1, h2⟩ := lay_ints cs
  simp [SeqAt.shaped, PyData.canLay0, PyData.depth, h1, h2]
theorem h_neNil {m : Mem} {i : Nat} {cs : List Int} (h : m[i]? = some (.lst (cs.map .int))) : hEqP true (.mref i) (.lst []) m = .ok (.bl (decide (cs ≠ []))) m := by
  have e : lstE m (.mref i) = some (cs.map .int) := by simp [lstE, h]
  have e2 : toPyM m (.mref i) = some (.list (cs.map .int)) := by simp [toPyM, e, py_ints]
  have e3 : toPyM m (.lst []) = some (.list []) := rfl
  have e4 := shaped_ints cs
  have e5 : SeqAt.shaped (.list []) = true := shaped_ints []
  simp only [hEqP, e2, e3, e4, e5, and_self, if_true]
  cases cs with
  | nil => rfl
  | cons c cs => rfl
theorem h_pop0 {m : Mem} {i : Nat} {d : D} {ds : List D} (h : m[i]? = some (.lst (d :: ds))) : hPop (.mref i) (.int 0) m = .ok d (m.set i (.lst ds)) := by
  simp [hPop, h, seqIndex?]
/-! ### a draw -/
theorem draw_ok {C : Nat} {tl m : Mem} (hs : St C tl m) (hC : C < 2 ^ 40) {k : Int} (hk : 0 < k) (hk2 : k < 2 ^ 62) :
    ∃ d m', Cm.F__law_draw [.mref 1, .int k] m = .ok (.int d) m' ∧ 0 ≤ d ∧ d < k ∧ St (C + 1) tl m' := by
  obtain ⟨cs, r, c, x, rfl, hr, hc, hc2, hx, hx2⟩ := hs
  have fin : ∀ (cs' : List Int) (r' x' : Int) (o : Option D), 0 ≤ r' → 0 ≤ x' → x' < 2147483647 → Cm.b__law_draw [some (.mref 1), some (.int k), none, none, none] (strm cs r c x tl) = drawTl [some (.mref 1), some (.int k), none, o, none] (strm cs' r' (c + 1) x' tl) →
      ∃ d m', Cm.F__law_draw [.mref 1, .int k] (strm cs r c x tl) = .ok (.int d) m' ∧ 0 ≤ d ∧ d < k ∧ St (C + 1) tl m' := fun cs' r' x' o h1 h2 h3 e => by
    obtain ⟨d, r2, e2, h4, h5, h6⟩ := draw_tl cs' r' (c + 1) x' k tl o h1 (by omega) (by omega) h2 h3 hk hk2
    refine ⟨d, strm cs' r2 (c + 1) x' tl, ?_, h4, h5, cs', r2, c + 1, x', rfl, h6, by omega, by omega, h2, h3⟩
    unfold Cm.F__law_draw
    rw [x_runF, show startD 5 [D.mref 1, D.int k] = [some (.mref 1), some (.int k), none, none, none] from rfl, e, e2, kRun_rt, cut_same]
    rfl
  by_cases h0 : r = 0
  · cases cs with
    | nil =>
      refine fin [] r x none hr hx hx2 ?_
      rw [draw_parts]
      simp [drawA, drawB, hIx, atI, ixN, seqV, lstV, setR, h0, h_neNil (cs := []) (i := 0)]
      rfl
    | cons c0 cs =>
      have p1 : CMul x 8191 := cmulR (by decide) (by decide)
      refine fin cs (if 1000000000000000000 ≤ c0 then c0 else 0) ((x * 8191 + c0 + 3) % 2147483647) (some (.int c0)) (by split <;> omega) (Int.emod_nonneg _ (by omega)) (Int.emod_lt_of_pos _ (by omega)) ?_
      rw [draw_parts]
      by_cases h1 : 1000000000000000000 ≤ c0
      · simp [drawA, drawB, hIx, atI, ixN, seqV, lstV, setR, h0, h_neNil (cs := c0 :: cs) (i := 0), isLst, lstE, h_pop0 (d := .int c0) (ds := cs.map .int) (i := 0), h_mul, p1, h_mod, h_pow, h1]
      · simp [drawA, drawB, hIx, atI, ixN, seqV, lstV, setR, h0, h_neNil (cs := c0 :: cs) (i := 0), isLst, lstE, h_pop0 (d := .int c0) (ds := cs.map .int) (i := 0), h_mul, p1, h_mod, h_pow, h1]
  · refine fin cs r x none hr hx hx2 ?_
    rw [draw_parts]
    simp [drawA, drawB, hIx, atI, ixN, seqV, lstV, setR, h0]
end DM
end
section
set_option maxRecDepth 100000
set_option maxHeartbeats 4000000
/-! Plain mathematics, part 3: comprehensions and loops in general; picks and names. -/
namespace DM
open PySem L2 DL
/-! ### comprehensions -/
theorem lc_pure {fg : FG} {ft : FT} {fe : FE} {ρ : EnvD} {m : Mem} (p : D → Bool) (f : D → D) : ∀ (ds acc : List D), (∀ x ∈ ds, ∃ ρx, fg x ρ m = .ok ρx m ∧ ft ρx m = .ok (p x) m ∧ (p x = true → fe ρx m = .ok (f x) m)) → lcGo fg ft fe ρ ds acc m = .ok (acc ++ (ds.filter p).map f) m
  | [], acc, _ => by simp [lcGo]
  | x :: xs, acc, h => by
    obtain ⟨ρx, h1, h2, h3⟩ := h x (by simp)
    have ih := fun acc' => lc_pure p f xs acc' fun y hy => h y (by simp [hy])
    cases hp : p x with
    | true => simp [lcGo, h1, h2, hp, h3 hp, ih, List.filter_cons, List.append_assoc]
    | false => simp [lcGo, h1, h2, hp, ih, List.filter_cons]
/-- without a test -/
theorem lc_map {fg : FG} {fe : FE} {ρ : EnvD} {m : Mem} (f : D → D) (ds : List D) (h : ∀ x ∈ ds, ∃ ρx, fg x ρ m = .ok ρx m ∧ fe ρx m = .ok (f x) m) : lcGo fg tY fe ρ ds [] m = .ok (ds.map f) m := by
  have e := lc_pure (fg := fg) (ft := tY) (fe := fe) (ρ := ρ) (m := m) (fun _ => true) f ds [] fun x hx => let ⟨ρx, h1, h2⟩ := h x hx; ⟨ρx, h1, rfl, fun _ => h2⟩
  have e2 : ds.filter (fun _ => true) = ds := List.filter_eq_self.mpr fun _ _ => rfl
  rw [e, e2, List.nil_append]
inductive All2 {A B : Type} (R : A → B → Prop) : List A → List B → Prop
  | nil : All2 R [] []
  | cons {a : A} {b : B} {as : List A} {bs : List B} : R a b → All2 R as bs → All2 R (a :: as) (b :: bs)
theorem All2.length {A B : Type} {R : A → B → Prop} : ∀ {as : List A} {bs : List B}, All2 R as bs → bs.length = as.length
  | _, _, .nil => rfl
  | _, _, .cons _ t => by simp [All2.length t]
theorem All2.right {A B : Type} {R : A → B → Prop} {P : B → Prop} (h : ∀ a b, R a b → P b) : ∀ {as : List A} {bs : List B}, All2 R as bs → ∀ b ∈ bs, P b
  | _, _, .nil, b, hb => by simp at hb
  | _, _, .cons r t, b, hb => by
    rcases List.mem_cons.mp hb with rfl | hb
    · exact h _ _ r
    · exact All2.right h t b hb
/-- with a memory that changes -/
theorem lc_st {fg : FG} {fe : FE} {ρ : EnvD} {I : Nat → Mem → Prop} {R : D → D → Prop} : ∀ (ds acc : List D) (n : Nat) (m : Mem), I n m → (∀ x ∈ ds, ∀ k m, n ≤ k → k < n + ds.length → I k m → ∃ ρx y m', fg x ρ m = .ok ρx m ∧ fe ρx m = .ok y m' ∧ R x y ∧ I (k + 1) m') →
    ∃ ys m', lcGo fg tY fe ρ ds acc m = .ok (acc ++ ys) m' ∧ All2 R ds ys ∧ I (n + ds.length) m'
  | [], acc, n, m, hI, _ => ⟨[], m, by simp [lcGo], .nil, hI⟩
  | x :: xs, acc, n, m, hI, h => by
    obtain ⟨ρx, y, m1, h1, h2, h3, h4⟩ := h x (by simp) n m (Nat.le_refl _) (by simp) hI
    obtain ⟨ys, m', e, ha, hI'⟩ := lc_st xs (acc ++ [y]) (n + 1) m1 h4 fun z hz k m2 k1 k2 => h z (by simp [hz]) k m2 (by omega) (by simp at k2 ⊢; omega)
    refine ⟨y :: ys, m', ?_, .cons h3 ha, ?_⟩
    · simp [lcGo, h1, h2, e]
    · have e2 : n + 1 + xs.length = n + (x :: xs).length := by simp; omega
      rw [← e2]
      exact hI'
/-- a for loop -/
theorem for_st {fg : FG} {fb : FS} {I : Nat → EnvD → Mem → Prop} : ∀ (ds : List D) (n : Nat) (ρ : EnvD) (m : Mem), I n ρ m → (∀ (i : Nat) x, ds[i]? = some x → ∀ ρ m, I (n + i) ρ m → ∃ ρx m1 ρ' m', fg x ρ m = .ok ρx m1 ∧ fb ρx m1 = .nx ρ' m' ∧ I (n + i + 1) ρ' m') →
    ∃ ρ' m', forGo fg fb ds ρ m = .nx ρ' m' ∧ I (n + ds.length) ρ' m'
  | [], n, ρ, m, hI, _ => ⟨ρ, m, rfl, hI⟩
  | x :: xs, n, ρ, m, hI, h => by
    obtain ⟨ρx, m1, ρ2, m2, h1, h2, h3⟩ := h 0 x rfl ρ m hI
    obtain ⟨ρ', m', e, hI'⟩ := for_st xs (n + 1) ρ2 m2 h3 fun i z hz ρ m hi => by
      obtain ⟨a, b, c, d, e1, e2, e3⟩ := h (i + 1) z (by simpa using hz) ρ m (by rw [show n + (i + 1) = n + 1 + i by omega]; exact hi)
      exact ⟨a, b, c, d, e1, e2, by rw [show n + 1 + i + 1 = n + (i + 1) + 1 by omega]; exact e3⟩
    refine ⟨ρ', m', ?_, ?_⟩
    · simp [forGo, h1, h2, e]
    · rw [show n + (x :: xs).length = n + 1 + xs.length by simp; omega]
      exact hI'
/-! ### picks -/
theorem atI_nat {α : Type} (xs : List α) (i : Int) (h0 : 0 ≤ i) (h1 : i < xs.length) : ∃ a, atI xs i = some a ∧ a ∈ xs := by
  have h : i.toNat < xs.length := by omega
  refine ⟨xs[i.toNat], ?_, List.getElem_mem h⟩
  simp [atI, ixN, h0, h1, h]
theorem startD2 (n : Nat) (a b : D) : startD (n + 2) [a, b] = some a :: some b :: List.replicate n none := by simp [startD]
theorem pick_lst {C : Nat} {tl m : Mem} (hs : St C tl m) (hC : C < 2 ^ 40) {xs : List D} (hx : xs ≠ []) (hx2 : xs.length < 2 ^ 40) :
    ∃ d m', Cm.F__law_pick [.mref 1, .lst xs] m = .ok d m' ∧ d ∈ xs ∧ St (C + 1) tl m' := by
  have hl : 0 < xs.length := List.length_pos_iff.mpr hx
  obtain ⟨k, m', e, h0, h1, hs'⟩ := draw_ok hs hC (k := xs.length) (by omega) (by omega)
  obtain ⟨d, ed, hd⟩ := atI_nat xs k h0 h1
  refine ⟨d, m', ?_, hd, hs'⟩
  have hlen : m'.length = m.length := by
    obtain ⟨_, _, _, _, rfl, _⟩ := hs
    obtain ⟨_, _, _, _, rfl, _⟩ := hs'
    simp
  unfold Cm.F__law_pick
  rw [x_runF, show startD 2 [D.mref 1, D.lst xs] = [some (.mref 1), some (.lst xs)] from rfl]
  unfold Cm.b__law_pick
  simp [hLen, seqV, lstV, e, hIx, ed, cut_same _ _ _ hlen]
theorem pick_str {C : Nat} {tl m : Mem} (hs : St C tl m) (hC : C < 2 ^ 40) {z : Str} (hx : 0 < z.length) (hx2 : z.length ≤ sizeLine) :
    ∃ c m', Cm.F__law_pick [.mref 1, .str z] m = .ok (.str ⟨#[c]⟩) m' ∧ c ∈ z.cps.toList ∧ St (C + 1) tl m' := by
  have hz : sizeLine < 2 ^ 40 := by decide
  have hl : z.length = z.cps.toList.length := by simp [Str.length]
  obtain ⟨k, m', e, h0, h1, hs'⟩ := draw_ok hs hC (k := z.length) (by omega) (by omega)
  obtain ⟨d, ed, hd⟩ := atI_nat z.cps.toList k h0 (by omega)
  refine ⟨d, m', ?_, hd, hs'⟩
  have hlen : m'.length = m.length := by
    obtain ⟨_, _, _, _, rfl, _⟩ := hs
    obtain ⟨_, _, _, _, rfl, _⟩ := hs'
    simp
  unfold Cm.F__law_pick
  rw [x_runF, show startD 2 [D.mref 1, D.str z] = [some (.mref 1), some (.str z)] from rfl]
  unfold Cm.b__law_pick
  simp [hLen, seqV, lstV, e, hIx, ed, hx2, cut_same _ _ _ hlen]
end DM
end
section
set_option maxRecDepth 100000
set_option maxHeartbeats 4000000
/-! Plain mathematics, part 4: names. -/
namespace DM
open PySem L2 DL
/-- one to eight small letters -/
def IsName (s : Str) : Prop := 1 ≤ s.length ∧ s.length ≤ 8 ∧ ∀ c ∈ s.cps.toList, 97 ≤ c ∧ c ≤ 122
theorem join_chars : ∀ cs : List Nat, Txt.join "" (cs.map fun c => (⟨#[c]⟩ : Str)) = ⟨cs.toArray⟩ := fun cs => by
  rw [TL.join_eq]
  have e : TL.tl (Str.join "" (cs.map fun c => (⟨#[c]⟩ : Str))) = cs := by
    rw [TL.tl_join]
    have e0 : TL.tl ("" : Str) = [] := by decide +kernel
    rw [e0]
    have go : ∀ cs : List Nat, TL.joinL [] ((cs.map fun c => (⟨#[c]⟩ : Str)).map TL.tl) = cs := by
      intro cs
      induction cs with
      | nil => rfl
      | cons c cs ih =>
        cases cs with
        | nil => rfl
        | cons d ds =>
          show [c] ++ ([] ++ TL.joinL [] (((d :: ds).map fun c => (⟨#[c]⟩ : Str)).map TL.tl)) = c :: d :: ds
          rw [ih]
          rfl
    exact go cs
  have e2 : (Str.join "" (cs.map fun c => (⟨#[c]⟩ : Str))).cps.toList = cs := e
  cases h : Str.join "" (cs.map fun c => (⟨#[c]⟩ : Str)) with
  | mk a =>
    rw [h] at e2
    simp only at e2
    rw [← e2]
theorem strs_chars : ∀ cs : List Nat, strsV (cs.map fun c => D.str ⟨#[c]⟩) = some (cs.map fun c => (⟨#[c]⟩ : Str))
  | [] => rfl
  | c :: cs => by simp [strsV, strs_chars cs]
theorem sum_chars : ∀ cs : List Nat, ((cs.map fun c => (⟨#[c]⟩ : Str)).map (·.length)).sum = cs.length
  | [] => rfl
  | c :: cs => by
    have h := sum_chars cs
    have h1 : (⟨#[c]⟩ : Str).length = 1 := rfl
    rw [List.map_cons, List.map_cons, List.sum_cons, h, h1, List.length_cons]
    omega
theorem join_name {cs : List Nat} (h : cs.length ≤ 8) (m : Mem) : hJoin (.str "") (.lst (cs.map fun c => D.str ⟨#[c]⟩)) m = .ok (.str ⟨cs.toArray⟩) m := by
  have c2 : ((cs.map fun c => (⟨#[c]⟩ : Str)).map (·.length)).sum + (cs.map fun c => (⟨#[c]⟩ : Str)).length * ("" : Str).length ≤ 16777216 := by
    rw [sum_chars, show ("" : Str).length = 0 by decide +kernel, Nat.mul_zero]
    omega
  unfold hJoin
  simp only [seqV, lstV, strs_chars, join_chars]
  rw [if_pos c2]
theorem lets : ∀ c ∈ ("abcdefghijklmnopqrstuvwxyz" : Str).cps.toList, 97 ≤ c ∧ c ≤ 122 := by decide +kernel
theorem lets_len : ("abcdefghijklmnopqrstuvwxyz" : Str).length = 26 := by decide +kernel
theorem widths (k : Int) (h0 : 0 ≤ k) (h1 : k < 6) : ∃ w : Int, atI [D.int 1, D.int 1, D.int 2, D.int 3, D.int 5, D.int 8] k = some (.int w) ∧ 1 ≤ w ∧ w ≤ 8 := by
  have h : k = 0 ∨ k = 1 ∨ k = 2 ∨ k = 3 ∨ k = 4 ∨ k = 5 := by omega
  rcases h with rfl | rfl | rfl | rfl | rfl | rfl
  · exact ⟨1, rfl, by omega, by omega⟩
  · exact ⟨1, rfl, by omega, by omega⟩
  · exact ⟨2, rfl, by omega, by omega⟩
  · exact ⟨3, rfl, by omega, by omega⟩
  · exact ⟨5, rfl, by omega, by omega⟩
  · exact ⟨8, rfl, by omega, by omega⟩
theorem chars_of {R : D → D → Prop} (hR : ∀ x y, R x y → ∃ c : Nat, y = .str ⟨#[c]⟩ ∧ 97 ≤ c ∧ c ≤ 122) : ∀ {xs ys : List D}, All2 R xs ys → ∃ cs : List Nat, ys = cs.map (fun c => D.str ⟨#[c]⟩) ∧ cs.length = xs.length ∧ ∀ c ∈ cs, 97 ≤ c ∧ c ≤ 122
  | _, _, .nil => ⟨[], rfl, rfl, by simp⟩
  | _, _, .cons h t => by
    obtain ⟨cs, e, l, q⟩ := chars_of hR t
    obtain ⟨c, rfl, h1, h2⟩ := hR _ _ h
    refine ⟨c :: cs, by simp [e], by simp [l], fun d hd => ?_⟩
    rcases List.mem_cons.mp hd with rfl | hd
    · exact ⟨h1, h2⟩
    · exact q d hd
theorem St.len {C C' : Nat} {tl m m' : Mem} (h : St C tl m) (h' : St C' tl m') : m'.length = m.length := by
  obtain ⟨_, _, _, _, rfl, _⟩ := h
  obtain ⟨_, _, _, _, rfl, _⟩ := h'
  simp
theorem name_ok {C : Nat} {tl m : Mem} (hs : St C tl m) (hC : C + 10 < 2 ^ 40) :
    ∃ s m', Cm.F__law_name [.mref 1] m = .ok (.str s) m' ∧ IsName s ∧ St (C + 9) tl m' := by
  obtain ⟨k, m1, e, h0, h1, hs1⟩ := draw_ok hs (by omega) (k := 6) (by omega) (by omega)
  obtain ⟨w, ew, w1, w2⟩ := widths k h0 h1
  obtain ⟨ys, m2, e2, ha, hs2⟩ := lc_st (fg := gN 2) (fe := eCall 2 Cm.F__law_pick [] (aCons (eVar 0) (aCons (eC (.str "abcdefghijklmnopqrstuvwxyz")) (aNil)))) (ρ := [some (.mref 1), some (.int w), none]) (I := fun n m => St (C + 1 + n) tl m) (R := fun _ y => ∃ c : Nat, y = .str ⟨#[c]⟩ ∧ 97 ≤ c ∧ c ≤ 122)
    (rgD 0 w.toNat) [] 0 m1 hs1 (fun x hx j m hj hj2 hI => by
      simp at hj2
      obtain ⟨c, m', e', hc, hs'⟩ := pick_str hI (by omega) (z := "abcdefghijklmnopqrstuvwxyz") (by rw [lets_len]; omega) (by rw [lets_len]; decide)
      exact ⟨_, _, m', rfl, by simp [e'], ⟨c, rfl, lets c hc⟩, hs'⟩)
  obtain ⟨cs, rfl, hl, hc⟩ := chars_of (fun x y h => h) ha
  simp only [rgD_length, Nat.zero_add] at hl hs2
  have hw : w.toNat ≤ 8 := by omega
  have hw1 : 1 ≤ w.toNat := by omega
  have hs3 : St (C + 9) tl m2 := hs2.mono (by omega)
  refine ⟨⟨cs.toArray⟩, m2, ?_, ⟨by simp [Str.length, hl]; omega, by simp [Str.length, hl]; omega, by simpa using hc⟩, hs3⟩
  have b1 : ¬ sizeLine < 6 := by decide
  have c1 : -4611686018427387904 ≤ w ∧ w < 4611686018427387904 ∧ w.toNat ≤ sizeLine := ⟨by omega, by omega, Nat.le_trans hw (by decide)⟩
  unfold Cm.F__law_name
  rw [x_runF, show startD 3 [D.mref 1] = [some (.mref 1), none, none] from rfl]
  unfold Cm.b__law_name
  simp only [List.nil_append] at e2
  simp [show (6 : Nat) ≤ sizeLine by decide, e, hIx, seqV, lstV, ew, rg1_int (by omega : 0 ≤ w) (by omega : w ≤ 100), e2, isStr, join_name (by omega : cs.length ≤ 8), cut_same _ _ _ (hs.len hs3)]
end DM
end
section
set_option maxRecDepth 100000
set_option maxHeartbeats 4000000
/-! Plain mathematics, part 5: lists of names. -/
namespace DM
open PySem L2 DL
/-! ### the memory behind the stream -/
@[simp] theorem stm_get (cs : List Int) (r c x : Int) (tl tl2 : Mem) (o : MO) : (strm cs r c x (tl ++ o :: tl2))[tl.length + 2]? = some o := by simp
@[simp] theorem stm_set (cs : List Int) (r c x : Int) (tl tl2 : Mem) (o o' : MO) : (strm cs r c x (tl ++ o :: tl2)).set (tl.length + 2) o' = strm cs r c x (tl ++ o' :: tl2) := by simp
theorem St.get {C : Nat} {tl tl2 m : Mem} {o : MO} (h : St C (tl ++ o :: tl2) m) : m[tl.length + 2]? = some o := by
  obtain ⟨cs, r, c, x, rfl, _⟩ := h
  simp
theorem St.set {C : Nat} {tl tl2 m : Mem} {o : MO} (h : St C (tl ++ o :: tl2) m) (o' : MO) : St C (tl ++ o' :: tl2) (m.set (tl.length + 2) o') := by
  obtain ⟨cs, r, c, x, rfl, h1, h2, h3, h4, h5⟩ := h
  exact ⟨cs, r, c, x, by simp, h1, h2, h3, h4, h5⟩
theorem St.length {C : Nat} {tl m : Mem} (h : St C tl m) : m.length = tl.length + 2 := by
  obtain ⟨cs, r, c, x, rfl, _⟩ := h
  simp
theorem St.app {C : Nat} {tl m : Mem} (h : St C tl m) (o : Mem) : St C (tl ++ o) (m ++ o) := by
  obtain ⟨cs, r, c, x, rfl, h1, h2, h3, h4, h5⟩ := h
  exact ⟨cs, r, c, x, by simp, h1, h2, h3, h4, h5⟩
/-- what was made since is forgotten -/
theorem St.cut {C C' : Nat} {tl loc m m' : Mem} {ds : List D} (h : St C tl m) (h' : St C' (tl ++ loc) m') (hd : ∀ d ∈ ds, Bel (tl.length + 2) d) : ∃ m2, DL.cut m m' ds = m2 ∧ St C' tl m2 := by
  obtain ⟨cs, r, c, x, rfl, h1, h2, h3, h4, h5⟩ := h
  obtain ⟨cs', r', c', x', rfl, k1, k2, k3, k4, k5⟩ := h'
  refine ⟨strm cs' r' c' x' tl, ?_, cs', r', c', x', rfl, k1, k2, k3, k4, k5⟩
  have e : strm cs' r' c' x' (tl ++ loc) = strm cs' r' c' x' tl ++ loc := by simp
  rw [e]
  refine cut_two _ _ _ _ (by simp) (by simpa using hd) fun i hi => ?_
  match i with
  | 0 => exact .inr ⟨_, rfl, fun d hd => by
      obtain ⟨z, _, rfl⟩ := List.mem_map.mp hd
      exact .int z⟩
  | 1 => exact .inr ⟨_, rfl, fun d hd => by
      simp only [List.mem_cons, List.not_mem_nil, or_false] at hd
      rcases hd with rfl | rfl | rfl | rfl
      · exact .mref (by simp)
      · exact .int _
      · exact .int _
      · exact .int _⟩
  | i + 2 => exact .inl (by simp)
/-! ### texts -/
theorem seq_strs {m : Mem} {y : D} (ns : List Str) (a : Str) (hy : seqV m y = some (ns.map .str)) (neg : Bool) : hIn neg (.str a) y m = .ok (.bl (if neg then !decide (a ∈ ns) else decide (a ∈ ns))) m := by
  have h1 : (ns.map D.str).all flatD = true := by simp [flatD]
  have h2 : inV (toV (.str a)) ((ns.map D.str).map toV) = decide (a ∈ ns) := by
    simp only [inV, List.map_map, List.any_map]
    rw [Bool.eq_iff_iff]
    simp [toV, eqV]
  cases y <;> simp [seqV, lstV] at hy
  all_goals simp only [hIn, seqV, lstV, hy]
  all_goals first | (rw [if_pos ⟨rfl, h1⟩, h2]; done) | skip
/-! ### the spare names -/
def spareS : List Str := ("abcdefghijklmnop" : Str).cps.toList.map fun c => (⟨#[c]⟩ : Str) ++ ("jq" : Str)
instance (s : Str) : Decidable (IsName s) := by unfold IsName; infer_instance
theorem spare_len : spareS.length = 16 := by decide +kernel
theorem spare_nodup : spareS.Nodup := by decide +kernel
theorem spare_name : ∀ s ∈ spareS, IsName s := by decide +kernel
theorem len_le {α : Type} [DecidableEq α] : ∀ {l l' : List α}, l.Nodup → (∀ x ∈ l, x ∈ l') → l.length ≤ l'.length
  | [], _, _, _ => Nat.zero_le _
  | x :: l, l', hn, hs => by
    have hx : x ∈ l' := hs x (by simp)
    have h2 := len_le (l' := l'.erase x) (List.nodup_cons.mp hn).2 fun y hy => by
      have hne : y ≠ x := fun e => (List.nodup_cons.mp hn).1 (e ▸ hy)
      exact (List.mem_erase_of_ne hne).mpr (hs y (by simp [hy]))
    have h3 := List.length_erase_of_mem hx
    have h4 : 0 < l'.length := List.length_pos_of_mem hx
    simp
    omega
theorem spare_free {found : List Str} (h : found.length < 16) : ∃ s ∈ spareS, s ∉ found := by
  apply Classical.byContradiction
  intro hc
  have h2 := len_le (l' := found) spare_nodup fun x hx => Classical.byContradiction fun hx2 => hc ⟨x, hx, hx2⟩
  rw [spare_len] at h2
  omega
/-- the first of these that is not found yet -/
theorem first_free {found xs : List Str} (h : ∃ s ∈ xs, s ∉ found) : ∃ s r, (xs.filter fun s => !decide (s ∈ found)) = s :: r ∧ s ∈ xs ∧ s ∉ found := by
  obtain ⟨s, h1, h2⟩ := h
  have hm : s ∈ xs.filter fun s => !decide (s ∈ found) := List.mem_filter.mpr ⟨h1, by simpa using h2⟩
  cases e : xs.filter (fun s => !decide (s ∈ found)) with
  | nil => rw [e] at hm; cases hm
  | cons a r =>
    have h3 : a ∈ xs.filter fun s => !decide (s ∈ found) := by rw [e]; simp
    obtain ⟨h4, h5⟩ := List.mem_filter.mp h3
    exact ⟨a, r, rfl, h4, by simpa using h5⟩
/-- one turn's body -/
noncomputable def namesB : FS := sSeq (sSet 4 (eOp hAdd (eLst (aCons (eCall 1 Cm.F__law_name [] (aCons (eVar 0) (aNil))) (aNil))) (eLc false [5] (iSeq (eC (.str "abcdefghijklmnop"))) (gN 5) (tY) (eOp hAdd (eVar 5) (eC (.str "jq"))))))
  (sEx (eApp (eVar 2) (eOp hIx (eLc false [6] (iSeq (eVar 4)) (gN 6) (tTr (eOp (hIn true) (eVar 6) (eVar 2))) (eVar 6)) (eC (.int 0)))))
theorem names_parts : Cm.b__law_names = sSeq (sSet 2 (eLstM aNil)) (sSeq (sFor (iRg1 (eVar 1)) (gN 3) namesB) (sRt (eFrz (eVar 2)))) := rfl
theorem names_step {C : Nat} {tl m : Mem} {found : List Str} (hs : St C (tl ++ [.lst (found.map .str)]) m) (hC : C + 10 < 2 ^ 40) (hf : found.length < 16) (a b k : Option D) :
    ∃ s b' m', namesB [some (.mref 1), a, some (.mref (tl.length + 2)), k, b, none, none] m = .nx [some (.mref 1), a, some (.mref (tl.length + 2)), k, b', none, none] m' ∧ IsName s ∧ s ∉ found ∧ St (C + 9) (tl ++ [.lst ((found ++ [s]).map .str)]) m' := by
  obtain ⟨nm, m1, e1, hn, hs1⟩ := name_ok hs hC
  obtain ⟨s, r, e3, h1, h2⟩ := first_free (found := found) (xs := nm :: spareS) (let ⟨s, p, q⟩ := spare_free hf; ⟨s, by simp [p], q⟩)
  have hsz : (found.map D.str).length < sizeLine := by
    have : (16 : Nat) ≤ sizeLine := by decide
    simp; omega
  refine ⟨s, some (.lst ((nm :: spareS).map .str)), m1.set (tl.length + 2) (.lst ((found ++ [s]).map .str)), ?_, ?_, h2, hs1.set _⟩
  · have l1 : lcGo (gN 5) tY (eOp hAdd (eVar 5) (eC (.str "jq"))) [some (.mref 1), a, some (.mref (tl.length + 2)), k, b, none, none] (("abcdefghijklmnop" : Str).cps.toList.map fun c => D.str ⟨#[c]⟩) [] m1 = .ok (spareS.map .str) m1 := by
      rw [lc_map (fun d => match d with | .str s => .str (s ++ ("jq" : Str)) | d => d)]
      · unfold spareS
        rw [List.map_map, List.map_map]
        rfl
      · intro x hx
        obtain ⟨c, _, rfl⟩ := List.mem_map.mp hx
        refine ⟨_, rfl, ?_⟩
        have z : (⟨#[c]⟩ : Str).length + ("jq" : Str).length ≤ sizeLine := by
          rw [show ("jq" : Str).length = 2 by decide +kernel, show (⟨#[c]⟩ : Str).length = 1 from rfl]
          decide
        simp [z]
    have l2 : lcGo (gN 6) (tTr (eOp (hIn true) (eVar 6) (eVar 2))) (eVar 6) [some (.mref 1), a, some (.mref (tl.length + 2)), k, some (.lst ((nm :: spareS).map .str)), none, none] ((nm :: spareS).map .str) [] m1 = .ok ((s :: r).map .str) m1 := by
      rw [lc_pure (fun d => match d with | .str s => !decide (s ∈ found) | _ => false) id]
      · rw [List.map_id, List.nil_append, List.filter_map, ← e3]
        rfl
      · intro x hx
        obtain ⟨z, _, rfl⟩ := List.mem_map.mp hx
        refine ⟨_, rfl, ?_, fun _ => by simp⟩
        have e5 : seqV m1 (.mref (tl.length + 2)) = some (found.map .str) := by simp [seqV, lstV, hs1.get]
        simp [seq_strs found z e5]
    have z1 : (1 : Nat) ≤ sizeLine := by decide
    have z2 : ("abcdefghijklmnop" : Str).length ≤ sizeLine := by rw [show ("abcdefghijklmnop" : Str).length = 16 by decide +kernel]; decide
    have z3 : 1 + spareS.length ≤ sizeLine := by rw [spare_len]; decide
    have e6 : lstE m1 (.mref (tl.length + 2)) = some (found.map .str) := by simp [lstE, hs1.get]
    unfold namesB
    simp only [List.map_cons] at l2
    simp only [List.length_map] at hsz
    simp [e1, z1, z2, l1, z3, kAp1_ok _ _ _ _ e6, l2, hIx, seqV, lstV, atI, ixN, appR, hs1.get, hsz]
  · rcases List.mem_cons.mp h1 with rfl | h
    · exact hn
    · exact spare_name s h
theorem names_ok {C : Nat} {tl m : Mem} (hs : St C tl m) {n : Int} (h0 : 0 ≤ n) (h1 : n ≤ 15) (hC : C + 200 < 2 ^ 40) :
    ∃ (ns : List Str) (m' : Mem), Cm.F__law_names [.mref 1, .int n] m = .ok (.lst (ns.map .str)) m' ∧ (ns.length : Int) = n ∧ ns.Nodup ∧ (∀ s ∈ ns, IsName s) ∧ St (C + 9 * n.toNat) tl m' := by
  have hs0 := hs.app [.lst []]
  obtain ⟨ρ', m1, e1, found, f1, f2, f3, a, b, rfl, hs1⟩ := for_st (fg := gN 3) (fb := namesB)
    (I := fun i ρ m => ∃ found : List Str, found.length = i ∧ found.Nodup ∧ (∀ s ∈ found, IsName s) ∧ ∃ a b, ρ = [some (.mref 1), some (.int n), some (.mref (tl.length + 2)), a, b, none, none] ∧ St (C + 9 * i) (tl ++ [.lst (found.map .str)]) m)
    (rgD 0 n.toNat) 0 [some (.mref 1), some (.int n), some (.mref (tl.length + 2)), none, none, none, none] (m ++ [.lst []]) ⟨[], rfl, List.nodup_nil, by simp, none, none, rfl, hs0⟩ (fun i x hx ρ m hI => by
      obtain ⟨found, f1, f2, f3, a, b, rfl, hs⟩ := hI
      obtain ⟨_, hi⟩ := rgD_get hx
      simp only [Nat.zero_add] at f1 hs
      obtain ⟨s, b', m', e, k1, k2, k3⟩ := names_step hs (by omega) (by omega) (some (.int n)) b (some x)
      refine ⟨_, _, _, m', rfl, e, found ++ [s], by simp [f1], ?_, ?_, some x, b', rfl, ?_⟩
      · rw [List.nodup_append]
        refine ⟨f2, by simp, fun y hy z hz => ?_⟩
        simp at hz
        subst hz
        exact fun e => k2 (e ▸ hy)
      · intro y hy
        rcases List.mem_append.mp hy with hy | hy
        · exact f3 y hy
        · simp at hy; subst hy; exact k1
      · rw [show C + 9 * (0 + i + 1) = C + 9 * i + 9 by omega]
        exact k3)
  simp only [Nat.zero_add, rgD_length] at f1 hs1
  have hz : (0 : Nat) ≤ sizeLine := by decide
  have c1 : -4611686018427387904 ≤ n ∧ n < 4611686018427387904 ∧ n.toNat ≤ sizeLine := ⟨by omega, by omega, Nat.le_trans (by omega : n.toNat ≤ 16) (by decide)⟩
  have hl : m.length = tl.length + 2 := hs.length
  have hg : St (C + 9 * n.toNat) (tl ++ [.gone]) (m1.set (tl.length + 2) .gone) := hs1.set .gone
  have hb : ∀ d ∈ [D.lst (found.map .str)], Bel (tl.length + 2) d := fun d hd => by
    simp at hd
    subst hd
    refine .lst (belL_iff.mpr fun x hx => ?_)
    obtain ⟨s, _, rfl⟩ := List.mem_map.mp hx
    exact .str s
  obtain ⟨m2, e2, hs2⟩ := hs.cut hg hb
  refine ⟨found, m2, ?_, by omega, f2, f3, hs2⟩
  unfold Cm.F__law_names
  rw [x_runF, show startD 7 [D.mref 1, D.int n] = [some (.mref 1), some (.int n), none, none, none, none, none] from rfl, names_parts]
  simp [rg1_int h0 (by omega : n ≤ 100), hl, e1, frzR, hs1.get, cut_same, e2]
end DM
end
section
set_option maxRecDepth 100000
set_option maxHeartbeats 4000000
/-! Plain mathematics, part 6: isinstance, == of texts, the law's own sameness. -/
namespace DM
open PySem L2 DL
open PySem.PyData (strOk)
/-! ### isinstance of built-in types -/
def ans (n c : String) : Bool := decide (n = c) || (decide (n = "bool") && decide (c = "int"))
section
variable {own : List Str} {m : Mem} {x : D} {n c c1 c2 c3 : String}
theorem isi_ty (h : tagD own m x = some (.b n)) (hn : n ∈ bTys) (hc : c ∈ bTys) : hIsi own [x, .ty c] m = .ok (.bl (ans n c)) m := by
  simp only [hIsi, h, clsD, kit, if_pos (And.intro hn hc)]
  rfl
theorem isi_o (h : tagD own m x = some (.b n)) (hn : n ∈ bTys) {k : Str} (hk : k ∈ own) : hIsi own [x, .glo k] m = .ok (.bl false) m := by
  simp only [hIsi, h, clsD, kit, if_pos (And.intro hn hk)]
theorem isi_2 (h : tagD own m x = some (.b n)) (hn : n ∈ bTys) (h1 : c1 ∈ bTys) (h2 : c2 ∈ bTys) : hIsi own [x, .tup [.ty c1, .ty c2]] m = .ok (.bl (ans n c1 || ans n c2)) m := by
  have e1 : kit own (.b n) (.b c1) = some (ans n c1) := if_pos ⟨hn, h1⟩
  have e2 : kit own (.b n) (.b c2) = some (ans n c2) := if_pos ⟨hn, h2⟩
  simp only [hIsi, h, clsDs, clsD, kitL, e1, e2]
  cases ans n c1 <;> cases ans n c2 <;> rfl
theorem isi_3 (h : tagD own m x = some (.b n)) (hn : n ∈ bTys) (h1 : c1 ∈ bTys) (h2 : c2 ∈ bTys) (h3 : c3 ∈ bTys) : hIsi own [x, .tup [.ty c1, .ty c2, .ty c3]] m = .ok (.bl (ans n c1 || (ans n c2 || ans n c3))) m := by
  have e1 : kit own (.b n) (.b c1) = some (ans n c1) := if_pos ⟨hn, h1⟩
  have e2 : kit own (.b n) (.b c2) = some (ans n c2) := if_pos ⟨hn, h2⟩
  have e3 : kit own (.b n) (.b c3) = some (ans n c3) := if_pos ⟨hn, h3⟩
  simp only [hIsi, h, clsDs, clsD, kitL, e1, e2, e3]
  cases ans n c1 <;> cases ans n c2 <;> cases ans n c3 <;> rfl
end
theorem b_none : "NoneType" ∈ bTys := by decide
theorem b_bool : "bool" ∈ bTys := by decide
theorem b_int : "int" ∈ bTys := by decide
theorem b_str : "str" ∈ bTys := by decide
theorem b_list : "list" ∈ bTys := by decide
theorem b_tuple : "tuple" ∈ bTys := by decide
theorem b_dict : "dict" ∈ bTys := by decide
/-! ### == -/
theorem h_eqS (n : Bool) {a b : Str} (ha : strOk a = true) (hb : strOk b = true) (m : Mem) : hEqP n (.str a) (.str b) m = .ok (.bl (if n then !decide (a = b) else decide (a = b))) m := by
  have h1 : ∀ z : Str, strOk z = true → SeqAt.shaped (.str z) = true := fun z hz => by simp [SeqAt.shaped, PyData.canLay0, PyData.depth, hz]
  simp only [hEqP, toPyM, toPy, h1 a ha, h1 b hb, PyData.eqv, and_self, if_true]
  cases n <;> rfl
theorem IsName.ok {s : Str} (h : IsName s) : strOk s = true := by
  obtain ⟨_, _, h3⟩ := h
  unfold strOk
  rw [← Array.all_toList, List.all_eq_true]
  intro c hc
  have := h3 c hc
  simp
  omega
/-! ### the law's own sameness -/
def Same (own : List Str) (n : Nat) (d : D) : Prop := ∀ m, Cm.F__law_same own n [d, d] m = .ok (.bl true) m
theorem pairs_mem : ∀ {xs : List D} {p : D}, p ∈ pairsD xs xs → ∃ x ∈ xs, p = .tup [x, x]
  | [], p, h => by simp [pairsD] at h
  | x :: xs, p, h => by
    simp only [pairsD, List.mem_cons] at h
    rcases h with rfl | h
    · exact ⟨x, by simp, rfl⟩
    · obtain ⟨y, h1, h2⟩ := pairs_mem h
      exact ⟨y, by simp [h1], h2⟩
theorem bls_true : ∀ n : Nat, blsV (List.replicate n (.bl true)) = some (List.replicate n true)
  | 0 => rfl
  | n + 1 => by simp [List.replicate_succ, blsV, bls_true n]
section
variable {own : List Str} {n : Nat}
theorem same_go {xs : List D} (h : ∀ x ∈ xs, Same own n x) (m : Mem) (a b : Option D) : lcGo (gT 2 (gsCons (gN 2) (gsCons (gN 3) gsNil))) tY (eCall 2 (Cm.F__law_same own n) [] (aCons (eVar 2) (aCons (eVar 3) aNil))) [a, b, none, none] (pairsD xs xs) [] m = .ok (List.replicate xs.length (.bl true)) m := by
  rw [lc_map (fun _ => .bl true)]
  · rw [List.map_const', pairsD_length, Nat.min_self]
  · intro p hp
    obtain ⟨x, hx, rfl⟩ := pairs_mem hp
    exact ⟨[a, b, some x, some x], by simp, by simp [h x hx m]⟩
theorem same_int (i : Int) : Same own (n + 1) (.int i) := fun m => by
  unfold Cm.F__law_same
  rw [x_runF, show startD 4 [D.int i, D.int i] = [some (.int i), some (.int i), none, none] from rfl]
  unfold Cm.b__law_same
  have t : tagD own m (.int i) = some (.b "int") := rfl
  simp [isi_ty t b_int b_int, isi_ty t b_int b_bool, isi_2 t b_int b_list b_tuple, ans, cut_same, show (2 : Nat) ≤ sizeLine by decide]
theorem same_bl (i : Bool) : Same own (n + 1) (.bl i) := fun m => by
  unfold Cm.F__law_same
  rw [x_runF, show startD 4 [D.bl i, D.bl i] = [some (.bl i), some (.bl i), none, none] from rfl]
  unfold Cm.b__law_same
  have t : tagD own m (.bl i) = some (.b "bool") := rfl
  simp [isi_ty t b_bool b_int, isi_ty t b_bool b_bool, isi_2 t b_bool b_list b_tuple, ans, cut_same, show (2 : Nat) ≤ sizeLine by decide]
theorem same_str {s : Str} (hs : strOk s = true) : Same own (n + 1) (.str s) := fun m => by
  unfold Cm.F__law_same
  rw [x_runF, show startD 4 [D.str s, D.str s] = [some (.str s), some (.str s), none, none] from rfl]
  unfold Cm.b__law_same
  have t : tagD own m (.str s) = some (.b "str") := rfl
  simp [isi_ty t b_str b_int, isi_2 t b_str b_list b_tuple, isi_3 t b_str b_int b_list b_tuple, ans, cut_same, show (2 : Nat) ≤ sizeLine by decide, show (3 : Nat) ≤ sizeLine by decide, hIsN, h_eqS false hs hs]
theorem same_lst {xs : List D} (h : ∀ x ∈ xs, Same own n x) : Same own (n + 1) (.lst xs) := fun m => by
  unfold Cm.F__law_same
  rw [x_runF, show startD 4 [D.lst xs, D.lst xs] = [some (.lst xs), some (.lst xs), none, none] from rfl]
  unfold Cm.b__law_same
  have t : tagD own m (.lst xs) = some (.b "list") := rfl
  simp [isi_ty t b_list b_list, isi_ty t b_list b_tuple, isi_2 t b_list b_list b_tuple, ans, cut_same, show (2 : Nat) ≤ sizeLine by decide, hLen, seqV, lstV, eLkO, lkAt, same_go h, hBls, bls_true]
theorem same_tup {xs : List D} (h : ∀ x ∈ xs, Same own n x) : Same own (n + 1) (.tup xs) := fun m => by
  unfold Cm.F__law_same
  rw [x_runF, show startD 4 [D.tup xs, D.tup xs] = [some (.tup xs), some (.tup xs), none, none] from rfl]
  unfold Cm.b__law_same
  have t : tagD own m (.tup xs) = some (.b "tuple") := rfl
  simp [isi_ty t b_tuple b_list, isi_ty t b_tuple b_tuple, isi_2 t b_tuple b_list b_tuple, ans, cut_same, show (2 : Nat) ≤ sizeLine by decide, hLen, seqV, lstV, eLkO, lkAt, same_go h, hBls, bls_true]
/-- a mutable list beside a frozen one -/
theorem same_mref {xs : List D} (h : ∀ x ∈ xs, Same own n x) {m : Mem} {i : Nat} (hm : m[i]? = some (.lst xs)) : Cm.F__law_same own (n + 1) [.mref i, .lst xs] m = .ok (.bl true) m := by
  unfold Cm.F__law_same
  rw [x_runF, show startD 4 [D.mref i, D.lst xs] = [some (.mref i), some (.lst xs), none, none] from rfl]
  unfold Cm.b__law_same
  have t : tagD own m (.lst xs) = some (.b "list") := rfl
  have t2 : tagD own m (.mref i) = some (.b "list") := by simp [tagD, hm]
  have hi : i < m.length := (List.getElem?_eq_some_iff.mp hm).1
  have e1 : zipR (.mref i) (.lst xs) (m.set i (.lkL xs)) = .ok (pairsD xs xs) (m.set i (.lkL xs)) := by
    simp [zipR, lstK, hi]
  have e2 : m.set i (.lst xs) = m := by
    obtain ⟨_, e⟩ := List.getElem?_eq_some_iff.mp hm
    rw [← e]
    exact List.set_getElem_self _
  simp [isi_ty t b_list b_list, isi_ty t b_list b_tuple, isi_2 t b_list b_list b_tuple, isi_ty t2 b_list b_list, isi_ty t2 b_list b_tuple, ans, cut_same, show (2 : Nat) ≤ sizeLine by decide, hLen, seqV, lstV, eLkO, lkAt, same_go h, hBls, bls_true, hm, e1, unlk, e2]
end
end DM
end
section
set_option maxRecDepth 100000
set_option maxHeartbeats 4000000
/-! Plain mathematics, part 7: Folders. -/
namespace DM
open PySem L2 DL
open PySem.PyData (strOk)
variable {own : List Str}
/-! ### names -/
instance (s : Str) : Decidable (IsName s) := inferInstanceAs (Decidable (_ ∧ _ ∧ _))
theorem letters_mem (c : Nat) : decide (c ∈ ("abcdefghijklmnopqrstuvwxyz" : Str).cps.toList) = decide (97 ≤ c ∧ c ≤ 122) := by
  have e : ("abcdefghijklmnopqrstuvwxyz" : Str).cps.toList = List.range' 97 26 := by decide +kernel
  rw [e, decide_eq_decide, List.mem_range'_1]
  omega
theorem bls_map (bs : List Bool) : blsV (bs.map .bl) = some bs := by
  induction bs with
  | nil => rfl
  | cons b bs ih => simp [blsV, ih]
/-- is_name of any text -/
theorem is_name_str {s : Str} (hz : s.length ≤ sizeLine) (m : Mem) : Cm.F_is_name own [.str s] m = .ok (.bl (decide (IsName s))) m := by
  refine W.eq ?_
  unfold Cm.F_is_name
  refine w_runS ?_
  unfold Cm.b_is_name
  refine ws_rt (w_an (w_cb (w_cons (w_var rfl (w_cons (w_c (w_nil ?_)))))))
  refine w_eq (isi_ty (n := "str") rfl b_str b_str) ⟨_, rfl, d_T (by decide) (w_an (w_ch (w_c (w_cb (w_cons (w_var rfl (w_nil ?_)))))))⟩
  refine w_eq (if_pos hz) (w_eq (h_cmp _ _ _ _) ⟨_, rfl, d_dec (fun h1 => w_c (w_eq (h_cmp _ _ _ _) ⟨_, rfl, d_dec (fun h2 => ?_) (fun h2 => ?_)⟩)) (fun h1 => ⟨_, rfl, d_false ?_⟩)⟩)
  · refine w_cb (w_cons (w_lcI (w_iSeq (w_var rfl (.inr (.inl ⟨_, rfl, hz, ?_⟩))))))
    refine w_lcM (inj := fun c => .str ⟨#[c]⟩) s.cps.toList (fun c => .bl (decide (97 ≤ c ∧ c ≤ 122))) (fun c _ => w_gN (w_op (w_var rfl (w_c ?_)))) (w_finF (w_nil ?_))
    · refine w_eq (show hInS false (.str ⟨#[c]⟩) (.str "abcdefghijklmnopqrstuvwxyz") m = .ok (.bl (decide (97 ≤ c ∧ c ≤ 122))) m by rw [← letters_mem]; rfl) ⟨rfl, rfl⟩
    · refine w_eq (show hBls (·.all id) [.lst (s.cps.toList.map fun c => D.bl (decide (97 ≤ c ∧ c ≤ 122)))] m = .ok (.bl (s.cps.toList.all fun c => decide (97 ≤ c ∧ c ≤ 122))) m by
        have e : (s.cps.toList.map fun c => D.bl (decide (97 ≤ c ∧ c ≤ 122))) = (s.cps.toList.map fun c => decide (97 ≤ c ∧ c ≤ 122)).map .bl := by simp
        rw [e]
        simp [hBls, lstV, bls_map, -List.map_map]) ?_
      refine ⟨rfl, ?_, rfl⟩
      congr 1
      rw [Bool.eq_iff_iff, List.all_eq_true, decide_eq_true_eq]
      exact ⟨fun h => ⟨by omega, by omega, fun c hc => of_decide_eq_true (h c hc)⟩, fun h c hc => decide_eq_true (h.2.2 c hc)⟩
  · refine ⟨rfl, ?_, rfl⟩
    congr 1
    exact (decide_eq_false fun h => by have := h.2.1; omega).symm
  · refine ⟨rfl, ?_, rfl⟩
    congr 1
    exact (decide_eq_false fun h => by have := h.1; omega).symm
theorem is_name_ok {s : Str} (h : IsName s) (m : Mem) : Cm.F_is_name own [.str s] m = .ok (.bl true) m := by
  rw [is_name_str (Nat.le_trans h.2.1 (by decide)), decide_eq_true h]
/-- a list or tuple of these names -/
inductive NamesAre (m : Mem) (ns : List Str) : D → Prop
  | lst : NamesAre m ns (.lst (ns.map .str))
  | tup : NamesAre m ns (.tup (ns.map .str))
  | mref {i : Nat} : m[i]? = some (.lst (ns.map .str)) → NamesAre m ns (.mref i)
theorem is_list_ok {m : Mem} {ns : List Str} {d : D} (h : NamesAre m ns d) : Cm.F_is_list own [d] m = .ok (.bl true) m := by
  unfold Cm.F_is_list
  rw [x_runF, show startD 1 [d] = [some d] from rfl]
  unfold Cm.b_is_list
  have z : (2 : Nat) ≤ sizeLine := by decide
  cases h with
  | lst => simp [z, isi_2 (own := own) (m := m) (x := .lst (ns.map .str)) rfl b_list b_list b_tuple, ans, cut_same]
  | tup => simp [z, isi_2 (own := own) (m := m) (x := .tup (ns.map .str)) rfl b_tuple b_list b_tuple, ans, cut_same]
  | mref hm =>
    rename_i i
    have t : tagD own m (.mref i) = some (.b "list") := by simp [tagD, hm]
    simp [z, isi_2 t b_list b_list b_tuple, ans, cut_same]
theorem len_names {m : Mem} {ns : List Str} {d : D} (h : NamesAre m ns d) : hLen [d] m = .ok (.int ns.length) m := by
  cases h with
  | lst => simp [hLen, seqV, lstV]
  | tup => simp [hLen, seqV]
  | mref hm => simp [hLen, seqV, lstV, hm]
/-- as they are kept -/
def House (ns : List Str) (ch : Bool) : D := .ins "Folders" [("names", .tup (ns.map .str)), ("chain", .bl ch)]
structure GoodNames (ns : List Str) (ch : Bool) : Prop where
  ne : ns ≠ []
  nd : ns.Nodup
  nm : ∀ s ∈ ns, IsName s
  le : ns.length ≤ if ch then 12 else 5
/-- one turn of the loop -/
noncomputable def initB (own : List Str) : FS := sSeq (sIf (tOr' (tNo (tTr (eCall 1 (Cm.F_is_name own) [] (aCons (eVar 5) (aNil))))) (tOr' (tTr (eOp (hIn false) (eVar 5) (eVar 3))) (tTr (eOp hGe (eVar 4) (eIf (tTr (eVar 2)) (eC (.int 12)) (eC (.int 5))))))) (sRaise "BadFolders" "index" (aCons (eVar 4) (aNil))) (sNx))
  (sEx (eApp (eVar 3) (eVar 5)))
theorem init_parts : Cm.b_Folders___init__ own = sSeq (sIf (tOr' (tNo (tTr (eCall 1 (Cm.F_is_list own) [] (aCons (eVar 1) (aNil))))) (tTr (eOp (hEqP false) (eCB hLen (aCons (eVar 1) (aNil))) (eC (.int 0))))) (sRaise "BadFolders" "index" (aCons (eC (.int 0)) (aNil))) (sNx))
    (sSeq (sSet 3 (eLstM (aNil)))
    (sSeq (sLkO 1 (sFor (iEnA (eVar 1)) (gT 2 (gsCons (gN 4) (gsCons (gN 5) (gsNil)))) (initB own)))
    (sSeq (sFl ["Folders"] "names" (eVar 0) (eCB hTuple (aCons (eVar 3) (aNil))))
    (sFl ["Folders"] "chain" (eVar 0) (eVar 2))))) := rfl
theorem init_step {ns kept : List Str} {ch : Bool} (g : GoodNames ns ch) (M : Mem) (a b : Option D) {s : Str} (h1 : s ∈ ns) (h2 : s ∉ kept) (h3 : kept.length < ns.length) :
    initB own [a, b, some (.bl ch), some (.mref M.length), some (.int kept.length), some (.str s)] (M ++ [.lst (kept.map .str)]) = .nx [a, b, some (.bl ch), some (.mref M.length), some (.int kept.length), some (.str s)] (M ++ [.lst ((kept ++ [s]).map .str)]) := by
  have e5 : seqV (M ++ [.lst (kept.map .str)]) (.mref M.length) = some (kept.map .str) := by simp [seqV, lstV]
  have e6 : lstE (M ++ [.lst (kept.map .str)]) (.mref M.length) = some (kept.map .str) := by simp [lstE]
  have hle := g.le
  have hsz : kept.length < sizeLine := by
    have : (13 : Nat) ≤ sizeLine := by decide
    split at hle <;> omega
  unfold initB
  cases ch
  · simp at hle
    have hc : ¬ (5 : Int) ≤ kept.length := by omega
    simp [is_name_ok (own := own) (g.nm s h1), seq_strs _ s e5, h2, hc, kAp1_ok _ _ _ _ e6, appR, hsz, hCmp]
  · simp at hle
    have hc : ¬ (12 : Int) ≤ kept.length := by omega
    simp [is_name_ok (own := own) (g.nm s h1), seq_strs _ s e5, h2, hc, kAp1_ok _ _ _ _ e6, appR, hsz, hCmp]
theorem init_loop {ns : List Str} {ch : Bool} (g : GoodNames ns ch) (M : Mem) (a b : Option D) :
    ∃ x y, forGo (gT 2 (gsCons (gN 4) (gsCons (gN 5) gsNil))) (initB own) (enumD 0 (ns.map .str)) [a, b, some (.bl ch), some (.mref M.length), none, none] (M ++ [.lst []]) = .nx [a, b, some (.bl ch), some (.mref M.length), x, y] (M ++ [.lst (ns.map .str)]) := by
  obtain ⟨ρ', m', e, h1, x, y, h2⟩ := for_st (fg := gT 2 (gsCons (gN 4) (gsCons (gN 5) gsNil))) (fb := initB own) (I := fun i ρ m => m = M ++ [.lst ((ns.take i).map .str)] ∧ ∃ x y, ρ = [a, b, some (.bl ch), some (.mref M.length), x, y])
    (enumD 0 (ns.map .str)) 0 [a, b, some (.bl ch), some (.mref M.length), none, none] (M ++ [.lst []]) ⟨by simp, none, none, rfl⟩ (fun i z hz ρ m hI => by
      obtain ⟨rfl, x, y, rfl⟩ := hI
      rw [enumD_get, Nat.zero_add] at hz
      obtain ⟨d, hd, rfl⟩ := Option.map_eq_some_iff.mp hz
      rw [List.getElem?_map] at hd
      obtain ⟨s, hs, rfl⟩ := Option.map_eq_some_iff.mp hd
      have hi : i < ns.length := (List.getElem?_eq_some_iff.mp hs).1
      have hmem : s ∈ ns := List.mem_of_getElem? hs
      have hnot : s ∉ ns.take i := fun hx => by
        obtain ⟨j, hj, hj2⟩ := List.getElem_of_mem hx
        have hj3 : j < i := by rw [List.length_take] at hj; omega
        have e1 : ns[j]? = some s := by rw [List.getElem?_eq_getElem (by omega)]; rw [List.getElem_take] at hj2; rw [hj2]
        obtain ⟨h1, h2⟩ := List.getElem?_eq_some_iff.mp hs
        obtain ⟨h3, h4⟩ := List.getElem?_eq_some_iff.mp e1
        have := (List.getElem_inj g.nd).mp (h4.trans h2.symm)
        omega
      simp only [Nat.zero_add]
      have htk : ns.take (i + 1) = ns.take i ++ [s] := by
        rw [List.take_succ, hs]
        rfl
      have hlen : (ns.take i).length = i := by rw [List.length_take]; omega
      have st := init_step (own := own) g M a b hmem hnot (by omega)
      rw [hlen, ← htk] at st
      exact ⟨_, _, _, _, rfl, st, rfl, _, _, rfl⟩)
  refine ⟨x, y, ?_⟩
  rw [e, h2, h1, enumD_length]
  simp
/-- the constructor -/
theorem init_ok {ns : List Str} {ch : Bool} (g : GoodNames ns ch) {m : Mem} {j : Nat} {d : D} (hm : m[j]? = some (.ins "Folders" [])) (hd : NamesAre m ns d) :
    Cm.F_Folders___init__ own [.mref j, d, .bl ch] m = .ok .non (m.set j (.ins "Folders" [("names", .tup (ns.map .str)), ("chain", .bl ch)])) := by
  have hj : j < m.length := (List.getElem?_eq_some_iff.mp hm).1
  have hne : ns.length ≠ 0 := fun e => g.ne (List.length_eq_zero_iff.mp e)
  -- behind the loop
  have tail : ∀ x y, (sSeq (sFl ["Folders"] "names" (eVar 0) (eCB hTuple (aCons (eVar 3) (aNil)))) (sFl ["Folders"] "chain" (eVar 0) (eVar 2))) [some (.mref j), some d, some (.bl ch), some (.mref m.length), x, y] (m ++ [.lst (ns.map .str)]) =
      .nx [some (.mref j), some d, some (.bl ch), some (.mref m.length), x, y] (m.set j (.ins "Folders" [("names", .tup (ns.map .str)), ("chain", .bl ch)]) ++ [.lst (ns.map .str)]) := fun x y => by
    have e1 : (m ++ [.lst (ns.map .str)])[j]? = some (.ins "Folders" []) := by rw [List.getElem?_append_left hj]; exact hm
    have e2 : (m ++ [MO.lst (ns.map .str)]).set j (.ins "Folders" [("names", .tup (ns.map .str))]) = m.set j (.ins "Folders" [("names", .tup (ns.map .str))]) ++ [.lst (ns.map .str)] := by rw [List.set_append_left _ _ hj]
    have e3 : (m.set j (.ins "Folders" [("names", D.tup (ns.map .str))]) ++ [MO.lst (ns.map .str)])[j]? = some (.ins "Folders" [("names", .tup (ns.map .str))]) := by
      rw [List.getElem?_append_left (by simpa using hj), List.getElem?_set_self hj]
    have e4 : ∀ o o' : MO, (m.set j o ++ [MO.lst (ns.map .str)]).set j o' = m.set j o' ++ [MO.lst (ns.map .str)] := fun o o' => by
      rw [List.set_append_left _ _ (by simpa using hj), List.set_set]
    have e5 : ¬ (("names" : Str) = ("chain" : Str)) := by decide +kernel
    simp [hTuple, lstV, flR, e1, putD, e2, e3, e4, e5]
  have loop : ∃ x y, sLkO 1 (sFor (iEnA (eVar 1)) (gT 2 (gsCons (gN 4) (gsCons (gN 5) (gsNil)))) (initB own)) [some (.mref j), some d, some (.bl ch), some (.mref m.length), none, none] (m ++ [.lst []]) = .nx [some (.mref j), some d, some (.bl ch), some (.mref m.length), x, y] (m ++ [.lst (ns.map .str)]) := by
    cases hd with
    | lst =>
      obtain ⟨x, y, e⟩ := init_loop (own := own) g m (some (.mref j)) (some (.lst (ns.map .str)))
      exact ⟨x, y, by simp [sLkO, lkAt, e]⟩
    | tup =>
      obtain ⟨x, y, e⟩ := init_loop (own := own) g m (some (.mref j)) (some (.tup (ns.map .str)))
      exact ⟨x, y, by simp [sLkO, lkAt, e]⟩
    | mref hi =>
      rename_i i
      have hil : i < m.length := (List.getElem?_eq_some_iff.mp hi).1
      obtain ⟨x, y, e⟩ := init_loop (own := own) g (m.set i (.lkL (ns.map .str))) (some (.mref j)) (some (.mref i))
      rw [List.length_set] at e
      have e1 : (m ++ [MO.lst []])[i]? = some (.lst (ns.map .str)) := by rw [List.getElem?_append_left hil]; exact hi
      have e2 : (m ++ [MO.lst []]).set i (.lkL (ns.map .str)) = m.set i (.lkL (ns.map .str)) ++ [.lst []] := List.set_append_left _ _ hil
      have e3 : (m.set i (.lkL (ns.map .str)) ++ [MO.lst []])[i]? = some (.lkL (ns.map .str)) := by
        rw [List.getElem?_append_left (by simpa using hil), List.getElem?_set_self hil]
      have e4 : m.set i (.lst (ns.map .str)) = m := by
        obtain ⟨_, z⟩ := List.getElem?_eq_some_iff.mp hi
        rw [← z]
        exact List.set_getElem_self _
      have e5 : (m.set i (.lkL (ns.map .str)) ++ [MO.lst (ns.map .str)]).set i (.lst (ns.map .str)) = m ++ [.lst (ns.map .str)] := by
        rw [List.set_append_left _ _ (by simpa using hil), List.set_set, e4]
      have e6 : enumI (.mref i) (m.set i (.lkL (ns.map .str)) ++ [MO.lst []]) = .ok (enumD 0 (ns.map .str)) (m.set i (.lkL (ns.map .str)) ++ [MO.lst []]) := by
        simp only [enumI, lstK, e3]
      have e7 : lkAt [some (.mref j), some (.mref i), some (.bl ch), some (.mref m.length), none, none] (m ++ [.lst []]) 1 = some (i, ns.map .str) := by
        simp only [lkAt, List.getElem?_cons_succ, List.getElem?_cons_zero, e1]
      refine ⟨x, y, ?_⟩
      simp only [sLkO, e7, e2]
      simp [e6, e, unlkS, e5]
  obtain ⟨x, y, loop⟩ := loop
  unfold Cm.F_Folders___init__
  rw [x_runF, show startD 6 [D.mref j, d, D.bl ch] = [some (.mref j), some d, some (.bl ch), none, none, none] from rfl, init_parts]
  have hc : DL.cut m (m.set j (.ins "Folders" [("names", .tup (ns.map .str)), ("chain", .bl ch)]) ++ [.lst (ns.map .str)]) [] = m.set j (.ins "Folders" [("names", .tup (ns.map .str)), ("chain", .bl ch)]) := by
    refine cut_two _ _ _ _ (by simp) (by simp) fun i hi => ?_
    by_cases e : j = i
    · subst e
      refine .inr ⟨_, List.getElem?_set_self hj, fun p hp => ?_⟩
      simp only [List.mem_cons, List.not_mem_nil, or_false] at hp
      rcases hp with rfl | rfl
      · refine .tup (belL_iff.mpr fun z hz => ?_)
        obtain ⟨s, _, rfl⟩ := List.mem_map.mp hz
        exact .str s
      · exact .bl _
    · exact .inl (List.getElem?_set_ne e)
  have hz : (0 : Nat) ≤ sizeLine := by decide
  generalize hL : sLkO 1 (sFor (iEnA (eVar 1)) (gT 2 (gsCons (gN 4) (gsCons (gN 5) (gsNil)))) (initB own)) = LP at loop
  generalize hT : sSeq (sFl ["Folders"] "names" (eVar 0) (eCB hTuple (aCons (eVar 3) (aNil)))) (sFl ["Folders"] "chain" (eVar 0) (eVar 2)) = TL at tail
  simp [is_list_ok (own := own) hd, len_names hd, hne, loop, tail, hc]
end DM
end
section
set_option maxRecDepth 100000
set_option maxHeartbeats 4000000
/-! Plain mathematics, part 8: Folders: made, len, in, ==. -/
namespace DM
open PySem L2 DL
open PySem.PyData (strOk)
variable {own : List Str}
theorem NamesAre.app {m : Mem} {ns : List Str} {d : D} (h : NamesAre m ns d) (o : Mem) : NamesAre (m ++ o) ns d := by
  cases h with
  | lst => exact .lst
  | tup => exact .tup
  | mref hm => exact .mref (by rw [List.getElem?_append_left (List.getElem?_eq_some_iff.mp hm).1]; exact hm)
theorem bel_strs {n : Nat} (ns : List Str) : Bel n (.tup (ns.map .str)) := by
  refine .tup (belL_iff.mpr fun z hz => ?_)
  obtain ⟨s, _, rfl⟩ := List.mem_map.mp hz
  exact .str s
theorem bel_house {n : Nat} (ns : List Str) (ch : Bool) : Bel n (House ns ch) := by
  refine .ins (belL_iff.mpr fun z hz => ?_)
  simp at hz
  rcases hz with rfl | rfl
  · exact bel_strs ns
  · exact .bl _
theorem mk_house {ns : List Str} {ch : Bool} (g : GoodNames ns ch) {m : Mem} {d : D} (hd : NamesAre m ns d) :
    kFrz m (mkR "Folders" 3 (Cm.F_Folders___init__ own) [d, .bl ch] m) = .ok (House ns ch) m := by
  have e := init_ok (own := own) g (m := m ++ [.ins "Folders" []]) (j := m.length) (by simp) (hd.app _)
  have e2 : (m ++ [MO.ins "Folders" []]).set m.length (.ins "Folders" [("names", .tup (ns.map .str)), ("chain", .bl ch)]) = m ++ [.ins "Folders" [("names", .tup (ns.map .str)), ("chain", .bl ch)]] := by simp
  have e3 : (m ++ [MO.ins "Folders" [("names", D.tup (ns.map .str)), ("chain", .bl ch)]]).set m.length .gone = m ++ [.gone] := by simp
  have e4 : (m ++ [MO.ins "Folders" [("names", D.tup (ns.map .str)), ("chain", .bl ch)]])[m.length]? = some (.ins "Folders" [("names", .tup (ns.map .str)), ("chain", .bl ch)]) := by simp
  have e5 : DL.cut m (m ++ [.gone]) [D.ins "Folders" [("names", D.tup (ns.map .str)), ("chain", .bl ch)]] = m := cut_app _ _ _ fun x hx => by
    simp at hx
    subst hx
    exact bel_house ns ch
  unfold mkR
  rw [if_pos (show [d, D.bl ch].length + 1 = 3 from rfl), e, e2]
  simp only [bind_ok, kFrz_ok, frzR, e4, e3, e5]
  rfl
@[simp] theorem house_ins (m : Mem) (ns : List Str) (ch : Bool) : insV m (House ns ch) = some (("Folders" : Str), [(("names" : Str), D.tup (ns.map .str)), (("chain" : Str), D.bl ch)]) := rfl
theorem house_C (m : Mem) (ns : List Str) (ch : Bool) : isC "Folders" m (House ns ch) := ⟨_, rfl⟩
@[simp] theorem house_names (m : Mem) (ns : List Str) (ch : Bool) : atR ["Folders"] "names" (House ns ch) m = .ok (.tup (ns.map .str)) m := by
  simp [atR]
@[simp] theorem house_chain (m : Mem) (ns : List Str) (ch : Bool) : atR ["Folders"] "chain" (House ns ch) m = .ok (.bl ch) m := by
  have e : (("chain" : Str) == ("names" : Str)) = false := by decide +kernel
  simp [atR, List.lookup, e]
theorem house_tag (h : ("Folders" : Str) ∈ own) (m : Mem) (ns : List Str) (ch : Bool) : tagD own m (House ns ch) = some (.o "Folders") := by
  simp [House, tagD, h]
theorem house_len (m : Mem) (ns : List Str) (ch : Bool) : Cm.F_Folders___len__ [House ns ch] m = .ok (.int ns.length) m := by
  unfold Cm.F_Folders___len__
  rw [x_runF, show startD 1 [House ns ch] = [some (House ns ch)] from rfl]
  unfold Cm.b_Folders___len__
  simp [hLen, seqV, cut_same]
theorem hlen_house {ns : List Str} (hn : ns.length < 1000) (m : Mem) (ch : Bool) : hLenO "Folders" Cm.F_Folders___len__ [House ns ch] m = .ok (.int ns.length) m := by
  have e : (0 : Int) ≤ ns.length ∧ (ns.length : Int) < 2 ^ 63 := ⟨by omega, by omega⟩
  unfold hLenO
  refine Eq.trans (if_pos (house_C m ns ch)) ?_
  rw [house_len, bind_ok]
  dsimp only
  rw [if_pos e]
theorem house_in (m : Mem) (ns : List Str) (ch : Bool) (s : Str) : hInO false "Folders" (Cm.F_Folders___contains__ own) (.str s) (House ns ch) m = .ok (.bl (decide (s ∈ ns))) m := by
  have e : Cm.F_Folders___contains__ own [House ns ch, .str s] m = .ok (.bl (decide (s ∈ ns))) m := by
    unfold Cm.F_Folders___contains__
    rw [x_runF, show startD 2 [House ns ch, D.str s] = [some (House ns ch), some (.str s)] from rfl]
    unfold Cm.b_Folders___contains__
    have e1 : seqV m (.tup (ns.map .str)) = some (ns.map .str) := rfl
    simp [isi_ty (own := own) (m := m) (x := .str s) rfl b_str b_str, ans, seq_strs ns s e1, cut_same]
  simp only [hInO, if_pos (house_C m ns ch), e, bind_ok]
  simp
theorem house_not (m : Mem) (ns : List Str) (ch : Bool) {x : D} (h : hIsi own [x, .ty "str"] m = .ok (.bl false) m) : hInO false "Folders" (Cm.F_Folders___contains__ own) x (House ns ch) m = .ok (.bl false) m := by
  have e : Cm.F_Folders___contains__ own [House ns ch, x] m = .ok (.bl false) m := by
    unfold Cm.F_Folders___contains__
    rw [x_runF, show startD 2 [House ns ch, x] = [some (House ns ch), some x] from rfl]
    unfold Cm.b_Folders___contains__
    simp [h, cut_same]
  simp only [hInO, if_pos (house_C m ns ch), e, bind_ok]
  simp
theorem isi_house (h : ("Folders" : Str) ∈ own) (m : Mem) (ns : List Str) (ch : Bool) {c : String} (hc : c ∈ bTys) : hIsi own [House ns ch, .ty c] m = .ok (.bl false) m := by
  simp only [hIsi, house_tag h, clsD, kit, if_pos (And.intro h hc)]
theorem isi_house_o (h : ("Folders" : Str) ∈ own) (m : Mem) (ns : List Str) (ch : Bool) : hIsi own [House ns ch, .glo "Folders"] m = .ok (.bl true) m := by
  simp only [hIsi, house_tag h, clsD, kit, if_pos (And.intro h h)]
  simp
/-! ### == of tuples of texts -/
theorem py_strs (m : Mem) : ∀ ns : List Str, toPyL m (ns.map .str) = some (ns.map .str)
  | [] => rfl
  | c :: cs => by simp [toPyL, toPy, py_strs m cs]
theorem lay_strs : ∀ {ns : List Str}, (∀ s ∈ ns, strOk s = true) → PyData.canLayAll0 (ns.map .str) = true ∧ PyData.depthAll (ns.map .str) = 0
  | [], _ => ⟨rfl, rfl⟩
  | c :: cs, h => by
    obtain ⟨h1, h2⟩ := lay_strs (ns := cs) fun s hs => h s (by simp [hs])
    exact ⟨by simp [PyData.canLayAll0, PyData.canLay0, h1, h c], by simp [PyData.depthAll, PyData.depth, h2]⟩
theorem eqv_strs : ∀ ns ms : List Str, PyData.eqvAll (ns.map .str) (ms.map .str) = decide (ns = ms)
  | [], [] => rfl
  | [], m :: ms => by simp [PyData.eqvAll]
  | n :: ns, [] => by simp [PyData.eqvAll]
  | n :: ns, m :: ms => by
    simp only [List.map_cons, PyData.eqvAll, PyData.eqv, eqv_strs ns ms, List.cons.injEq, Bool.decide_and]
    rfl
theorem h_eqT (neg : Bool) {ns ms : List Str} (h1 : ∀ s ∈ ns, strOk s = true) (h2 : ∀ s ∈ ms, strOk s = true) (m : Mem) : hEqP neg (.tup (ns.map .str)) (.tup (ms.map .str)) m = .ok (.bl (if neg then !decide (ns = ms) else decide (ns = ms))) m := by
  have sh : ∀ {l : List Str}, (∀ s ∈ l, strOk s = true) → SeqAt.shaped (.tuple (l.map .str)) = true := fun {l} h => by
    obtain ⟨a, b⟩ := lay_strs h
    simp [SeqAt.shaped, PyData.canLay0, PyData.depth, a, b]
  simp only [hEqP, toPyM, toPy, py_strs, Option.map_some, sh h1, sh h2, and_self, if_true, PyData.eqv, eqv_strs]
theorem eq_house (h : ("Folders" : Str) ∈ own) (m : Mem) {ns ms : List Str} (h1 : ∀ s ∈ ns, IsName s) (h2 : ∀ s ∈ ms, IsName s) (ch ch' : Bool) :
    Cm.F_Folders___eq__ own [House ns ch, House ms ch'] m = .ok (.bl (decide (ns = ms) && decide (ch = ch'))) m := by
  unfold Cm.F_Folders___eq__
  rw [x_runF, show startD 2 [House ns ch, House ms ch'] = [some (House ns ch), some (House ms ch')] from rfl]
  unfold Cm.b_Folders___eq__
  have e := h_eqT false (fun s hs => (h1 s hs).ok) (fun s hs => (h2 s hs).ok) m
  by_cases hc : ns = ms
  · subst hc
    simp [isi_house_o h, e, cut_same]
  · simp [isi_house_o h, e, hc, cut_same]
theorem eq_other (m : Mem) (ns : List Str) (ch : Bool) {x : D} (h : hIsi own [x, .glo "Folders"] m = .ok (.bl false) m) : Cm.F_Folders___eq__ own [House ns ch, x] m = .ok (.bl false) m := by
  unfold Cm.F_Folders___eq__
  rw [x_runF, show startD 2 [House ns ch, x] = [some (House ns ch), some x] from rfl]
  unfold Cm.b_Folders___eq__
  simp [h, cut_same]
theorem own_eq (h : ("Folders" : Str) ∈ own) (m : Mem) {ns ms : List Str} (h1 : ∀ s ∈ ns, IsName s) (h2 : ∀ s ∈ ms, IsName s) (ch ch' : Bool) :
    hOwn own "Folders" (Cm.F_Folders___eq__ own) (House ns ch) (House ms ch') m = .ok (.bl (decide (ns = ms) && decide (ch = ch'))) m := by
  unfold hOwn
  rw [if_pos ⟨house_C m ns ch, _, house_tag h m ms ch'⟩, eq_house h m h1 h2]
theorem own_ne (h : ("Folders" : Str) ∈ own) (m : Mem) {ns ms : List Str} (h1 : ∀ s ∈ ns, IsName s) (h2 : ∀ s ∈ ms, IsName s) (ch ch' : Bool) :
    hNeO own "Folders" (Cm.F_Folders___eq__ own) (House ns ch) (House ms ch') m = .ok (.bl (!(decide (ns = ms) && decide (ch = ch')))) m := by
  simp only [hNeO, own_eq h m h1 h2, bind_ok]
theorem own_eqB (h : ("Folders" : Str) ∈ own) (m : Mem) (ns : List Str) (ch : Bool) {x : D} {n : String} (t : tagD own m x = some (.b n)) (hn : n ∈ bTys) : hOwn own "Folders" (Cm.F_Folders___eq__ own) (House ns ch) x m = .ok (.bl false) m := by
  unfold hOwn
  rw [if_pos ⟨house_C m ns ch, _, t⟩, eq_other m ns ch (isi_o t hn h)]
theorem ref_eqB (h : ("Folders" : Str) ∈ own) (m : Mem) (ns : List Str) (ch : Bool) {x : D} {n : String} (t : tagD own m x = some (.b n)) (hn : n ∈ bTys) (hl : isLf m x) : hRef "Folders" (Cm.F_Folders___eq__ own) x (House ns ch) m = .ok (.bl false) m := by
  unfold hRef
  rw [if_pos ⟨house_C m ns ch, hl⟩, eq_other m ns ch (isi_o t hn h)]
end DM
end
section
set_option maxRecDepth 100000
set_option maxHeartbeats 4000000
/-! What is wanted of a result, part 2: what is built in. -/
namespace DM
open PySem L2 DL
open PySem.PyData (strOk)
variable {m : Mem}
theorem e_eqI (i j : Int) : hEqP false (.int i) (.int j) m = .ok (.bl (decide (i = j))) m := h_eqI m false i j
theorem e_neI (i j : Int) : hEqP true (.int i) (.int j) m = .ok (.bl (!decide (i = j))) m := h_eqI m true i j
theorem e_eqB (i j : Bool) : hEqP false (.bl i) (.bl j) m = .ok (.bl (decide (i = j))) m := h_eqB m false i j
theorem e_neB (i j : Bool) : hEqP true (.bl i) (.bl j) m = .ok (.bl (!decide (i = j))) m := h_eqB m true i j
theorem e_sub (i j : Int) : hSub (.int i) (.int j) m = .ok (.int (i - j)) m := h_sub m i j
theorem e_isN (x : D) : hIsN false x .non m = .ok (.bl (isNon x)) m := by cases x <;> rfl
theorem e_isnN (x : D) : hIsN true x .non m = .ok (.bl (!isNon x)) m := by cases x <;> rfl
theorem e_isB (a b : Bool) : hIsN false (.bl a) (.bl b) m = .ok (.bl (decide (a = b))) m := rfl
theorem e_lenL (xs : List D) : hLen [.lst xs] m = .ok (.int xs.length) m := rfl
theorem e_lenT (xs : List D) : hLen [.tup xs] m = .ok (.int xs.length) m := rfl
theorem e_lenS {z : Str} (h : z.length ≤ sizeLine) : hLen [.str z] m = .ok (.int z.length) m := if_pos h
theorem e_lenM {i : Nat} {xs : List D} (h : m[i]? = some (.lst xs)) : hLen [.mref i] m = .ok (.int xs.length) m := by simp [hLen, seqV, lstV, h]
theorem e_tupL (xs : List D) : hTuple [.lst xs] m = .ok (.tup xs) m := rfl
theorem e_tupT (xs : List D) : hTuple [.tup xs] m = .ok (.tup xs) m := rfl
theorem e_tupM {i : Nat} {xs : List D} (h : m[i]? = some (.lst xs)) : hTuple [.mref i] m = .ok (.tup xs) m := by simp [hTuple, lstV, h]
theorem e_listL (xs : List D) : hList [.lst xs] m = .ok (.lst xs) m := rfl
theorem e_listT (xs : List D) : hList [.tup xs] m = .ok (.lst xs) m := rfl
theorem e_listM {i : Nat} {xs : List D} (h : m[i]? = some (.lst xs)) : hList [.mref i] m = .ok (.lst xs) m := by simp [hList, seqV, lstV, h]
theorem e_bls {bs : List Bool} (f : List Bool → Bool) : hBls f [.lst (bs.map .bl)] m = .ok (.bl (f bs)) m := by
  have e : ∀ bs : List Bool, blsV (bs.map .bl) = some bs := fun bs => by
    induction bs with
    | nil => rfl
    | cons b bs ih => simp [blsV, ih]
  simp [hBls, lstV, e]
theorem e_ix {xs : List D} {d : D} {i : Int} (h : atI xs i = some d) : hIx (.lst xs) (.int i) m = .ok d m := by simp [hIx, seqV, lstV, h]
theorem e_ixT {xs : List D} {d : D} {i : Int} (h : atI xs i = some d) : hIx (.tup xs) (.int i) m = .ok d m := by simp [hIx, seqV, h]
theorem e_ixM {xs : List D} {d : D} {i : Int} {j : Nat} (hj : m[j]? = some (.lst xs)) (h : atI xs i = some d) : hIx (.mref j) (.int i) m = .ok d m := by simp [hIx, seqV, lstV, hj, h]
/-- a short list -/
theorem sz {n : Nat} (h : n ≤ 1000) : n ≤ sizeLine := Nat.le_trans h (by decide)
/-! ### isinstance -/
section
variable {own : List Str} {x : D} {t : Tag} {c c1 c2 c3 : String}
def TagOk (own : List Str) : Tag → Prop
  | .b n => n ∈ bTys
  | .o c => c ∈ own
theorem tag_ok (h : tagD own m x = some t) : TagOk own t := by
  cases x <;> simp only [tagD] at h
  all_goals first
    | (cases h; done)
    | (cases h; show _ ∈ bTys; decide)
    | skip
  · split at h
    · cases h; assumption
    · cases h
  · split at h
    · cases h; show _ ∈ bTys; decide
    · cases h; show _ ∈ bTys; decide
    · cases h; show _ ∈ bTys; decide
    · cases h; show _ ∈ bTys; decide
    · split at h
      · cases h; assumption
      · cases h
    · cases h
/-- is a thing with this tag of this built-in kind -/
def isT : Tag → String → Bool
  | .b n, c => ans n c
  | .o _, _ => false
theorem kit_t (h : TagOk own t) (hc : c ∈ bTys) : kit own t (.b c) = some (isT t c) := by
  cases t with
  | b n => exact if_pos ⟨h, hc⟩
  | o k => exact if_pos ⟨h, hc⟩
theorem isi_t (h : tagD own m x = some t) (hc : c ∈ bTys) : hIsi own [x, .ty c] m = .ok (.bl (isT t c)) m := by
  simp only [hIsi, h, clsD, kit_t (tag_ok h) hc]
theorem isi_t2 (h : tagD own m x = some t) (h1 : c1 ∈ bTys) (h2 : c2 ∈ bTys) : hIsi own [x, .tup [.ty c1, .ty c2]] m = .ok (.bl (isT t c1 || isT t c2)) m := by
  simp only [hIsi, h, clsDs, clsD, kitL, kit_t (tag_ok h) h1, kit_t (tag_ok h) h2]
  cases isT t c1 <;> cases isT t c2 <;> rfl
theorem isi_t3 (h : tagD own m x = some t) (h1 : c1 ∈ bTys) (h2 : c2 ∈ bTys) (h3 : c3 ∈ bTys) : hIsi own [x, .tup [.ty c1, .ty c2, .ty c3]] m = .ok (.bl (isT t c1 || (isT t c2 || isT t c3))) m := by
  simp only [hIsi, h, clsDs, clsD, kitL, kit_t (tag_ok h) h1, kit_t (tag_ok h) h2, kit_t (tag_ok h) h3]
  cases isT t c1 <;> cases isT t c2 <;> cases isT t c3 <;> rfl
end
end DM
end
section
set_option maxRecDepth 100000
set_option maxHeartbeats 4000000
/-! What is wanted of a result, part 3: loops by places, locked lists. -/
namespace DM
open PySem L2 DL
section
variable {n : EnvD → Mem → Prop} {r : D → Mem → Prop} {b c : EnvD → Mem → Prop} {e : Exn → EnvD → Mem → Prop} {A : FS} {fg : FG}
/-- for k, x in enumerate(xs) -/
theorem ws_forE {T : Type} {inj : T → D} {all : List T} (I : List T → EnvD → Mem → Prop) (hst : ∀ (pre : List T) (x : T) (post : List T) ρ m, all = pre ++ x :: post → I pre ρ m → W (fun ρ1 m1 => WS (I (pre ++ [x])) r n (I (pre ++ [x])) e (A ρ1 m1)) NoX (fg (.tup [.int pre.length, inj x]) ρ m)) (hn : ∀ ρ m, I all ρ m → n ρ m) :
    ∀ (xs pre : List T) ρ m, all = pre ++ xs → I pre ρ m → WS n r b c e (forGo fg A (enumD pre.length (xs.map inj)) ρ m)
  | [], pre, ρ, m, ha, hI => hn ρ m (by rw [ha, List.append_nil]; exact hI)
  | x :: xs, pre, ρ, m, ha, hI => by
    have h := hst pre x xs ρ m ha hI
    show WS n r b c e (forGo fg A (D.tup [.int pre.length, inj x] :: enumD (pre.length + 1) (xs.map inj)) ρ m)
    unfold forGo
    cases hg : fg (D.tup [.int pre.length, inj x]) ρ m with
    | bad => rw [hg] at h; exact h.elim
    | exc _ _ => rw [hg] at h; exact h.elim
    | ok ρ1 m1 =>
      rw [hg] at h
      replace h : WS (I (pre ++ [x])) r n (I (pre ++ [x])) e (A ρ1 m1) := h
      have ha2 : all = (pre ++ [x]) ++ xs := by rw [ha]; simp
      have go : ∀ ρ2 m2, I (pre ++ [x]) ρ2 m2 → WS n r b c e (forGo fg A (enumD (pre.length + 1) (xs.map inj)) ρ2 m2) := fun ρ2 m2 h => by
        have q := ws_forE I hst hn xs _ ρ2 m2 ha2 h
        rw [List.length_append, List.length_singleton] at q
        exact q
      dsimp only
      revert h
      cases A ρ1 m1 with
      | nx ρ2 m2 => exact fun h => go ρ2 m2 h
      | ct ρ2 m2 => exact fun h => go ρ2 m2 h
      | bk ρ2 m2 => exact fun h => h
      | rt d m2 => exact fun h => h
      | exc x ρ2 m2 => exact fun h => h
      | bad => exact fun h => h
end
/-! ### lists and tuples as they come -/
inductive ItemsAre (m : Mem) (ds : List D) : D → Prop
  | lst : ItemsAre m ds (.lst ds)
  | tup : ItemsAre m ds (.tup ds)
  | mref {i : Nat} : m[i]? = some (.lst ds) → ItemsAre m ds (.mref i)
section
variable {m : Mem} {ds : List D} {x : D}
theorem ItemsAre.app (h : ItemsAre m ds x) (tl : Mem) : ItemsAre (m ++ tl) ds x := by
  cases h with
  | lst => exact .lst
  | tup => exact .tup
  | mref e => exact .mref (by rw [List.getElem?_append_left (List.getElem?_eq_some_iff.mp e).1]; exact e)
theorem ItemsAre.len (h : ItemsAre m ds x) : hLen [x] m = .ok (.int ds.length) m := by
  cases h with
  | lst => rfl
  | tup => rfl
  | mref e => exact e_lenM e
theorem ItemsAre.list (h : ItemsAre m ds x) : hList [x] m = .ok (.lst ds) m := by
  cases h with
  | lst => rfl
  | tup => rfl
  | mref e => exact e_listM e
theorem ItemsAre.tuple (h : ItemsAre m ds x) : hTuple [x] m = .ok (.tup ds) m := by
  cases h with
  | lst => rfl
  | tup => rfl
  | mref e => exact e_tupM e
/-- of a list or a tuple -/
def isSeqT (t : Tag) : Bool := isT t "list" || isT t "tuple"
theorem ItemsAre.tag (own : List Str) (h : ItemsAre m ds x) : ∃ t, tagD own m x = some t ∧ isSeqT t = true := by
  cases h with
  | lst => exact ⟨_, rfl, by decide⟩
  | tup => exact ⟨_, rfl, by decide⟩
  | mref e => exact ⟨.b "list", by simp [tagD, e], by decide⟩
theorem tag_app {own : List Str} {t : Tag} (h : tagD own m x = some t) (tl : Mem) : tagD own (m ++ tl) x = some t := by
  cases x <;> try exact h
  rename_i i
  have hi : i < m.length := by
    rcases Nat.lt_or_ge i m.length with hi | hi
    · exact hi
    · simp only [tagD, List.getElem?_eq_none hi] at h
      cases h
  simp only [tagD] at h ⊢
  rw [List.getElem?_append_left hi]
  exact h
theorem tag_lk {own : List Str} {j : Nat} {xs : List D} (hj : m[j]? = some (.lst xs)) (x : D) : tagD own (m.set j (.lkL xs)) x = tagD own m x := by
  cases x <;> try rfl
  rename_i i
  simp only [tagD]
  by_cases hi : j = i
  · subst hi
    rw [List.getElem?_set_self (List.getElem?_eq_some_iff.mp hj).1, hj]
  · rw [List.getElem?_set_ne hi]
/-- m1 is m with the list locked -/
structure Lk (own : List Str) (m m1 : Mem) (x : D) (ds : List D) : Prop where
  len : m1.length = m.length
  it : ∀ tl, x = .tup ds ∨ lstK (m1 ++ tl) x = some ds
  tag : ∀ d, tagD own m1 d = tagD own m d
  rd : ∀ tl, hList [x] (m1 ++ tl) = .ok (.lst ds) (m1 ++ tl)
theorem set_back {j : Nat} {o o' : MO} (h : m[j]? = some o) : (m.set j o').set j o = m := by
  rw [List.set_set]
  apply List.ext_getElem?
  intro i
  by_cases hi : j = i
  · subst hi
    rw [List.getElem?_set_self (List.getElem?_eq_some_iff.mp h).1, h]
  · rw [List.getElem?_set_ne hi]
end
section
variable {n : EnvD → Mem → Prop} {r : D → Mem → Prop} {b c : EnvD → Mem → Prop} {e : Exn → EnvD → Mem → Prop} {A : FS} {own : List Str}
theorem ws_unlk {j : Nat} {xs : List D} {s : RS} (h : WS (fun ρ m => n ρ (m.set j (.lst xs))) (fun d m => r d (m.set j (.lst xs))) (fun ρ m => b ρ (m.set j (.lst xs))) (fun ρ m => c ρ (m.set j (.lst xs))) (fun x ρ m => e x ρ (m.set j (.lst xs))) s) : WS n r b c e (unlkS j xs s) := by
  cases s <;> exact h
theorem ws_lock {base tl0 : Mem} {ds : List D} {x : D} {ρ : EnvD} {i : Nat} (hx : ItemsAre base ds x) (hρ : ρ[i]? = some (some x))
    (h : ∀ m1, Lk own base m1 x ds → WS (fun ρ m => ∃ tl, m = m1 ++ tl ∧ n ρ (base ++ tl)) (fun d m => ∃ tl, m = m1 ++ tl ∧ r d (base ++ tl)) (fun ρ m => ∃ tl, m = m1 ++ tl ∧ b ρ (base ++ tl)) (fun ρ m => ∃ tl, m = m1 ++ tl ∧ c ρ (base ++ tl)) (fun x ρ m => ∃ tl, m = m1 ++ tl ∧ e x ρ (base ++ tl)) (A ρ (m1 ++ tl0))) :
    WS n r b c e (sLkO i A ρ (base ++ tl0)) := by
  unfold sLkO
  cases hx with
  | lst =>
    have e1 : lkAt ρ (base ++ tl0) i = none := by simp only [lkAt, hρ]
    rw [e1]
    exact (h base ⟨rfl, fun _ => .inr rfl, fun _ => rfl, fun _ => rfl⟩).mono (fun _ _ ⟨tl, e, h⟩ => by rw [e]; exact h) (fun _ _ ⟨tl, e, h⟩ => by rw [e]; exact h) (fun _ _ ⟨tl, e, h⟩ => by rw [e]; exact h) (fun _ _ ⟨tl, e, h⟩ => by rw [e]; exact h) fun _ _ _ ⟨tl, e, h⟩ => by rw [e]; exact h
  | tup =>
    have e1 : lkAt ρ (base ++ tl0) i = none := by simp only [lkAt, hρ]
    rw [e1]
    exact (h base ⟨rfl, fun _ => .inl rfl, fun _ => rfl, fun _ => rfl⟩).mono (fun _ _ ⟨tl, e, h⟩ => by rw [e]; exact h) (fun _ _ ⟨tl, e, h⟩ => by rw [e]; exact h) (fun _ _ ⟨tl, e, h⟩ => by rw [e]; exact h) (fun _ _ ⟨tl, e, h⟩ => by rw [e]; exact h) fun _ _ _ ⟨tl, e, h⟩ => by rw [e]; exact h
  | mref hj =>
    rename_i j
    have hl : j < base.length := (List.getElem?_eq_some_iff.mp hj).1
    have hj2 : (base ++ tl0)[j]? = some (.lst ds) := by rw [List.getElem?_append_left hl]; exact hj
    have e1 : lkAt ρ (base ++ tl0) i = some (j, ds) := by simp only [lkAt, hρ, hj2]
    rw [e1]
    show WS n r b c e (unlkS j ds (A ρ ((base ++ tl0).set j (.lkL ds))))
    have e2 : (base ++ tl0).set j (.lkL ds) = base.set j (.lkL ds) ++ tl0 := List.set_append_left _ _ hl
    rw [e2]
    have at1 : ∀ tl, (base.set j (.lkL ds) ++ tl)[j]? = some (.lkL ds) := fun tl => by
      rw [List.getElem?_append_left (by simpa using hl), List.getElem?_set_self hl]
    have bk : ∀ tl : Mem, (base.set j (.lkL ds) ++ tl).set j (.lst ds) = base ++ tl := fun tl => by
      rw [List.set_append_left _ _ (by simpa using hl), set_back hj]
    refine ws_unlk ((h (base.set j (.lkL ds)) ⟨by simp, fun tl => .inr ?_, fun d => tag_lk hj d, fun tl => ?_⟩).mono (fun _ _ ⟨tl, e, h⟩ => by rw [e, bk]; exact h) (fun _ _ ⟨tl, e, h⟩ => by rw [e, bk]; exact h) (fun _ _ ⟨tl, e, h⟩ => by rw [e, bk]; exact h) (fun _ _ ⟨tl, e, h⟩ => by rw [e, bk]; exact h) fun _ _ _ ⟨tl, e, h⟩ => by rw [e, bk]; exact h)
    · simp only [lstK, at1]
    · simp only [hList, seqV, lstV, at1]
end
end DM
end
section
set_option maxRecDepth 100000
set_option maxHeartbeats 4000000
/-! Plain mathematics, part 33: Folders of any things; the first thing that is wrong. -/
namespace DM
open PySem L2 DL
open PySem.PyData (strOk)
variable {own : List Str}
def nameOf : D → Option Str
  | .str s => if IsName s then some s else none
  | _ => none
def dueGo (lim : Nat) : List Str → List D → Option Nat
  | _, [] => none
  | seen, d :: ds => match nameOf d with
    | some s => if s ∈ seen ∨ lim ≤ seen.length then some seen.length else dueGo lim (seen ++ [s]) ds
    | none => some seen.length
def limOf (ch : Bool) : Nat := if ch then 12 else 5
/-- things that can be looked at -/
def Looked (own : List Str) (m : Mem) (d : D) : Prop := (∃ t, tagD own m d = some t) ∧ ∀ s, d = .str s → s.length ≤ 1000
theorem Looked.app {m : Mem} {d : D} (h : Looked own m d) (tl : Mem) : Looked own (m ++ tl) d := ⟨h.1.imp fun _ h => tag_app h tl, h.2⟩
theorem isT_str {m : Mem} {d : D} {t : Tag} (h : tagD own m d = some t) (hs : ∀ s, d ≠ .str s) : isT t "str" = false := by
  cases d <;> simp only [tagD] at h
  all_goals first
    | (cases h; done)
    | (cases h; decide)
    | skip
  · exact absurd rfl (hs _)
  · split at h
    · cases h; rfl
    · cases h
  · split at h
    · cases h; decide
    · cases h; decide
    · cases h; decide
    · cases h; decide
    · split at h
      · cases h; rfl
      · cases h
    · cases h
theorem is_name_any {m : Mem} {d : D} (h : Looked own m d) : Cm.F_is_name own [d] m = .ok (.bl (nameOf d).isSome) m := by
  by_cases hs : ∃ s, d = .str s
  · obtain ⟨s, rfl⟩ := hs
    rw [is_name_str (sz (h.2 s rfl))]
    unfold nameOf
    by_cases hn : IsName s
    · simp [hn]
    · simp [hn]
  · have hs' : ∀ s, d ≠ .str s := fun s e => hs ⟨s, e⟩
    have e : nameOf d = none := by cases d <;> first | rfl | exact absurd rfl (hs' _)
    rw [e]
    obtain ⟨t, ht⟩ := h.1
    refine W.eq ?_
    unfold Cm.F_is_name
    refine w_runS ?_
    unfold Cm.b_is_name
    refine ws_rt (w_an (w_cb (w_cons (w_var rfl (w_cons (w_c (w_nil ?_)))))))
    refine w_eq (isi_t ht b_str) ⟨_, rfl, d_F (isT_str ht hs') ⟨rfl, rfl, rfl⟩⟩
theorem is_list_any {m : Mem} {d : D} {t : Tag} (h : tagD own m d = some t) : Cm.F_is_list own [d] m = .ok (.bl (isSeqT t)) m := by
  refine W.eq ?_
  unfold Cm.F_is_list
  refine w_runS ?_
  unfold Cm.b_is_list
  refine ws_rt (w_cb (w_cons (w_var rfl (w_cons (w_tup (w_cons (w_c (w_cons (w_c (w_nil ⟨sz (by simp), w_nil ?_⟩))))))))))
  exact w_eq (isi_t2 h b_list b_tuple) ⟨rfl, rfl, rfl⟩
theorem nameOf_some {d : D} {s : Str} (h : nameOf d = some s) : d = .str s ∧ IsName s := by
  cases d <;> simp only [nameOf] at h
  all_goals first
    | (cases h; done)
    | skip
  split at h
  · cases h; exact ⟨rfl, by assumption⟩
  · cases h
/-- if nothing is wrong they are good names -/
theorem dueGo_none {lim : Nat} : ∀ (seen : List Str) (ds : List D), dueGo lim seen ds = none → seen.Nodup → (∀ s ∈ seen, IsName s) → (seen ≠ [] → seen.length ≤ lim) → ∃ ns : List Str, ds = ns.map .str ∧ (seen ++ ns).Nodup ∧ (∀ s ∈ seen ++ ns, IsName s) ∧ ((seen ++ ns) ≠ [] → (seen ++ ns).length ≤ lim)
  | seen, [], _, h1, h2, h3 => ⟨[], rfl, by simpa using h1, by simpa using h2, by simpa using h3⟩
  | seen, d :: ds, h, h1, h2, h3 => by
    unfold dueGo at h
    split at h
    · rename_i s hs
      obtain ⟨rfl, hn⟩ := nameOf_some hs
      split at h
      · cases h
      · rename_i hc
        have hc1 : s ∉ seen := fun z => hc (.inl z)
        have hc2 : ¬ lim ≤ seen.length := fun z => hc (.inr z)
        obtain ⟨ns, e, g1, g2, g3⟩ := dueGo_none (seen ++ [s]) ds h (by
          rw [List.nodup_append]
          exact ⟨h1, by simp, fun a ha b hb => by simp at hb; subst hb; exact fun z => hc1 (z ▸ ha)⟩) (fun a ha => by
          rcases List.mem_append.mp ha with ha | ha
          · exact h2 a ha
          · simp at ha; subst ha; exact hn) (fun _ => by simp; omega)
        exact ⟨s :: ns, by simp [e], by simpa using g1, by simpa using g2, by simpa using g3⟩
    · cases h
theorem due_good {ch : Bool} {ds : List D} (hne : ds ≠ []) (h : dueGo (limOf ch) [] ds = none) : ∃ ns, ds = ns.map .str ∧ GoodNames ns ch := by
  obtain ⟨ns, e, h1, h2, h3⟩ := dueGo_none [] ds h (by simp) (by simp) (by simp)
  have hn : ns ≠ [] := fun z => hne (by rw [e, z]; rfl)
  exact ⟨ns, e, hn, by simpa using h1, by simpa using h2, by have := h3 (by simpa using hn); simpa [limOf] using this⟩
/-- Folders refuses them -/
theorem init_bad {m : Mem} {ds : List D} {x : D} {ch : Bool} {k : Nat} (hx : ItemsAre m ds x) (hl : ∀ d ∈ ds, Looked own m d) (hk : dueGo (limOf ch) [] ds = some k) (hsz : ds.length ≤ 1000) :
    W NoR (fun e m' => e = ⟨"BadFolders", [("index", .int k)]⟩ ∧ ∃ tl, m' = m ++ tl) (mkR "Folders" 3 (Cm.F_Folders___init__ own) [x, .bl ch] m) := by
  refine w_mkR rfl ?_
  unfold Cm.F_Folders___init__
  refine w_run ?_
  rw [init_parts]
  have hne : ds ≠ [] := fun z => by rw [z] at hk; cases hk
  obtain ⟨t, ht, hs⟩ := hx.tag own
  have hn0 : ¬ ((ds.length : Int) = 0) := by
    have := List.length_pos_iff.mpr hne
    omega
  refine ws_seq (ws_if (w_tor (w_tno (w_tr (w_call (w_cons (w_var rfl (w_nil ⟨rfl, ?_⟩))))))))
  refine w_eq (is_list_any (tag_app ht _)) ⟨_, rfl, ?_⟩
  rw [hs]
  refine d_false (w_tr (w_op (w_cb (w_cons (w_var rfl (w_nil ?_))))))
  refine w_eq (hx.app _).len (w_c (w_eq (e_eqI _ _) ⟨_, rfl, d_F (decide_eq_false hn0) (ws_nx ?_)⟩))
  refine ws_seq (ws_set (w_lstM (w_nil ⟨sz (by simp), ?_⟩)))
  refine ws_seq ?_
  rw [List.append_assoc]
  refine ws_lock (own := own) hx rfl fun m1 L => ws_forI (w_iEnV rfl (L.it _) ?_)
  rw [show enumD 0 ds = enumD ([] : List D).length (ds.map fun d => d) by simp]
  refine ws_forE (all := ds) (fun pre ρ M => ∃ seen : List Str, pre = seen.map .str ∧ (∃ y z, ρ = [some (.mref m.length), some x, some (.bl ch), some (.mref (m.length + 1)), y, z]) ∧ M = m1 ++ [.ins "Folders" [], .lst (seen.map .str)] ∧ ∀ post, ds = pre ++ post → dueGo (limOf ch) seen post = some k) ?_ ?_ ds [] _ _ rfl ⟨[], rfl, ⟨none, none, by simp [startD]⟩, by simp, fun post e => by rw [List.nil_append] at e; rw [← e]; exact hk⟩
  · rintro pre d post ρ M hds ⟨seen, rfl, ⟨y, z, rfl⟩, rfl, hd⟩
    have hd1 := hd _ hds
    have hlk : Looked own (m1 ++ [.ins "Folders" [], .lst (seen.map .str)]) d := by
      obtain ⟨⟨t, ht⟩, h2⟩ := hl d (by rw [hds]; simp)
      exact Looked.app ⟨⟨t, by rw [L.tag]; exact ht⟩, h2⟩ _
    have hlen : seen.length ≤ 1000 := by
      have := congrArg List.length hds
      simp at this
      omega
    have ek : (m1 ++ [MO.ins "Folders" [], .lst (seen.map .str)])[m.length + 1]? = some (.lst (seen.map .str)) := by
      rw [List.getElem?_append_right (by rw [L.len]; omega), L.len]
      simp
    have es : (m1 ++ [MO.ins "Folders" [], .lst (seen.map .str)]).set (m.length + 1) (.lst (seen.map .str ++ [d])) = m1 ++ [.ins "Folders" [], .lst (seen.map .str ++ [d])] := by
      rw [List.set_append_right _ _ (by rw [L.len]; omega), L.len]
      simp
    have fin : ∀ i : Int, (cut (m ++ [.ins "Folders" []]) (m ++ ([.ins "Folders" [], .lst (seen.map .str)] : Mem)) [D.int i]) = m ++ [.ins "Folders" []] := fun i => by
      rw [show m ++ ([.ins "Folders" [], .lst (seen.map .str)] : Mem) = (m ++ [.ins "Folders" []]) ++ [.lst (seen.map .str)] by simp]
      exact cut_tl rfl (by simp) fun i _ => .inl rfl
    refine w_gT rfl (w_gsCons (w_gN (w_gsCons (w_gN (w_gsNil ?_)))))
    unfold initB
    refine ws_seq (ws_if (w_tor (w_tno (w_tr (w_call (w_cons (w_var rfl (w_nil ⟨rfl, ?_⟩))))))))
    refine w_eq (is_name_any hlk) ⟨_, rfl, ?_⟩
    unfold dueGo at hd1
    cases hn : nameOf d with
    | none =>
      rw [hn] at hd1
      have hk2 := Option.some.inj hd1
      exact d_true (d_true (ws_raise (w_cons (w_var rfl (w_nil ⟨_, rfl, _, rfl, by simp [hk2], _, fin _⟩)))))
    | some s =>
      obtain ⟨rfl, hnm⟩ := nameOf_some hn
      rw [hn] at hd1
      simp only at hd1
      refine d_false (w_tor (w_tr (w_op (w_var rfl (w_var rfl ?_)))))
      refine w_eq (seq_strs seen s (by simp only [seqV, lstV, ek]) false) ⟨_, rfl, d_dec (fun h1 => d_true ?_) (fun h1 => w_tr (w_op (w_var rfl (w_if (w_tr (w_var rfl ⟨_, rfl, ?_⟩))))))⟩
      · rw [if_pos (.inl h1)] at hd1
        have hk2 := Option.some.inj hd1
        exact ws_raise (w_cons (w_var rfl (w_nil ⟨_, rfl, _, rfl, by simp [hk2], _, fin _⟩)))
      · have hch : ∀ {Q : D → Mem → Prop} {E : Exn → Mem → Prop} {ρ : EnvD} {M : Mem}, Q (.int (limOf ch)) M → if ch = true then W Q E (eC (.int 12) ρ M) else W Q E (eC (.int 5) ρ M) := fun {Q E ρ M} h => by
          cases ch <;> exact h
        refine hch (w_eq (h_cmp _ _ _ _) ⟨_, rfl, d_dec (fun h2 => ?_) (fun h2 => ?_)⟩)
        · rw [if_pos (.inr (by simp at h2; omega))] at hd1
          have hk2 := Option.some.inj hd1
          exact ws_raise (w_cons (w_var rfl (w_nil ⟨_, rfl, _, rfl, by simp [hk2], _, fin _⟩)))
        · rw [if_neg (by simp at h2; exact fun z => z.elim h1 (fun z => by omega))] at hd1
          refine ws_nx (ws_ex (w_app (w_var rfl ⟨seen.map .str, by simp only [lstE, ek], w_var rfl ⟨_, _, rfl, ek, Nat.lt_of_le_of_lt (by simpa using hlen) (by decide), ?_⟩⟩)))
          rw [es]
          refine ⟨seen ++ [s], by simp, ⟨_, _, rfl⟩, by simp, fun post2 e2 => ?_⟩
          have : post2 = post := by
            rw [hds] at e2
            simpa using e2.symm
          rw [this]
          exact hd1
  · rintro ρ M ⟨seen, e1, _, _, hd⟩
    have := hd [] (by simp)
    cases this
end DM
end
section
set_option maxRecDepth 100000
set_option maxHeartbeats 4000000
/-! What is wanted of a result, part 4: the draws. -/
namespace DM
open PySem L2 DL
section
variable {Q : D → Mem → Prop} {E : Exn → Mem → Prop} {C : Nat} {tl m : Mem}
theorem w_draw (hs : St C tl m) (hC : C < 2 ^ 40) {k : Int} (hk : 0 < k) (hk2 : k < 2 ^ 62) (h : ∀ (d : Int) m', 0 ≤ d → d < k → St (C + 1) tl m' → Q (.int d) m') : W Q E (Cm.F__law_draw [.mref 1, .int k] m) := by
  obtain ⟨d, m', e, h0, h1, hs'⟩ := draw_ok hs hC hk hk2
  exact w_eq e (h d m' h0 h1 hs')
theorem w_pick (hs : St C tl m) (hC : C < 2 ^ 40) {xs : List D} (hx : xs ≠ []) (hx2 : xs.length < 2 ^ 40) (h : ∀ d m', d ∈ xs → St (C + 1) tl m' → Q d m') : W Q E (Cm.F__law_pick [.mref 1, .lst xs] m) := by
  obtain ⟨d, m', e, h0, hs'⟩ := pick_lst hs hC hx hx2
  exact w_eq e (h d m' h0 hs')
theorem w_names (hs : St C tl m) {n : Int} (h0 : 0 ≤ n) (h1 : n ≤ 15) (hC : C + 200 < 2 ^ 40) (h : ∀ (ns : List Str) m', (ns.length : Int) = n → ns.Nodup → (∀ s ∈ ns, IsName s) → St (C + 135) tl m' → Q (.lst (ns.map .str)) m') : W Q E (Cm.F__law_names [.mref 1, .int n] m) := by
  obtain ⟨ns, m', e, a1, a2, a3, a4⟩ := names_ok hs h0 h1 hC
  exact w_eq e (h ns m' a1 a2 a3 (a4.mono (by omega)))
theorem start_ok (cs : List Int) : Cm.F__law_start [.slst (cs.map .int)] [] = .ok (.mref 1) (strm cs 0 0 11 []) := by
  unfold Cm.F__law_start
  rw [x_runF, show startD 1 [D.slst (cs.map .int)] = [some (.slst (cs.map .int))] from rfl]
  unfold Cm.b__law_start
  have z : (4 : Nat) ≤ sizeLine := by decide
  have c : DL.cut [] [MO.lst (cs.map .int), .lst [.mref 0, .int 0, .int 0, .int 11]] [.mref 1] = [MO.lst (cs.map .int), .lst [.mref 0, .int 0, .int 0, .int 11]] := by
    unfold DL.cut
    rw [if_neg (by simp), if_neg]
    rintro ⟨h, _⟩
    have := h _ (List.mem_singleton.mpr rfl)
    cases this with
    | mref h => simp at h
  simp [hListM, seqV, lstV, z, c]
theorem w_start {cs : List Int} (h : ∀ m, St 0 [] m → Q (.mref 1) m) : W Q E (Cm.F__law_start [.slst (cs.map .int)] []) := w_eq (start_ok cs) (h _ ⟨cs, 0, 0, 11, rfl, by decide, by decide, by decide, by decide, by decide⟩)
theorem law_of {F : HL} {cs : List Int} (h : W (fun d _ => d = .bl true) NoX (F [.slst (cs.map .int)] [])) : ∃ m, F [.slst (cs.map .int)] [] = .ok (.bl true) m := by
  obtain ⟨d, m, e, h⟩ := h.out
  exact ⟨m, by rw [e, h]⟩
end
end DM
end
section
set_option maxRecDepth 100000
set_option maxHeartbeats 4000000
/-! k02: what is due, what is tried. -/
namespace K02
open PySem L2 DL DM
open PySem.PyData (strOk)
local macro_rules | `(tactic| walk_at "w") => `(tactic| repeat (first
  | with_reducible refine ws_seq ?_ | with_reducible refine ws_set ?_ | with_reducible refine ws_if ?_ | with_reducible refine ws_rt ?_ | with_reducible refine ws_ex ?_ | with_reducible refine ws_nx ?_ | with_reducible refine ws_asg ?_ | with_reducible refine ws_forI ?_
  | ((with_reducible apply w_var); exact rfl)
  | with_reducible refine w_c ?_ | with_reducible refine w_nil ?_ | with_reducible refine w_cons ?_ | with_reducible refine w_op ?_ | with_reducible refine w_cb ?_ | with_reducible refine w_un ?_ | with_reducible refine w_call ?_ | with_reducible refine w_tr ?_
  | with_reducible refine w_tan ?_ | with_reducible refine w_tor ?_ | with_reducible refine w_tno ?_ | with_reducible refine w_an ?_ | with_reducible refine w_or ?_ | with_reducible refine w_no ?_ | with_reducible refine w_if ?_ | with_reducible refine w_ch ?_ | with_reducible refine w_tup ?_ | with_reducible refine w_lst ?_ | with_reducible refine w_lstM ?_
  | with_reducible refine w_make ?_ | with_reducible refine w_makeK ?_ | with_reducible refine w_sl ?_ | with_reducible refine w_oNo ?_ | with_reducible refine w_oSo ?_ | with_reducible refine w_lcI ?_ | with_reducible refine w_finF ?_ | with_reducible refine w_finM ?_ | with_reducible refine w_tY ?_
  | with_reducible refine w_gN ?_ | with_reducible refine w_gsNil ?_ | with_reducible refine w_gsCons ?_ | ((with_reducible apply w_gT); exact rfl) | with_reducible refine w_get2 ?_ | with_reducible refine w_m1 ?_ | with_reducible refine w_m0 ?_ | with_reducible refine w_d0K ?_ | with_reducible refine w_d0T ?_
  | with_reducible refine d_true ?_ | with_reducible refine d_false ?_ | with_reducible refine d_nT ?_ | with_reducible refine d_nF ?_ | with_reducible refine w_ok ?_
  | with_reducible refine w_eq (h_add _ _ _) ?_ | with_reducible refine w_eq (e_eqI _ _) ?_ | with_reducible refine w_eq (e_neI _ _) ?_ | with_reducible refine w_eq (h_cmp _ _ _ _) ?_ | with_reducible refine w_eq (e_sub _ _) ?_ | with_reducible refine w_eq (e_lenL _) ?_ | with_reducible refine w_eq (e_lenT _) ?_
  | with_reducible refine ⟨_, rfl, ?_⟩ | refine And.intro rfl ?_ | refine And.intro (And.intro rfl rfl) ?_ | refine And.intro (sz (by simp)) ?_))
theorem q_draw : F__law_draw = Cm.F__law_draw := rfl
theorem q_pick : F__law_pick = Cm.F__law_pick := rfl
theorem q_names : F__law_names = Cm.F__law_names := rfl
theorem q_init : F_Folders___init__ = Cm.F_Folders___init__ own := rfl
theorem q_start : F__law_start = Cm.F__law_start := rfl
theorem q_same : F__law_same = Cm.F__law_same own := by
  funext n
  induction n with
  | zero => rfl
  | succ n ih =>
    show runF 4 (b__law_same (F__law_same n)) = runF 4 (Cm.b__law_same own (Cm.F__law_same own n))
    rw [ih]
    rfl
/-! ### what is due -/
theorem one_lt (a b : Nat) : ([a] < [b]) ↔ a < b := by
  constructor
  · intro h
    cases h with
    | rel h => exact h
    | cons h => cases h
  · intro h
    exact .rel h
theorem le_a (c : Nat) (m : Mem) : hLeS (.str "a") (.str ⟨#[c]⟩) m = .ok (.bl (decide (97 ≤ c))) m := by
  have e : ("a" : Str).cps.toList = [97] := by decide +kernel
  simp only [hLeS, e]
  congr 2
  rw [← decide_not, decide_eq_decide, one_lt]
  omega
theorem le_z (c : Nat) (m : Mem) : hLeS (.str ⟨#[c]⟩) (.str "z") m = .ok (.bl (decide (c ≤ 122))) m := by
  have e : ("z" : Str).cps.toList = [122] := by decide +kernel
  simp only [hLeS, e]
  congr 2
  rw [← decide_not, decide_eq_decide, one_lt]
  omega
theorem take_sl (pre post : List D) {k : Nat} (hk : pre.length = k) (m : Mem) : hSl false (.lst (pre ++ post)) none (some (k : Int)) m = .ok (.lst pre) m := by
  have e2 : HT.sIx (pre ++ post).length (pre ++ post).length (some ((k : Nat) : Int)) = min k (pre ++ post).length := by
    simp [HT.sIx]
    omega
  have e1 : HT.sIx (pre ++ post).length 0 none = 0 := by simp [HT.sIx]
  simp only [hSl, lstV, cutD, e1, e2]
  subst hk
  simp
theorem filt_len {s : Str} : IsName s ↔ (0 < (s.cps.toList.filter fun c => decide (97 ≤ c) && decide (c ≤ 122)).length ∧ (s.cps.toList.filter fun c => decide (97 ≤ c) && decide (c ≤ 122)).length < 9) ∧ (s.cps.toList.filter fun c => decide (97 ≤ c) && decide (c ≤ 122)).length = s.length := by
  have e : s.length = s.cps.toList.length := rfl
  constructor
  · rintro ⟨h1, h2, h3⟩
    have : (s.cps.toList.filter fun c => decide (97 ≤ c) && decide (c ≤ 122)) = s.cps.toList := List.filter_eq_self.mpr fun c hc => by
      have := h3 c hc
      simp [this.1, this.2]
    rw [this]
    omega
  · rintro ⟨⟨h1, h2⟩, h3⟩
    rw [e] at h3
    have := List.length_filter_eq_length_iff.mp h3
    refine ⟨by omega, by omega, fun c hc => ?_⟩
    have := this c hc
    simpa using this
theorem dueGo_bad {lim : Nat} {seen : List Str} {d : D} {ds : List D} (h : nameOf d = none) : dueGo lim seen (d :: ds) = some seen.length := by unfold dueGo; rw [h]
theorem dueGo_dup {lim : Nat} {seen : List Str} {d : D} {ds : List D} {s : Str} (h : nameOf d = some s) (h2 : s ∈ seen ∨ lim ≤ seen.length) : dueGo lim seen (d :: ds) = some seen.length := by unfold dueGo; rw [h]; exact if_pos h2
theorem dueGo_ok {lim : Nat} {seen : List Str} {d : D} {ds : List D} {s : Str} (h : nameOf d = some s) (h2 : ¬ (s ∈ seen ∨ lim ≤ seen.length)) : dueGo lim seen (d :: ds) = dueGo lim (seen ++ [s]) ds := by
  show (match nameOf d with
    | some s => if s ∈ seen ∨ lim ≤ seen.length then some seen.length else dueGo lim (seen ++ [s]) ds
    | none => some seen.length) = _
  rw [h]
  exact if_neg h2
def dueD : Option Nat → D
  | none => .non
  | some k => .int k
section
variable {m : Mem} {x : D} {ch : Bool}
theorem due_no {t : Tag} (ht : tagD own m x = some t) (hs : isSeqT t = false) : F__law_due [x, .bl ch] m = .ok (.int 0) m := by
  refine W.eq ?_
  unfold F__law_due b__law_due
  refine w_runS (ws_seq (ws_if (w_tor (w_tno (w_tr (w_cb (w_cons (w_var rfl (w_cons (w_tup (w_cons (w_c (w_cons (w_c (w_nil ⟨sz (by simp), w_nil ?_⟩)))))))))))))))
  refine w_eq (isi_t2 ht b_list b_tuple) ⟨_, rfl, ?_⟩
  rw [show (isT t "list" || isT t "tuple") = false from hs]
  exact d_true (d_true (ws_rt (w_c ⟨rfl, rfl, rfl⟩)))
theorem due_items {ds : List D} (hx : ItemsAre m ds x) (hl : ∀ d ∈ ds, Looked own m d) : F__law_due [x, .bl ch] m = .ok (if ds = [] then .int 0 else dueD (dueGo (limOf ch) [] ds)) m := by
  refine W.eq ?_
  obtain ⟨t, ht, hs⟩ := hx.tag own
  unfold F__law_due b__law_due
  refine w_runS ?_
  walk_at "w"
  refine w_eq (isi_t2 ht b_list b_tuple) ?_
  rw [show (isT t "list" || isT t "tuple") = true from hs]
  walk_at "w"
  refine w_eq hx.len ?_
  walk_at "w"
  refine d_dec (fun h0 => ?_) (fun h0 => ?_)
  · walk_at "w"
    rw [if_pos (List.length_eq_zero_iff.mp (by omega))]
    exact ⟨rfl, rfl⟩
  have hne : ds ≠ [] := fun z => h0 (by rw [z]; rfl)
  rw [if_neg hne]
  walk_at "w"
  rw [← List.append_nil m]
  refine ws_lock (own := own) hx rfl fun m1 L => ws_forI (w_iEnV rfl (L.it _) ?_)
  rw [show enumD 0 ds = enumD ([] : List D).length (ds.map fun d => d) by simp]
  refine ws_forE (all := ds) (fun pre ρ M => ∃ seen : List Str, pre = seen.map .str ∧ (∃ y z u, ρ = [some x, some (.bl ch), y, z, u, none]) ∧ M = m1 ++ [] ∧ seen.length ≤ limOf ch ∧ ∀ post, ds = pre ++ post → dueGo (limOf ch) [] ds = dueGo (limOf ch) seen post) ?_ ?_ ds [] _ _ rfl ⟨[], rfl, ⟨none, none, none, rfl⟩, by simp, by simp, fun post e => by rw [List.nil_append] at e; rw [← e]⟩
  · rintro pre d post ρ M hds ⟨seen, rfl, ⟨y, z, u, rfl⟩, rfl, hsl, hd⟩
    have hd1 := hd _ hds
    obtain ⟨⟨t, ht⟩, hsz⟩ := hl d (by rw [hds]; simp)
    have ht1 : tagD own (m1 ++ []) d = some t := tag_app (by rw [L.tag]; exact ht) _
    try rw [List.length_map]
    walk_at "w"
    refine w_eq (isi_t ht1 b_str) ?_
    walk_at "w"
    by_cases hs : ∃ s, d = .str s
    · obtain ⟨s, rfl⟩ := hs
      have h1 : isT t "str" = true := by cases ht1; decide
      have hz : s.length ≤ sizeLine := sz (hsz s rfl)
      rw [h1]
      walk_at "w"
      refine w_iSeq (w_var rfl (.inr (.inl ⟨_, rfl, hz, ?_⟩)))
      refine w_lc (inj := fun c => .str ⟨#[c]⟩) s.cps.toList (fun c => decide (97 ≤ c) && decide (c ≤ 122)) (fun c => .str ⟨#[c]⟩) (fun c _ => ?_) ?_
      · walk_at "w"
        refine w_eq (le_a c _) ?_
        walk_at "w"
        refine d_dec (fun a1 => ?_) (fun a1 => ?_)
        · walk_at "w"
          refine w_eq (le_z c _) ?_
          walk_at "w"
          refine ⟨by simp [a1], d_dec (fun a2 => ?_) (fun a2 => rfl)⟩
          walk_at "w"
          rfl
        · walk_at "w"
          exact ⟨by simp [a1], rfl⟩
      · walk_at "w"
        refine w_eq (isi_t ht1 b_str) ?_
        rw [h1]
        walk_at "w"
        generalize hk : (s.cps.toList.filter fun c => decide (97 ≤ c) && decide (c ≤ 122)) = f
        have hnm := filt_len (s := s)
        rw [hk] at hnm
        try rw [List.length_map]
        have no : ¬ IsName s → nameOf (.str s) = none := fun z => by simp [nameOf, z]
        have out : dueGo (limOf ch) [] ds = some seen.length → D.int (seen.length : Nat) = dueD (dueGo (limOf ch) [] ds) := fun z => by rw [z]; simp [dueD]
        refine d_dec (fun b1 => ?_) (fun b1 => ?_)
        · walk_at "w"
          try rw [List.length_map]
          refine d_ncase (fun b2 => ?_) (fun b2 => ?_)
          · walk_at "w"
            refine ⟨out (hd1.trans (dueGo_bad (no fun z => ?_))), rfl⟩
            have := (hnm.mp z).1.2
            simp at b2
            omega
          · walk_at "w"
            refine w_eq (e_lenS hz) ?_
            walk_at "w"
            try rw [List.length_map]
            refine d_ndec (fun b3 => ?_) (fun b3 => ?_)
            · walk_at "w"
              refine ⟨out (hd1.trans (dueGo_bad (no fun z => ?_))), rfl⟩
              have := (hnm.mp z).2
              omega
            · have nm : IsName s := hnm.mpr ⟨⟨by omega, by simp at b2; omega⟩, by omega⟩
              have en : nameOf (.str s) = some s := by simp [nameOf, nm]
              walk_at "w"
              refine w_eq (L.rd _) ?_
              walk_at "w"
              refine w_eq (show hSl false (.lst ds) none (some (seen.length : Int)) (m1 ++ []) = .ok (.lst (seen.map .str)) (m1 ++ []) by rw [hds]; exact take_sl (seen.map D.str) (.str s :: post) (List.length_map _) _) ?_
              refine w_eq (seq_strs seen s rfl false) ?_
              walk_at "w"
              refine d_dec (fun b4 => ?_) (fun b4 => ?_)
              · walk_at "w"
                exact ⟨out (hd1.trans (dueGo_dup en (.inl b4))), rfl⟩
              · walk_at "w"
                have hch : ∀ {Q : D → Mem → Prop} {E : Exn → Mem → Prop} {ρ : EnvD} {M : Mem}, Q (.int (limOf ch)) M → if ch = true then W Q E (eC (.int 12) ρ M) else W Q E (eC (.int 5) ρ M) := fun {Q E ρ M} h => by
                  cases ch <;> exact h
                refine hch ?_
                walk_at "w"
                refine d_dec (fun b5 => ?_) (fun b5 => ?_)
                · walk_at "w"
                  exact ⟨out (hd1.trans (dueGo_dup en (.inr (by omega)))), rfl⟩
                · walk_at "w"
                  refine ⟨seen ++ [s], by simp, ⟨_, _, _, rfl⟩, rfl, by simp at b5 ⊢; omega, fun post2 e2 => ?_⟩
                  have : post2 = post := by
                    rw [hds] at e2
                    simpa using e2.symm
                  rw [this]
                  exact hd1.trans (dueGo_ok en (fun z => z.elim b4 (fun z => by omega)))
        · walk_at "w"
          refine ⟨out (hd1.trans (dueGo_bad (no fun z => ?_))), rfl⟩
          have := (hnm.mp z).1.1
          omega
    · have hs' : ∀ s, d ≠ .str s := fun s e => hs ⟨s, e⟩
      have e : nameOf d = none := by cases d <;> first | rfl | exact absurd rfl (hs' _)
      have h1 := isT_str ht1 hs'
      rw [h1]
      walk_at "w"
      refine w_eq (isi_t ht1 b_str) ?_
      rw [h1]
      walk_at "w"
      exact ⟨by rw [hd1, dueGo_bad e]; simp [dueD], rfl⟩
  · rintro ρ M ⟨seen, e1, ⟨y, z, u, rfl⟩, rfl, _, hd⟩
    refine ⟨[], by simp, ?_⟩
    walk_at "w"
    refine ⟨?_, by simp⟩
    rw [hd [] (by simp)]
    rfl
end
end K02
end
section
set_option maxRecDepth 100000
set_option maxHeartbeats 4000000
/-! Plain mathematics, part 34: Folders refused at once; what is frozen. -/
namespace DM
open PySem L2 DL
variable {own : List Str}
theorem w_kfrz {Q : D → Mem → Prop} {E : Exn → Mem → Prop} {m m' : Mem} {d : D} {r : Res D} (e : kFrz m r = .ok d m') (h : Q d m') : W (fun d m1 => W Q E (frzR m d m1)) E r := by
  cases r with
  | ok a m1 =>
    show W Q E (frzR m a m1)
    have : frzR m a m1 = .ok d m' := e
    rw [this]
    exact h
  | exc x m1 => cases e
  | bad => cases e
theorem w_atR {Q : D → Mem → Prop} {E : Exn → Mem → Prop} {ρ : EnvD} {m : Mem} {a : FE} {cs : List Str} {f : Str} (h : W (fun x m1 => W Q E (atR cs f x m1)) E (a ρ m)) : W Q E (eAt cs f a ρ m) := w_bind h
/-- no list, or an empty one -/
theorem init_bad0 {m : Mem} {x : D} {ch : Bool} (h : (∃ t, tagD own m x = some t ∧ isSeqT t = false) ∨ ItemsAre m [] x) :
    W NoR (fun e m' => e = ⟨"BadFolders", [("index", .int 0)]⟩ ∧ ∃ tl, m' = m ++ tl) (mkR "Folders" 3 (Cm.F_Folders___init__ own) [x, .bl ch] m) := by
  refine w_mkR rfl ?_
  unfold Cm.F_Folders___init__
  refine w_run ?_
  rw [init_parts]
  refine ws_seq (ws_if (w_tor (w_tno (w_tr (w_call (w_cons (w_var rfl (w_nil ⟨rfl, ?_⟩))))))))
  rcases h with ⟨t, ht, hs⟩ | hx
  · refine w_eq (is_list_any (tag_app ht _)) ⟨_, rfl, ?_⟩
    rw [hs]
    refine d_true (d_true (ws_raise (w_cons (w_c (w_nil ⟨_, rfl, rfl, [.ins "Folders" []], ?_⟩)))))
    exact cut_le (Nat.le_refl _)
  · obtain ⟨t, ht, hs⟩ := hx.tag own
    refine w_eq (is_list_any (tag_app ht _)) ⟨_, rfl, ?_⟩
    rw [hs]
    refine d_false (w_tr (w_op (w_cb (w_cons (w_var rfl (w_nil (w_eq (hx.app _).len (w_c (w_eq (e_eqI _ _) ⟨_, rfl, d_T (by decide) ?_⟩)))))))))
    refine ws_raise (w_cons (w_c (w_nil ⟨_, rfl, rfl, [.ins "Folders" []], ?_⟩)))
    exact cut_le (Nat.le_refl _)
end DM
end
section
set_option maxRecDepth 100000
set_option maxHeartbeats 4000000
/-! k02: what is tried; the law. -/
namespace K02
open PySem L2 DL DM
open PySem.PyData (strOk)
local macro_rules | `(tactic| walk_at "w") => `(tactic| repeat (first
  | with_reducible refine ws_seq ?_ | with_reducible refine ws_set ?_ | with_reducible refine ws_if ?_ | with_reducible refine ws_rt ?_ | with_reducible refine ws_ex ?_ | with_reducible refine ws_nx ?_ | with_reducible refine ws_asg ?_ | with_reducible refine ws_forI ?_
  | ((with_reducible apply w_var); exact rfl)
  | with_reducible refine w_c ?_ | with_reducible refine w_nil ?_ | with_reducible refine w_cons ?_ | with_reducible refine w_op ?_ | with_reducible refine w_cb ?_ | with_reducible refine w_un ?_ | with_reducible refine w_call ?_ | with_reducible refine w_tr ?_
  | with_reducible refine w_tan ?_ | with_reducible refine w_tor ?_ | with_reducible refine w_tno ?_ | with_reducible refine w_an ?_ | with_reducible refine w_or ?_ | with_reducible refine w_no ?_ | with_reducible refine w_if ?_ | with_reducible refine w_ch ?_ | with_reducible refine w_tup ?_ | with_reducible refine w_lst ?_ | with_reducible refine w_lstM ?_
  | with_reducible refine w_make ?_ | with_reducible refine w_makeK ?_ | with_reducible refine w_sl ?_ | with_reducible refine w_oNo ?_ | with_reducible refine w_oSo ?_ | with_reducible refine w_lcI ?_ | with_reducible refine w_finF ?_ | with_reducible refine w_finM ?_ | with_reducible refine w_tY ?_
  | with_reducible refine w_gN ?_ | with_reducible refine w_gsNil ?_ | with_reducible refine w_gsCons ?_ | ((with_reducible apply w_gT); exact rfl) | with_reducible refine w_get2 ?_ | with_reducible refine w_m1 ?_ | with_reducible refine w_m0 ?_ | with_reducible refine w_d0K ?_ | with_reducible refine w_d0T ?_
  | with_reducible refine d_true ?_ | with_reducible refine d_false ?_ | with_reducible refine d_nT ?_ | with_reducible refine d_nF ?_ | with_reducible refine w_ok ?_
  | with_reducible refine w_eq (h_add _ _ _) ?_ | with_reducible refine w_eq (e_eqI _ _) ?_ | with_reducible refine w_eq (e_neI _ _) ?_ | with_reducible refine w_eq (h_cmp _ _ _ _) ?_ | with_reducible refine w_eq (e_sub _ _) ?_ | with_reducible refine w_eq (e_lenL _) ?_ | with_reducible refine w_eq (e_lenT _) ?_
  | with_reducible refine ⟨_, rfl, ?_⟩ | refine And.intro rfl ?_ | refine And.intro (And.intro rfl rfl) ?_ | refine And.intro (sz (by simp)) ?_))

section
variable {m : Mem} {x : D} {ch : Bool}
theorem tried_good {ns : List Str} (g : GoodNames ns ch) (hx : NamesAre m ns x) : F__law_tried [x, .bl ch] m = .ok (.tup [.str "made", .tup (ns.map .str)]) m := by
  refine W.eq ?_
  unfold F__law_tried b__law_tried
  refine w_runS ?_
  walk_at "w"
  refine ws_try ?_
  walk_at "w"
  refine w_atR (w_frz ?_)
  walk_at "w"
  refine w_kfrz (mk_house (own := own) g hx) (w_eq (house_names _ _ _) ?_)
  walk_at "w"
  rfl
theorem tried_bad {k : Nat} (h : W NoR (fun e m' => e = ⟨"BadFolders", [("index", .int k)]⟩ ∧ ∃ tl, m' = m ++ tl) (mkR "Folders" 3 (Cm.F_Folders___init__ own) [x, .bl ch] m)) : F__law_tried [x, .bl ch] m = .ok (.tup [.str "bad", .int k]) m := by
  refine W.eq ?_
  unfold F__law_tried b__law_tried
  refine w_runT ?_
  walk_at "w"
  refine ws_try ?_
  walk_at "w"
  refine w_atR (w_frz ?_)
  walk_at "w"
  refine W.mono (show W _ _ (mkR "Folders" 3 F_Folders___init__ [x, .bl ch] m) from h) (fun _ _ h => h.elim) ?_
  rintro _ _ ⟨rfl, tl, rfl⟩
  refine ⟨⟨rfl, by simp [startD]⟩, ?_⟩
  walk_at "w"
  exact ⟨by simp, rfl, rfl⟩
/-- what is due is what is tried -/
theorem turn_ok (hx : (∃ t, tagD own m x = some t ∧ isSeqT t = false) ∨ ∃ ds, ItemsAre m ds x ∧ (∀ d ∈ ds, Looked own m d) ∧ ds.length ≤ 1000) :
    (∃ k : Nat, F__law_due [x, .bl ch] m = .ok (.int k) m ∧ F__law_tried [x, .bl ch] m = .ok (.tup [.str "bad", .int k]) m) ∨
    ∃ ns, GoodNames ns ch ∧ NamesAre m ns x ∧ F__law_due [x, .bl ch] m = .ok .non m ∧ F__law_tried [x, .bl ch] m = .ok (.tup [.str "made", .tup (ns.map .str)]) m := by
  rcases hx with ⟨t, ht, hs⟩ | ⟨ds, hx, hl, hz⟩
  · exact .inl ⟨0, due_no ht hs, tried_bad (init_bad0 (.inl ⟨t, ht, hs⟩))⟩
  · have hd := due_items (ch := ch) hx hl
    by_cases he : ds = []
    · subst he
      exact .inl ⟨0, hd, tried_bad (init_bad0 (.inr hx))⟩
    · rw [if_neg he] at hd
      cases hk : dueGo (limOf ch) [] ds with
      | some k =>
        rw [hk] at hd
        exact .inl ⟨k, hd, tried_bad (init_bad hx hl hk hz)⟩
      | none =>
        rw [hk] at hd
        obtain ⟨ns, rfl, g⟩ := due_good he hk
        have hn : NamesAre m ns x := by
          cases hx with
          | lst => exact .lst
          | tup => exact .tup
          | mref e => exact .mref e
        exact .inr ⟨ns, g, hn, hd, tried_good g hn⟩
end
end K02
end
section
set_option maxRecDepth 100000
set_option maxHeartbeats 4000000
/-! k02: the law. -/
namespace K02
open PySem L2 DL DM
open PySem.PyData (strOk)
local macro_rules | `(tactic| walk_at "w") => `(tactic| repeat (first
  | with_reducible refine ws_seq ?_ | with_reducible refine ws_set ?_ | with_reducible refine ws_if ?_ | with_reducible refine ws_rt ?_ | with_reducible refine ws_ex ?_ | with_reducible refine ws_nx ?_ | with_reducible refine ws_asg ?_ | with_reducible refine ws_forI ?_
  | ((with_reducible apply w_var); exact rfl)
  | with_reducible refine w_c ?_ | with_reducible refine w_nil ?_ | with_reducible refine w_cons ?_ | with_reducible refine w_op ?_ | with_reducible refine w_cb ?_ | with_reducible refine w_un ?_ | with_reducible refine w_call ?_ | with_reducible refine w_tr ?_
  | with_reducible refine w_tan ?_ | with_reducible refine w_tor ?_ | with_reducible refine w_tno ?_ | with_reducible refine w_an ?_ | with_reducible refine w_or ?_ | with_reducible refine w_no ?_ | with_reducible refine w_if ?_ | with_reducible refine w_ch ?_ | with_reducible refine w_tup ?_ | with_reducible refine w_lst ?_ | with_reducible refine w_lstM ?_
  | with_reducible refine w_make ?_ | with_reducible refine w_makeK ?_ | with_reducible refine w_sl ?_ | with_reducible refine w_oNo ?_ | with_reducible refine w_oSo ?_ | with_reducible refine w_lcI ?_ | with_reducible refine w_finF ?_ | with_reducible refine w_finM ?_ | with_reducible refine w_tY ?_
  | with_reducible refine w_gN ?_ | with_reducible refine w_gsNil ?_ | with_reducible refine w_gsCons ?_ | ((with_reducible apply w_gT); exact rfl) | with_reducible refine w_get2 ?_ | with_reducible refine w_m1 ?_ | with_reducible refine w_m0 ?_ | with_reducible refine w_d0K ?_ | with_reducible refine w_d0T ?_
  | with_reducible refine d_true ?_ | with_reducible refine d_false ?_ | with_reducible refine d_nT ?_ | with_reducible refine d_nF ?_ | with_reducible refine w_ok ?_
  | with_reducible refine w_eq (h_add _ _ _) ?_ | with_reducible refine w_eq (e_eqI _ _) ?_ | with_reducible refine w_eq (e_neI _ _) ?_ | with_reducible refine w_eq (h_cmp _ _ _ _) ?_ | with_reducible refine w_eq (e_sub _ _) ?_ | with_reducible refine w_eq (e_lenL _) ?_ | with_reducible refine w_eq (e_lenT _) ?_
  | with_reducible refine ⟨_, rfl, ?_⟩ | refine And.intro rfl ?_ | refine And.intro (And.intro rfl rfl) ?_ | refine And.intro (sz (by simp)) ?_))

def oddL : List D := [.non, .int 5, .str "", .str "A", .str "abcdefghi", .str "a b", .str "a1", .lst [.str "a"], .tup [.str "a"], .mref 2, .bl true, .str "-", .str "aB", .str "ab\n"]
/-- an odd thing, or a text -/
def OD (d : D) : Prop := d ∈ oddL ∨ ∃ s : Str, d = .str s ∧ s.length ≤ 1000
theorem od_looked {m : Mem} {d : D} (h2 : m[2]? = some (.dK [])) (h : OD d) : Looked own m d := by
  rcases h with h | ⟨s, rfl, h⟩
  · simp only [oddL, List.mem_cons, List.not_mem_nil, or_false] at h
    rcases h with rfl | rfl | rfl | rfl | rfl | rfl | rfl | rfl | rfl | rfl | rfl | rfl | rfl | rfl
    all_goals refine ⟨by first | exact ⟨_, rfl⟩ | exact ⟨.b "dict", by simp [tagD, h2]⟩, fun s e => ?_⟩
    all_goals first
      | (cases e; done)
      | (cases e; decide +kernel)
      | skip
  · exact ⟨⟨_, rfl⟩, fun z e => by cases e; exact h⟩
theorem names_od {s : Str} (h : IsName s) : OD (.str s) := .inr ⟨s, rfl, Nat.le_trans h.2.1 (by decide)⟩
theorem disp_a (ρ : EnvD) (m : Mem) : eFrz (eDispK (fpCons (eC (.str "a")) (eC (.int 1)) fpNil)) ρ m = .ok (.dK [(.inr "a", .int 1)]) m := by
  have e1 : (m ++ [MO.dK []])[m.length]? = some (.dK []) := by simp
  have e2 : (m ++ [MO.dK []]).set m.length (.dK (allT [] [(.inr "a", .int 1)])) = m ++ [.dK [(.inr "a", .int 1)]] := by simp [allT, putT]
  have e3 : (m ++ [MO.dK [(.inr "a", .int 1)]])[m.length]? = some (.dK [(.inr "a", .int 1)]) := by simp
  have e4 : (m ++ [MO.dK [(.inr "a", .int 1)]]).set m.length .gone = m ++ [.gone] := by simp
  have e5 : eDispK (fpCons (eC (.str "a")) (eC (.int 1)) fpNil) ρ m = .ok (.mref m.length) (m ++ [.dK [(.inr "a", .int 1)]]) := by
    rw [← e2]
    show (match (some [(.inr "a", .int 1)] : Option (List (Key × D))), (m ++ [MO.dK []])[m.length]? with
      | some kvs, some (.dK []) => if kvs.length ≤ 15 then Res.ok (D.mref m.length) ((m ++ [MO.dK []]).set m.length (.dK (allT [] kvs))) else .bad
      | _, _ => .bad) = _
    rw [e1]
    rfl
  show (eDispK (fpCons (eC (.str "a")) (eC (.int 1)) fpNil) ρ m).bind (fun d m1 => frzR m d m1) = _
  rw [e5]
  simp only [bind_ok, frzR, e3, e4]
  rw [cut_tl rfl (by simp) (fun i _ => .inl rfl)]
theorem ga : GoodNames ["a"] false := ⟨by simp, by simp, by decide +kernel, by decide⟩
noncomputable def turnB : FS := sSeq p_law_107 (sSeq p_law_108 (sSeq p_law_109 (sSeq p_law_110 (sSeq p_law_112 (sSeq p_law_113 (sSeq p_law_115 (sSeq p_law_116 p_law_117)))))))
theorem p106 : p_law_106 = sFor (iRg1 (eC (.int 8))) (gN 3) turnB := rfl
/-- what stands behind a turn -/
def Inv (script : D) (C : Nat) (ρ : EnvD) (m : Mem) : Prop := (∃ x3 x4 x5 x6 x7 x8 x9, ρ = [some script, some (.mref 1), some (.lst oddL), x3, x4, x5, x6, x7, x8, x9]) ∧ ∃ tl, DM.St C tl m ∧ tl[0]? = some (.dK [])
/-- the end of a turn, whatever is handed over -/
theorem end_ok {script : D} {C : Nat} {tl m : Mem} {x3 x5 x6 x8 x9 : Option D} {ch : Bool} {x : D} (hs : DM.St C tl m) (h0 : tl[0]? = some (.dK []))
    (hx : (∃ t, tagD own m x = some t ∧ isSeqT t = false) ∨ ∃ ds, ItemsAre m ds x ∧ (∀ d ∈ ds, Looked own m d) ∧ ds.length ≤ 1000) :
    WS (Inv script C) NoR No2 (Inv script C) NoE (sSeq p_law_115 (sSeq p_law_116 p_law_117) [some script, some (.mref 1), some (.lst oddL), x3, some (.bl ch), x5, x6, some x, x8, x9] m) := by
  unfold p_law_115 p_law_116 p_law_117 p_law_118
  walk_at "w"
  rcases turn_ok (ch := ch) hx with ⟨k, e1, e2⟩ | ⟨ns, g, hn, e1, e2⟩
  · refine w_eq e1 ?_
    walk_at "w"
    refine w_eq (e_isN _) ?_
    walk_at "w"
    refine d_F rfl ?_
    walk_at "w"
    refine w_eq e2 ?_
    walk_at "w"
    rw [q_same]
    refine w_eq (same_tup (own := own) (n := 3) (xs := [.str "bad", .int k]) (by
      intro z hz
      simp at hz
      rcases hz with rfl | rfl
      · exact same_str (by decide +kernel)
      · exact same_int _) m) ?_
    walk_at "w"
    exact ⟨⟨_, _, _, _, _, _, _, rfl⟩, tl, hs, h0⟩
  · refine w_eq e1 ?_
    walk_at "w"
    refine w_eq (e_isN _) ?_
    walk_at "w"
    refine d_T rfl ?_
    walk_at "w"
    refine w_eq (show hTuple [x] m = .ok (.tup (ns.map .str)) m by
      cases hn with
      | lst => rfl
      | tup => rfl
      | mref e => exact e_tupM e) ?_
    walk_at "w"
    refine w_eq e2 ?_
    walk_at "w"
    rw [q_same]
    refine w_eq (same_tup (own := own) (n := 3) (xs := [.str "made", .tup (ns.map .str)]) (by
      intro z hz
      simp at hz
      rcases hz with rfl | rfl
      · exact same_str (by decide +kernel)
      · refine same_tup fun y hy => ?_
        obtain ⟨s, hs, rfl⟩ := List.mem_map.mp hy
        exact same_str (g.nm s hs).ok) m) ?_
    walk_at "w"
    exact ⟨⟨_, _, _, _, _, _, _, rfl⟩, tl, hs, h0⟩
end K02
end
section
set_option maxRecDepth 100000
set_option maxHeartbeats 4000000
/-! k02: the law, put together. -/
namespace K02
open PySem L2 DL DM
open PySem.PyData (strOk)
local macro_rules | `(tactic| walk_at "w") => `(tactic| repeat (first
  | with_reducible refine ws_seq ?_ | with_reducible refine ws_set ?_ | with_reducible refine ws_if ?_ | with_reducible refine ws_rt ?_ | with_reducible refine ws_ex ?_ | with_reducible refine ws_nx ?_ | with_reducible refine ws_asg ?_ | with_reducible refine ws_forI ?_
  | ((with_reducible apply w_var); exact rfl)
  | with_reducible refine w_c ?_ | with_reducible refine w_nil ?_ | with_reducible refine w_cons ?_ | with_reducible refine w_op ?_ | with_reducible refine w_cb ?_ | with_reducible refine w_un ?_ | with_reducible refine w_call ?_ | with_reducible refine w_tr ?_
  | with_reducible refine w_tan ?_ | with_reducible refine w_tor ?_ | with_reducible refine w_tno ?_ | with_reducible refine w_an ?_ | with_reducible refine w_or ?_ | with_reducible refine w_no ?_ | with_reducible refine w_if ?_ | with_reducible refine w_ch ?_ | with_reducible refine w_tup ?_ | with_reducible refine w_lst ?_ | with_reducible refine w_lstM ?_
  | with_reducible refine w_make ?_ | with_reducible refine w_makeK ?_ | with_reducible refine w_sl ?_ | with_reducible refine w_oNo ?_ | with_reducible refine w_oSo ?_ | with_reducible refine w_lcI ?_ | with_reducible refine w_finF ?_ | with_reducible refine w_finM ?_ | with_reducible refine w_tY ?_
  | with_reducible refine w_gN ?_ | with_reducible refine w_gsNil ?_ | with_reducible refine w_gsCons ?_ | ((with_reducible apply w_gT); exact rfl) | with_reducible refine w_get2 ?_ | with_reducible refine w_m1 ?_ | with_reducible refine w_m0 ?_ | with_reducible refine w_d0K ?_ | with_reducible refine w_d0T ?_
  | with_reducible refine d_true ?_ | with_reducible refine d_false ?_ | with_reducible refine d_nT ?_ | with_reducible refine d_nF ?_ | with_reducible refine w_ok ?_
  | with_reducible refine w_eq (h_add _ _ _) ?_ | with_reducible refine w_eq (e_eqI _ _) ?_ | with_reducible refine w_eq (e_neI _ _) ?_ | with_reducible refine w_eq (h_cmp _ _ _ _) ?_ | with_reducible refine w_eq (e_sub _ _) ?_ | with_reducible refine w_eq (e_lenL _) ?_ | with_reducible refine w_eq (e_lenT _) ?_
  | with_reducible refine ⟨_, rfl, ?_⟩ | refine And.intro rfl ?_ | refine And.intro (And.intro rfl rfl) ?_ | refine And.intro (sz (by simp)) ?_))

theorem slM {xs : List D} {k : Nat} (m : Mem) : hSl true (.lst xs) none (some (k : Int)) m = .ok (.mref m.length) (m ++ [.lst (xs.take k)]) := by
  have e : cutD xs none (some (k : Nat)) = xs.take k := by
    unfold cutD
    rw [HT.sIx_none, HT.sIx_nat, List.drop_zero, Nat.sub_zero]
    by_cases h : k ≤ xs.length
    · rw [Nat.min_eq_left h]
    · rw [Nat.min_eq_right (by omega), List.take_of_length_le (by simp), List.take_of_length_le (by omega)]
  show Res.ok _ (m ++ [.lst (cutD _ _ _)]) = _
  rw [e]
theorem St.two {C : Nat} {tl m : Mem} (h : DM.St C tl m) (h0 : tl[0]? = some (.dK [])) : m[2]? = some (.dK []) := by
  obtain ⟨cs, r, c, x, rfl, _⟩ := h
  simpa using h0
theorem St.at' {C : Nat} {tl m : Mem} (h : DM.St C tl m) (k : Nat) : m[k + 2]? = tl[k]? := by
  obtain ⟨cs, r, c, x, rfl, _⟩ := h
  simp
/-- behind the things: what is handed over -/
theorem mid_ok {script : D} {C : Nat} {tl m : Mem} {x3 x5 x7 x8 x9 : Option D} {ch : Bool} {ds : List D} {i : Nat} (hs : DM.St C tl m) (hC : C + 10 < 2 ^ 40) (h0 : tl[0]? = some (.dK [])) (hi : tl[i]? = some (.lst ds)) (hd : ∀ d ∈ ds, OD d) (hz : ds.length ≤ 1000) :
    WS (Inv script (C + 10)) NoR No2 (Inv script (C + 10)) NoE (sSeq p_law_112 (sSeq p_law_113 (sSeq p_law_115 (sSeq p_law_116 p_law_117))) [some script, some (.mref 1), some (.lst oddL), x3, some (.bl ch), x5, some (.mref (i + 2)), x7, x8, x9] m) := by
  have mono : ∀ ρ m, Inv script (C + 2) ρ m → Inv script (C + 10) ρ m := fun ρ m ⟨a, tl, h1, h2⟩ => ⟨a, tl, h1.mono (by omega), h2⟩
  have mono3 : ∀ ρ m, Inv script (C + 1 + 1 + 1) ρ m → Inv script (C + 10) ρ m := fun ρ m ⟨a, tl, h1, h2⟩ => ⟨a, tl, h1.mono (by omega), h2⟩
  have hm : m[i + 2]? = some (.lst ds) := by rw [St.at' hs]; exact hi
  refine ws_seq ?_
  unfold p_law_112
  walk_at "w"
  refine w_eq (e_tupM hm) ?_
  walk_at "w"
  try rw [q_pick]
  refine w_pick hs (by omega) (by simp) (by simp) fun d m1 hd1 hs1 => ?_
  have hm1 : m1[i + 2]? = some (.lst ds) := by rw [St.at' hs1]; exact hi
  have hit : ∀ {m2 : Mem}, m2[i + 2]? = some (.lst ds) → ItemsAre m2 ds d := fun {m2} h => by
    simp at hd1
    rcases hd1 with rfl | rfl
    · exact .mref h
    · exact .tup
  unfold p_law_113
  walk_at "w"
  try rw [q_draw]
  refine w_draw hs1 (by omega) (by decide) (by decide) fun k m2 _ _ hs2 => ?_
  have hm2 : m2[i + 2]? = some (.lst ds) := by rw [St.at' hs2]; exact hi
  walk_at "w"
  refine d_dec (fun hk => ?_) (fun hk => ?_)
  · unfold p_law_114
    walk_at "w"
    refine w_eq (disp_a _ _) ?_
    walk_at "w"
    refine w_frz ?_
    walk_at "w"
    refine w_kfrz (mk_house (own := own) ga .lst) ?_
    walk_at "w"
    try rw [q_pick]
    refine w_pick (hs2.app [.dK []]) (by omega) (by simp) (by simp) fun z m3 hz3 hs3 => ?_
    have e2 : m3[tl.length + 2]? = some (.dK []) := by rw [St.at' hs3]; simp
    have h03 : (tl ++ [MO.dK []])[0]? = some (.dK []) := by rw [List.getElem?_append_left (List.getElem?_eq_some_iff.mp h0).1]; exact h0
    have nd : m2.length = tl.length + 2 := hs2.length
    rw [nd] at hz3
    refine (end_ok hs3 h03 ?_).mono (fun ρ m h => mono3 ρ m h) (fun _ _ h => h) (fun _ _ h => h) (fun ρ m h => mono3 ρ m h) fun _ _ _ h => h
    simp only [List.mem_cons, List.not_mem_nil, or_false] at hz3
    rcases hz3 with rfl | rfl | rfl | rfl | rfl | rfl | rfl | rfl | rfl
    · exact .inr ⟨[], .lst, by simp, by simp⟩
    · exact .inr ⟨[], .tup, by simp, by simp⟩
    · exact .inl ⟨_, rfl, by decide⟩
    · exact .inl ⟨_, rfl, by decide⟩
    · exact .inl ⟨_, rfl, by decide⟩
    · exact .inl ⟨.b "dict", by simp [tagD, e2], by decide⟩
    · exact .inl ⟨_, rfl, by decide⟩
    · exact .inl ⟨_, rfl, by decide⟩
    · exact .inl ⟨.o "Folders", house_tag (by decide +kernel) _ _ _, rfl⟩
  · refine ws_nx ?_
    exact (end_ok hs2 h0 (.inr ⟨ds, hit hm2, fun d hd2 => od_looked (St.two hs2 h0) (hd d hd2), hz⟩)).mono mono (fun _ _ h => h) (fun _ _ h => h) mono fun _ _ _ h => h
theorem turn_all {script : D} {C : Nat} {ρ : EnvD} {m : Mem} (h : Inv script C ρ m) (hC : C + 400 < 2 ^ 40) (x : D) : WS (Inv script (C + 200)) NoR No2 (Inv script (C + 200)) NoE (turnB (ρ.set 3 (some x)) m) := by
  obtain ⟨⟨x3, x4, x5, x6, x7, x8, x9, rfl⟩, tl, hs, h0⟩ := h
  have mono : ∀ ρ m, Inv script (C + 1 + 135 + 1 + 3 + 10) ρ m → Inv script (C + 200) ρ m := fun ρ m ⟨a, tl, h1, h2⟩ => ⟨a, tl, h1.mono (by omega), h2⟩
  unfold turnB p_law_107 p_law_108 p_law_109 p_law_110
  walk_at "w"
  try rw [q_draw]
  refine w_draw hs (by omega) (by decide) (by decide) fun d0 m1 _ _ hs1 => ?_
  walk_at "w"
  try rw [q_names]
  refine w_names hs1 (by decide) (by decide) (by omega) fun ns m2 hn nd nm hs2 => ?_
  walk_at "w"
  have hn2 : ns.length = 13 := by omega
  refine w_eq (show hAdd (.lst (ns.map .str)) (.lst [.str "zz"]) m2 = .ok (.lst ((ns ++ [("zz" : Str)]).map .str)) m2 by
    rw [h_addL, if_pos (sz (by simp [hn2]))]
    simp) ?_
  walk_at "w"
  try rw [q_draw]
  refine w_draw hs2 (by omega) (by decide) (by decide) fun k m3 k0 k1 hs3 => ?_
  walk_at "w"
  have ek : (1 + k : Int) = ((1 + k.toNat : Nat) : Int) := by omega
  rw [ek]
  refine w_eq (slM m3) ?_
  walk_at "w"
  generalize hds : ((ns ++ [("zz" : Str)]).map D.str).take (1 + k.toNat) = ds
  have hne : 0 < ds.length := by
    rw [← hds]
    simp [hn2]
    omega
  have hlen : ds.length ≤ 14 := by
    rw [← hds]
    simp [hn2]
    omega
  have hod : ∀ d ∈ ds, OD d := fun d hd => by
    rw [← hds] at hd
    have := List.mem_of_mem_take hd
    simp at this
    rcases this with ⟨s, h1, rfl⟩ | rfl
    · exact names_od (nm s h1)
    · exact names_od (by decide +kernel)
  have hs4 := hs3.app [.lst ds]
  have l3 : m3.length = tl.length + 2 := hs3.length
  rw [l3]
  have h04 : (tl ++ [MO.lst ds])[0]? = some (.dK []) := by rw [List.getElem?_append_left (List.getElem?_eq_some_iff.mp h0).1]; exact h0
  try rw [q_draw]
  refine w_draw hs4 (by omega) (by decide) (by decide) fun k2 m4 _ _ hs5 => ?_
  walk_at "w"
  have e4 : m4[tl.length + 2]? = some (.lst ds) := by rw [St.at' hs5]; simp
  refine d_dec (fun hk => ?_) (fun hk => ?_)
  · unfold p_law_111
    walk_at "w"
    refine w_eq (show hAdd (.lst oddL) (.mref (tl.length + 2)) m4 = .ok (.lst (oddL ++ ds)) m4 by
      simp only [hAdd, lstE, e4]
      rw [if_pos (sz (by simp [oddL]; omega))]) ?_
    walk_at "w"
    try rw [q_pick]
    refine w_pick hs5 (by omega) (by simp [oddL]) (by simp [oddL]; omega) fun z m5 hz hs6 => ?_
    have e5 : m5[tl.length + 2]? = some (.lst ds) := by rw [St.at' hs6]; simp
    refine w_gIx ?_
    walk_at "w"
    refine w_eq (e_lenM e5) ?_
    walk_at "w"
    try rw [q_draw]
    refine w_draw hs6 (by omega) (by omega) (by omega) fun j m6 j0 j1 hs7 => ?_
    have e6 : m6[tl.length + 2]? = some (.lst ds) := by rw [St.at' hs7]; simp
    refine ⟨_, _, _, j.toNat, rfl, rfl, e6, by simp [ixN, j0, j1], ?_⟩
    have hs8 := hs7.set (.lst (ds.set j.toNat z))
    refine (mid_ok (i := tl.length) (ds := ds.set j.toNat z) hs8 (by omega) (by rw [List.getElem?_append_left (List.getElem?_eq_some_iff.mp h0).1]; exact h0) (by simp) (fun d hd => ?_) (by simp; omega)).mono (fun ρ m h => mono ρ m h) (fun _ _ h => h) (fun _ _ h => h) (fun ρ m h => mono ρ m h) fun _ _ _ h => h
    rcases List.mem_or_eq_of_mem_set hd with h | rfl
    · exact hod d h
    · rcases List.mem_append.mp hz with h | h
      · exact .inl h
      · exact hod _ h
  · refine ws_nx ?_
    exact (mid_ok (i := tl.length) (ds := ds) hs5 (by omega) h04 (by simp) hod (by omega)).mono (fun ρ m ⟨a, tl, h1, h2⟩ => ⟨a, tl, h1.mono (by omega), h2⟩) (fun _ _ h => h) (fun _ _ h => h) (fun ρ m ⟨a, tl, h1, h2⟩ => ⟨a, tl, h1.mono (by omega), h2⟩) fun _ _ _ h => h
theorem law_ok (cs : List Int) : ∃ m, F_law [.slst (cs.map .int)] [] = .ok (.bl true) m := by
  refine law_of (F := F_law) ?_
  unfold F_law b_law p_law_104 p_law_105 p_law_119
  refine w_run ?_
  walk_at "w"
  try rw [q_start]
  refine w_start fun m0 hs0 => ?_
  have l0 : m0.length = 2 := hs0.length
  walk_at "w"
  rw [l0, p106]
  refine ws_forI (w_iRg1 ?_)
  walk_at "w"
  refine ⟨by decide, ?_⟩
  refine ws_forP (all := List.range 8) (fun pre ρ m => Inv (.slst (cs.map .int)) (200 * pre.length) ρ m) (fun pre x post ρ m ha hI => ?_) (fun ρ m hI => ?_) (List.range 8) [] _ _ rfl ⟨⟨_, _, _, _, _, _, _, rfl⟩, [.dK []], hs0.app [.dK []], rfl⟩
  · have hl : pre.length < 8 := by
      have := congrArg List.length ha
      simp at this
      omega
    refine w_gN ?_
    have q := turn_all hI (by omega) (.int (0 + (x : Nat)))
    refine q.mono (fun ρ m ⟨a, tl, h1, h2⟩ => ⟨a, tl, h1.mono (by simp; omega), h2⟩) (fun _ _ h => h.elim) (fun _ _ h => h.elim) (fun ρ m ⟨a, tl, h1, h2⟩ => ⟨a, tl, h1.mono (by simp; omega), h2⟩) fun _ _ _ h => h.elim
  · walk_at "w"
    rfl
end K02
end
section
set_option maxRecDepth 100000
set_option maxHeartbeats 0
open PySem PySem.W PySem.Calls PyProof.Rows
theorem PySem.Challenge.cw_blockshares_k02_folders_refused_holds : PySem.Challenge.rw_blockshares_k02_folders_refused.Holds := by
  w_on; o_law
  refine HandSHeadRun.head_any (r := OpenLaw.row PySem.Challenge.rw_blockshares_k02_folders_refused) (q := view (OpenLaw.row PySem.Challenge.rw_blockshares_k02_folders_refused).prog [22]) (H := K02.hk) (ob := K02.ob) (M := 4000) (loose := K02.loose) (d := HandSHeadRun.topDef (OpenLaw.row PySem.Challenge.rw_blockshares_k02_folders_refused).prog 22) (kwd := []) K02.ob_eq
    (by kernel_rfl) (fun s => by kernel_rfl) K02.run (by kernel_rfl) (by kernel_rfl) (by kernel_rfl) (by rfl) (by first | assumption | decide +kernel) (by decide +kernel) ⟨rfl, rfl, rfl, rfl, rfl, by decide +kernel⟩ ?hw ?hc
  case hw => w_witness2
  case hc =>
    refine DL.walk_ofD (l := PySem.Challenge.rw_blockshares_k02_folders_refused) (n := 63) (k := 5) (x := "_law_script") (F := K02.F_law) rfl (by decide) (by kernel_rfl) ⟨rfl, by decide, by decide⟩ ?G (fun cs _ => K02.law_ok cs)
    intro w mg fa h Y G hmg0
    obtain ⟨K, KX, c⟩ := Y
    have hmg : mg ("law" : PySem.Str) = some (.ref fa) := by
      have e : (HandSHeadRun.topDef (OpenLaw.row PySem.Challenge.rw_blockshares_k02_folders_refused).prog 22).name = ("law" : PySem.Str) := by kernel_rfl
      rw [← e]
      exact hmg0
    have T := K02.tx KX G c
    obtain ⟨hm, fd, F⟩ := T.d_law
    have e := hmg.symm.trans hm
    cases e
    have b := L2.FunD.bindsA (ps := ["_law_script"]) F fun _ _ _ _ _ _ us hl => match us, hl with | [_], _ => rfl
    exact ⟨K, fd, KX, fun s v => b s [v] rfl, fun base _ _ => K02.fn_law T F⟩
end
